import PyProof.Rows.All
import Wide.All
import OpenK.AllK
import Wide.FinOn
import HandS.ForMost
import HandS.ExcCtx
import HandS.ExcOwn
import HandS.ForExc
import HandS.IsInst
import HandS.TupAny
import HandS.TupMul
import HandS.Wide
import HandS.Style
import KE.SortData
import HandS.TupLen
import HandS.TryOnly
import HandS.WordsExc
import HandS.Comp
import HandS.DictComp
import HandS.Iter
import HandS.Small
import HandS.DictTup
import HandS.TupLe
import HandS.Conv
import HandS.Zip
import KE.GoesMore
import KE.GoesZip
import HandS.MapJoin
import HandS.Sort
import HandS.List
import PyProof.SeqI3
import KE.DataFind
import HandS.SetFor
import HandS.Strs
import HandS.TupSets
import HandS.Ends
import HandS.HotCalls
import HandS.ExcIs
import HandS.Text
import PySem.Challenge.RW_homelanes_k31_whole_the_first_come_as_if
set_option Elab.async false
set_option linter.all false
section

/-! The data layer: plain data D in place of values and heaps. -/
namespace DL
open PySem L2
inductive D where
  | non | bl (b : Bool) | int (i : Int) | str (s : Str)
  | tup (xs : List D) | lst (xs : List D)
  | dk (kvs : List (Key × D)) | dt (kvs : List (List Key × D))
  | scr (ns : List Int)
  | ob (a : Addr)
mutual
def Rep (K : PySem.W.Frag) (R : Hp) : D → V → Prop
  | .non, x => x = .non
  | .bl b, x => x = .bl b
  | .int i, x => x = .int i
  | .str s, x => x = .str s
  | .tup ds, x => ∃ a vs, x = .ref a ∧ R a = some (.tup vs) ∧ RepL K R ds vs
  | .lst ds, x => ∃ a vs, x = .ref a ∧ R a = some (.lst vs) ∧ RepL K R ds vs
  | .dk kvs, x => ∃ a vs o, x = .ref a ∧ R a = some (.frz o (.dK vs)) ∧ RepK K R kvs vs
  | .dt kvs, x => ∃ a vs o, x = .ref a ∧ R a = some (.frz o (.dT vs)) ∧ RepT K R kvs vs
  | .scr ns, x => ∃ a, x = .ref a ∧ SqL K R a (ns.map V.int)
  | .ob a, x => x = .ref a
def RepL (K : PySem.W.Frag) (R : Hp) : List D → List V → Prop
  | [], vs => vs = []
  | d :: ds, vs => ∃ v r, vs = v :: r ∧ Rep K R d v ∧ RepL K R ds r
def RepK (K : PySem.W.Frag) (R : Hp) : List (Key × D) → List (Key × V) → Prop
  | [], vs => vs = []
  | kd :: ds, vs => ∃ k v r, vs = (k, v) :: r ∧ RepP K R kd k v ∧ RepK K R ds r
def RepP (K : PySem.W.Frag) (R : Hp) : Key × D → Key → V → Prop
  | (k, d), k', v => k' = k ∧ Rep K R d v
def RepT (K : PySem.W.Frag) (R : Hp) : List (List Key × D) → List (List Key × V) → Prop
  | [], vs => vs = []
  | kd :: ds, vs => ∃ k v r, vs = (k, v) :: r ∧ RepTP K R kd k v ∧ RepT K R ds r
def RepTP (K : PySem.W.Frag) (R : Hp) : List Key × D → List Key → V → Prop
  | (k, d), k', v => k' = k ∧ Rep K R d v
end
def Sub (R R' : Hp) : Prop := ∀ a o, R a = some o → R' a = some o
theorem Sub.refl (R : Hp) : Sub R R := fun _ _ h => h
theorem Sub.trans {R R' R'' : Hp} (s : Sub R R') (t : Sub R' R'') : Sub R R'' := fun a o h => t a o (s a o h)
theorem Sub.rd {R R' : Hp} (s : Sub R R') {a : Addr} {u : HO} (h : Rd R a u) : Rd R' a u := by
  rcases h with h | ⟨o, h⟩
  · exact .inl (s _ _ h)
  · exact .inr ⟨o, s _ _ h⟩
theorem Sub.sqL {K : PySem.W.Frag} {R R' : Hp} (s : Sub R R') {a : Addr} {xs : List V} (h : SqL K R a xs) : SqL K R' a xs := by
  rcases h with h | h
  · exact .inl (s.rd h)
  · exact .inr h
theorem Sub.upd {H : Hp} {p : Addr} {o : HO} (h : H p = none) : Sub H (upd H p o) := fun a u e => by
  rw [upd_ne (ne_of_none e h)]
  exact e
mutual
theorem Rep.mono {K : PySem.W.Frag} {R R' : Hp} (s : Sub R R') : ∀ (d : D) {v : V}, Rep K R d v → Rep K R' d v
  | .non, v, h => h
  | .bl _, v, h => h
  | .int _, v, h => h
  | .str _, v, h => h
  | .tup ds, v, h => by
    obtain ⟨a, vs, e, h1, h2⟩ := h
    exact ⟨a, vs, e, s _ _ h1, RepL.mono s ds h2⟩
  | .lst ds, v, h => by
    obtain ⟨a, vs, e, h1, h2⟩ := h
    exact ⟨a, vs, e, s _ _ h1, RepL.mono s ds h2⟩
  | .dk ds, v, h => by
    obtain ⟨a, vs, o, e, h1, h2⟩ := h
    exact ⟨a, vs, o, e, s _ _ h1, RepK.mono s ds h2⟩
  | .dt ds, v, h => by
    obtain ⟨a, vs, o, e, h1, h2⟩ := h
    exact ⟨a, vs, o, e, s _ _ h1, RepT.mono s ds h2⟩
  | .scr ns, v, h => by
    obtain ⟨a, e, h1⟩ := h
    exact ⟨a, e, s.sqL h1⟩
  | .ob _, v, h => h
theorem RepL.mono {K : PySem.W.Frag} {R R' : Hp} (s : Sub R R') : ∀ (d : List D) {v : List V}, RepL K R d v → RepL K R' d v
  | [], v, h => h
  | d :: ds, v, h => by
    obtain ⟨x, r, e, h1, h2⟩ := h
    exact ⟨x, r, e, Rep.mono s d h1, RepL.mono s ds h2⟩
theorem RepK.mono {K : PySem.W.Frag} {R R' : Hp} (s : Sub R R') : ∀ (d : List (Key × D)) {v : List (Key × V)}, RepK K R d v → RepK K R' d v
  | [], v, h => h
  | (k, d) :: ds, v, h => by
    obtain ⟨k', x, r, e, ⟨h0, h1⟩, h2⟩ := h
    exact ⟨k', x, r, e, ⟨h0, Rep.mono s d h1⟩, RepK.mono s ds h2⟩
theorem RepT.mono {K : PySem.W.Frag} {R R' : Hp} (s : Sub R R') : ∀ (d : List (List Key × D)) {v : List (List Key × V)}, RepT K R d v → RepT K R' d v
  | [], v, h => h
  | (k, d) :: ds, v, h => by
    obtain ⟨k', x, r, e, ⟨h0, h1⟩, h2⟩ := h
    exact ⟨k', x, r, e, ⟨h0, Rep.mono s d h1⟩, RepT.mono s ds h2⟩
end
/-- a slot's value: data, or the j-th object that may change -/
inductive Val where
  | d (x : D) | mu (j : Nat) | tp (vs : List Val)
abbrev Sl := List (Option Val)
/-- an object that may change -/
inductive DO where
  | gone
  | well
  | lst (xs : List D)
  | dk (kvs : List (Key × D))
  | dt (kvs : List (List Key × D))
  | lk (kvs : List (Key × D)) (tok : Obj × List (Key × V))
  | lt (kvs : List (List Key × D)) (tok : Obj × List (List Key × V))
  | dl (kvs : List (Key × List D))
def WellV (vs : List V) : Prop := ∃ x y z : Int, vs = [.int x, .int y, .int z] ∧ 0 ≤ x ∧ 0 ≤ y ∧ y ≤ 2147483647 ∧ 0 < z ∧ z ≤ 2147483647
def RepLs (K : PySem.W.Frag) (R H : Hp) : List Addr → List (Key × List D) → List (Key × V) → Prop
  | [], [], vs => vs = []
  | a :: as, (k, ds) :: r, vs => ∃ r', vs = (k, .ref a) :: r' ∧ (∃ xs, H a = some (.lst xs) ∧ RepL K R ds xs) ∧ RepLs K R H as r r'
  | _, _, _ => False
def Own (K : PySem.W.Frag) (R H : Hp) : List Addr → DO → Prop
  | l, .gone => l = []
  | l, .well => ∃ a vs, l = [a] ∧ H a = some (.lst vs) ∧ WellV vs
  | l, .lst ds => ∃ a vs, l = [a] ∧ H a = some (.lst vs) ∧ RepL K R ds vs
  | l, .dk ds => ∃ a vs, l = [a] ∧ H a = some (.dK vs) ∧ RepK K R ds vs
  | l, .dt ds => ∃ a vs, l = [a] ∧ H a = some (.dT vs) ∧ RepT K R ds vs
  | l, .lk ds tok => ∃ a, l = [a] ∧ H a = some (.frz tok.1 (.dK tok.2)) ∧ RepK K R ds tok.2
  | l, .lt ds tok => ∃ a, l = [a] ∧ H a = some (.frz tok.1 (.dT tok.2)) ∧ RepT K R ds tok.2
  | l, .dl ds => ∃ a as vs, l = a :: as ∧ H a = some (.dK vs) ∧ RepLs K R H as ds vs
def OwnL (K : PySem.W.Frag) (R H : Hp) : List (List Addr) → List DO → Prop
  | [], M => M = []
  | l :: A, M => ∃ o r, M = o :: r ∧ Own K R H l o ∧ OwnL K R H A r
mutual
def RepV (K : PySem.W.Frag) (R : Hp) (A : List (List Addr)) : Val → V → Prop
  | .d x, v => Rep K R x v
  | .mu j, v => ∃ a l, A[j]? = some (a :: l) ∧ v = .ref a
  | .tp vs, v => ∃ a us, v = .ref a ∧ R a = some (.tup us) ∧ RepVs K R A vs us
def RepVs (K : PySem.W.Frag) (R : Hp) (A : List (List Addr)) : List Val → List V → Prop
  | [], xs => xs = []
  | v :: vs, xs => ∃ x r, xs = x :: r ∧ RepV K R A v x ∧ RepVs K R A vs r
end
def SlL (K : PySem.W.Frag) (R : Hp) (A : List (List Addr)) : Sl → St → Prop
  | [], σ => σ = []
  | e :: E, σ => ∃ s r, σ = s :: r ∧ (∀ v, e = some v → ∃ x, s = some x ∧ RepV K R A v x) ∧ SlL K R A E r
def ExtA (A A' : List (List Addr)) : Prop := ∀ (j : Nat) l, A[j]? = some l → A'[j]? = some l
theorem ExtA.refl (A : List (List Addr)) : ExtA A A := fun _ _ h => h
theorem ExtA.trans {A B C : List (List Addr)} (a : ExtA A B) (b : ExtA B C) : ExtA A C := fun j l h => b j l (a j l h)
theorem ExtA.app (A : List (List Addr)) (B) : ExtA A (A ++ B) := fun j l h => by
  rw [List.getElem?_append_left (List.getElem?_eq_some_iff.mp h).1]
  exact h
section
variable {K : PySem.W.Frag} {R R' H H' : Hp} {A A' : List (List Addr)}
theorem RepLs.mono (s : Sub R R') : ∀ {as : List Addr} {ds : List (Key × List D)} {vs : List (Key × V)}, (∀ a ∈ as, H' a = H a) → RepLs K R H as ds vs → RepLs K R' H' as ds vs
  | [], [], vs, _, h => h
  | a :: as, (k, d) :: ds, vs, hh, h => by
    obtain ⟨r', e, ⟨xs, h1, h2⟩, h3⟩ := h
    exact ⟨r', e, ⟨xs, by rw [hh a List.mem_cons_self]; exact h1, RepL.mono s _ h2⟩, RepLs.mono s (fun b hb => hh b (List.mem_cons_of_mem _ hb)) h3⟩
  | [], _ :: _, _, _, h => h.elim
  | _ :: _, [], _, _, h => h.elim
theorem Own.mono (s : Sub R R') {l : List Addr} {o : DO} (hh : ∀ a ∈ l, H' a = H a) (h : Own K R H l o) : Own K R' H' l o := by
  cases o with
  | gone => exact h
  | well => obtain ⟨a, vs, e, h1, h2⟩ := h; subst e; exact ⟨a, vs, rfl, by rw [hh a List.mem_cons_self]; exact h1, h2⟩
  | lst ds => obtain ⟨a, vs, e, h1, h2⟩ := h; subst e; exact ⟨a, vs, rfl, by rw [hh a List.mem_cons_self]; exact h1, RepL.mono s _ h2⟩
  | dk ds => obtain ⟨a, vs, e, h1, h2⟩ := h; subst e; exact ⟨a, vs, rfl, by rw [hh a List.mem_cons_self]; exact h1, RepK.mono s _ h2⟩
  | dt ds => obtain ⟨a, vs, e, h1, h2⟩ := h; subst e; exact ⟨a, vs, rfl, by rw [hh a List.mem_cons_self]; exact h1, RepT.mono s _ h2⟩
  | lk ds tok => obtain ⟨a, e, h1, h2⟩ := h; subst e; exact ⟨a, rfl, by rw [hh a List.mem_cons_self]; exact h1, RepK.mono s _ h2⟩
  | lt ds tok => obtain ⟨a, e, h1, h2⟩ := h; subst e; exact ⟨a, rfl, by rw [hh a List.mem_cons_self]; exact h1, RepT.mono s _ h2⟩
  | dl ds => obtain ⟨a, as, vs, e, h1, h2⟩ := h; subst e; exact ⟨a, as, vs, rfl, by rw [hh a List.mem_cons_self]; exact h1, RepLs.mono s (fun b hb => hh b (List.mem_cons_of_mem _ hb)) h2⟩
theorem RepLs.ne : ∀ {as : List Addr} {ds : List (Key × List D)} {vs : List (Key × V)}, RepLs K R H as ds vs → ∀ a ∈ as, H a ≠ none
  | a :: as, (k, d) :: ds, vs, h, b, hb => by
    obtain ⟨r', e, ⟨xs, h1, h2⟩, h3⟩ := h
    rcases List.mem_cons.mp hb with q | q
    · subst q; rw [h1]; simp
    · exact RepLs.ne h3 b q
  | [], _, _, _, b, hb => absurd hb (by simp)
  | _ :: _, [], _, h, _, _ => h.elim
theorem Own.ne {l : List Addr} {o : DO} (h : Own K R H l o) : ∀ a ∈ l, H a ≠ none := by
  cases o with
  | gone => intro a ha; have e : l = [] := h; subst e; simp at ha
  | well => obtain ⟨a, vs, e, h1, h2⟩ := h; subst e; intro b hb; simp at hb; subst hb; rw [h1]; simp
  | lst ds => obtain ⟨a, vs, e, h1, h2⟩ := h; subst e; intro b hb; simp at hb; subst hb; rw [h1]; simp
  | dk ds => obtain ⟨a, vs, e, h1, h2⟩ := h; subst e; intro b hb; simp at hb; subst hb; rw [h1]; simp
  | dt ds => obtain ⟨a, vs, e, h1, h2⟩ := h; subst e; intro b hb; simp at hb; subst hb; rw [h1]; simp
  | lk ds tok => obtain ⟨a, e, h1, h2⟩ := h; subst e; intro b hb; simp at hb; subst hb; rw [h1]; simp
  | lt ds tok => obtain ⟨a, e, h1, h2⟩ := h; subst e; intro b hb; simp at hb; subst hb; rw [h1]; simp
  | dl ds =>
    obtain ⟨a, as, vs, e, h1, h2⟩ := h; subst e; intro b hb
    rcases List.mem_cons.mp hb with q | q
    · subst q; rw [h1]; simp
    · exact RepLs.ne h2 b q
theorem RepLs.nt : ∀ {as : List Addr} {ds : List (Key × List D)} {vs : List (Key × V)}, RepLs K R H as ds vs → ∀ a ∈ as, ∀ xs, H a ≠ some (.tup xs)
  | a :: as, (k, d) :: ds, vs, h, b, hb => by
    obtain ⟨r', e, ⟨xs, h1, h2⟩, h3⟩ := h
    rcases List.mem_cons.mp hb with q | q
    · subst q; rw [h1]; simp
    · exact RepLs.nt h3 b q
  | [], _, _, _, b, hb => absurd hb (by simp)
  | _ :: _, [], _, h, _, _ => h.elim
theorem Own.nt {l : List Addr} {o : DO} (h : Own K R H l o) : ∀ a ∈ l, ∀ xs, H a ≠ some (.tup xs) := by
  cases o with
  | gone => intro a ha; have e : l = [] := h; subst e; simp at ha
  | well => obtain ⟨a, vs, e, h1, h2⟩ := h; subst e; intro b hb; simp at hb; subst hb; rw [h1]; simp
  | lst ds => obtain ⟨a, vs, e, h1, h2⟩ := h; subst e; intro b hb; simp at hb; subst hb; rw [h1]; simp
  | dk ds => obtain ⟨a, vs, e, h1, h2⟩ := h; subst e; intro b hb; simp at hb; subst hb; rw [h1]; simp
  | dt ds => obtain ⟨a, vs, e, h1, h2⟩ := h; subst e; intro b hb; simp at hb; subst hb; rw [h1]; simp
  | lk ds tok => obtain ⟨a, e, h1, h2⟩ := h; subst e; intro b hb; simp at hb; subst hb; rw [h1]; simp
  | lt ds tok => obtain ⟨a, e, h1, h2⟩ := h; subst e; intro b hb; simp at hb; subst hb; rw [h1]; simp
  | dl ds =>
    obtain ⟨a, as, vs, e, h1, h2⟩ := h; subst e; intro b hb
    rcases List.mem_cons.mp hb with q | q
    · subst q; rw [h1]; simp
    · exact RepLs.nt h2 b q
theorem OwnL.nt : ∀ {A : List (List Addr)} {M : List DO}, OwnL K R H A M → ∀ l ∈ A, ∀ a ∈ l, ∀ xs, H a ≠ some (.tup xs)
  | [], _, _, l, hl => absurd hl (by simp)
  | k :: A, M, h, l, hl => by
    obtain ⟨o, r, e, h1, h2⟩ := h
    rcases List.mem_cons.mp hl with q | q
    · subst q; exact h1.nt
    · exact OwnL.nt h2 l q
theorem OwnL.mono (s : Sub R R') : ∀ {A : List (List Addr)} {M : List DO}, (∀ l ∈ A, ∀ a ∈ l, H' a = H a) → OwnL K R H A M → OwnL K R' H' A M
  | [], _, _, h => h
  | l :: A, M, hh, h => by
    obtain ⟨o, r, e, h1, h2⟩ := h
    exact ⟨o, r, e, h1.mono s (hh l List.mem_cons_self), OwnL.mono s (fun k hk => hh k (List.mem_cons_of_mem _ hk)) h2⟩
theorem OwnL.ne : ∀ {A : List (List Addr)} {M : List DO}, OwnL K R H A M → ∀ l ∈ A, ∀ a ∈ l, H a ≠ none
  | [], _, _, l, hl => absurd hl (by simp)
  | k :: A, M, h, l, hl => by
    obtain ⟨o, r, e, h1, h2⟩ := h
    rcases List.mem_cons.mp hl with q | q
    · subst q; exact h1.ne
    · exact OwnL.ne h2 l q
theorem OwnL.length : ∀ {A : List (List Addr)} {M : List DO}, OwnL K R H A M → A.length = M.length
  | [], _, h => by have e : _ = [] := h; rw [e]; rfl
  | l :: A, M, h => by
    obtain ⟨o, r, e, h1, h2⟩ := h
    rw [e, List.length_cons, List.length_cons, OwnL.length h2]
theorem OwnL.get : ∀ {A : List (List Addr)} {M : List DO} {j : Nat} {o : DO}, OwnL K R H A M → M[j]? = some o → ∃ l, A[j]? = some l ∧ Own K R H l o
  | [], _, j, o, h, e => by have e' : _ = [] := h; rw [e'] at e; simp at e
  | l :: A, M, 0, o, h, e => by
    obtain ⟨o', r, e', h1, h2⟩ := h
    subst e'
    simp at e
    subst e
    exact ⟨l, rfl, h1⟩
  | l :: A, M, j + 1, o, h, e => by
    obtain ⟨o', r, e', h1, h2⟩ := h
    subst e'
    simp at e
    obtain ⟨k, e1, e2⟩ := OwnL.get h2 e
    exact ⟨k, by simpa using e1, e2⟩
theorem OwnL.app : ∀ {A A' : List (List Addr)} {M M' : List DO}, OwnL K R H A M → OwnL K R H A' M' → OwnL K R H (A ++ A') (M ++ M')
  | [], _, M, _, h, h' => by have e : M = [] := h; subst e; exact h'
  | l :: A, A', M, M', h, h' => by
    obtain ⟨o, r, e, h1, h2⟩ := h
    subst e
    exact ⟨o, r ++ M', rfl, h1, OwnL.app h2 h'⟩
theorem OwnL.split : ∀ {A A' : List (List Addr)} {M : List DO}, OwnL K R H (A ++ A') M → OwnL K R H A (M.take A.length) ∧ OwnL K R H A' (M.drop A.length)
  | [], A', M, h => ⟨rfl, h⟩
  | l :: A, A', M, h => by
    obtain ⟨o, r, e, h1, h2⟩ := h
    subst e
    obtain ⟨h3, h4⟩ := OwnL.split (A := A) h2
    exact ⟨⟨o, r.take A.length, rfl, h1, h3⟩, h4⟩
/-- the object j changed -/
theorem OwnL.put (s : Sub R R') : ∀ {A : List (List Addr)} {M : List DO} {j : Nat} {l l' : List Addr} {o' : DO}, OwnL K R H A M → A[j]? = some l → Own K R' H' l' o' → (∀ (i : Nat) k, i ≠ j → A[i]? = some k → ∀ a ∈ k, H' a = H a) → OwnL K R' H' (A.set j l') (M.set j o')
  | [], _, j, l, l', o', h, e, _, _ => by simp at e
  | l0 :: A, M, 0, l, l', o', h, e, h', hh => by
    obtain ⟨o, r, e', h1, h2⟩ := h
    subst e'
    refine ⟨o', r, rfl, h', OwnL.mono s (fun k hk a ha => ?_) h2⟩
    obtain ⟨i, hi⟩ := List.getElem?_of_mem hk
    exact hh (i + 1) k (by omega) (by simpa using hi) a ha
  | l0 :: A, M, j + 1, l, l', o', h, e, h', hh => by
    obtain ⟨o, r, e', h1, h2⟩ := h
    subst e'
    refine ⟨o, r.set j o', rfl, h1.mono s (hh 0 l0 (by omega) rfl), OwnL.put s h2 (by simpa using e) h' fun i k hi hk => hh (i + 1) k (by omega) (by simpa using hk)⟩
mutual
theorem RepV.mono' (s : Sub R R') (x : ExtA A A') : ∀ (v : Val) {u : V}, RepV K R A v u → RepV K R' A' v u
  | .d y, u, h => Rep.mono s y h
  | .mu j, u, h => by obtain ⟨a, l, e, e2⟩ := h; exact ⟨a, l, x _ _ e, e2⟩
  | .tp vs, u, h => by obtain ⟨a, us, e, e2, e3⟩ := h; exact ⟨a, us, e, s _ _ e2, RepVs.mono' s x vs e3⟩
theorem RepVs.mono' (s : Sub R R') (x : ExtA A A') : ∀ (vs : List Val) {xs : List V}, RepVs K R A vs xs → RepVs K R' A' vs xs
  | [], _, h => h
  | v :: vs, xs, h => by
    obtain ⟨y, r, e, h1, h2⟩ := h
    exact ⟨y, r, e, RepV.mono' s x v h1, RepVs.mono' s x vs h2⟩
end
theorem RepV.mono (s : Sub R R') (x : ExtA A A') {v : Val} {u : V} (h : RepV K R A v u) : RepV K R' A' v u := RepV.mono' s x v h
theorem RepVs.mono (s : Sub R R') (x : ExtA A A') {vs : List Val} {xs : List V} (h : RepVs K R A vs xs) : RepVs K R' A' vs xs := RepVs.mono' s x vs h
theorem SlL.mono (s : Sub R R') (x : ExtA A A') : ∀ {E : Sl} {σ : St}, SlL K R A E σ → SlL K R' A' E σ
  | [], _, h => h
  | e :: E, σ, h => by
    obtain ⟨t, r, q, h1, h2⟩ := h
    refine ⟨t, r, q, fun v hv => ?_, SlL.mono s x h2⟩
    obtain ⟨y, e1, e2⟩ := h1 v hv
    exact ⟨y, e1, e2.mono s x⟩
theorem SlL.get : ∀ {E : Sl} {σ : St} {i : Nat} {v : Val}, SlL K R A E σ → E[i]? = some (some v) → ∃ x, σ[i]? = some (some x) ∧ RepV K R A v x
  | [], _, i, v, h, e => by simp at e
  | e0 :: E, σ, 0, v, h, e => by
    obtain ⟨t, r, q, h1, h2⟩ := h
    simp at e
    obtain ⟨y, e1, e2⟩ := h1 v e
    subst q e1
    exact ⟨y, rfl, e2⟩
  | e0 :: E, σ, i + 1, v, h, e => by
    obtain ⟨t, r, q, h1, h2⟩ := h
    subst q
    obtain ⟨y, e1, e2⟩ := SlL.get h2 (by simpa using e)
    exact ⟨y, by simpa using e1, e2⟩
theorem SlL.set {v : Val} {x : V} (rv : RepV K R A v x) : ∀ {E : Sl} {σ : St} (i : Nat), SlL K R A E σ → SlL K R A (E.set i (some v)) (σ.set i (some x))
  | [], σ, i, h => by have e : σ = [] := h; subst e; simp [SlL]
  | e0 :: E, σ, 0, h => by
    obtain ⟨t, r, q, h1, h2⟩ := h
    subst q
    exact ⟨some x, r, rfl, fun w hw => by cases hw; exact ⟨x, rfl, rv⟩, h2⟩
  | e0 :: E, σ, i + 1, h => by
    obtain ⟨t, r, q, h1, h2⟩ := h
    subst q
    exact ⟨t, r.set i (some x), rfl, h1, SlL.set rv i h2⟩
theorem SlL.clear : ∀ {E : Sl} {σ : St} (i : Nat), SlL K R A E σ → SlL K R A (E.set i none) (σ.set i none)
  | [], σ, i, h => by have e : σ = [] := h; subst e; simp [SlL]
  | e0 :: E, σ, 0, h => by
    obtain ⟨t, r, q, h1, h2⟩ := h
    subst q
    exact ⟨none, r, rfl, (fun w hw => by cases hw), h2⟩
  | e0 :: E, σ, i + 1, h => by
    obtain ⟨t, r, q, h1, h2⟩ := h
    subst q
    exact ⟨t, r.set i none, rfl, h1, SlL.clear i h2⟩
theorem SlL.forget : ∀ {E : Sl} {σ : St} (i : Nat), SlL K R A E σ → SlL K R A (E.set i none) σ
  | [], σ, i, h => by have e : σ = [] := h; subst e; simp [SlL]
  | e0 :: E, σ, 0, h => by
    obtain ⟨t, r, q, h1, h2⟩ := h
    subst q
    exact ⟨t, r, rfl, (fun w hw => by cases hw), h2⟩
  | e0 :: E, σ, i + 1, h => by
    obtain ⟨t, r, q, h1, h2⟩ := h
    subst q
    exact ⟨t, r, rfl, h1, SlL.forget i h2⟩
theorem SlL.length : ∀ {E : Sl} {σ : St}, SlL K R A E σ → E.length = σ.length
  | [], σ, h => by have e : σ = [] := h; subst e; rfl
  | e0 :: E, σ, h => by
    obtain ⟨t, r, q, h1, h2⟩ := h
    subst q
    rw [List.length_cons, List.length_cons, SlL.length h2]
end
def get : Sl → Nat → Option Val
  | [], _ => none
  | e :: _, 0 => e
  | _ :: E, i + 1 => get E i
theorem get_eq : ∀ {E : Sl} {i : Nat} {v : Val}, get E i = some v → E[i]? = some (some v)
  | [], i, v, h => by simp [get] at h
  | e :: E, 0, v, h => by simp [get] at h; simp [h]
  | e :: E, i + 1, v, h => by simp [get] at h; simp [get_eq h]
/-- the ghost of an entry -/
structure Gh where
  H0 : Hp
  R0 : Hp
  A0 : List (List Addr)
structure Ok (K : PySem.W.Frag) (g : Gh) (E : Sl) (M : List DO) (σ : St) (H R : Hp) (A : List (List Addr)) : Prop where
  keep : ∀ a o, g.H0 a = some o → (∀ l ∈ g.A0, a ∉ l) → H a = some o
  sub0 : Sub g.R0 R
  sub : Sub R H
  fresh : ∀ a o, R a = some o → g.R0 a = some o ∨ g.H0 a = none ∨ ∃ xs, o = .tup xs
  pre : A.take g.A0.length = g.A0
  newA : ∀ l ∈ A.drop g.A0.length, ∀ a ∈ l, g.H0 a = none
  nd : A.flatten.Nodup
  nr : ∀ l ∈ A, ∀ a ∈ l, R a = none
  obj : OwnL K R H A M
  slots : SlL K R A E σ
section
variable {K : PySem.W.Frag} {g : Gh} {E : Sl} {M : List DO} {σ : St} {H R H' R' : Hp} {A A' : List (List Addr)} {p : Addr} {o : HO}
theorem Ok.mem0 (x : Ok K g E M σ H R A) {l : List Addr} (h : l ∈ g.A0) : l ∈ A := by
  rw [← x.pre] at h
  exact List.mem_of_mem_take h
theorem Ok.fr (x : Ok K g E M σ H R A) (h : H p = none) : g.H0 p = none := by
  cases e : g.H0 p with
  | none => rfl
  | some o =>
    by_cases q : ∃ l ∈ g.A0, p ∈ l
    · obtain ⟨l, hl, hp⟩ := q
      exact absurd h (x.obj.ne l (x.mem0 hl) p hp)
    · have := x.keep p o e fun l hl hp => q ⟨l, hl, hp⟩
      rw [h] at this; cases this
theorem Ok.nA (x : Ok K g E M σ H R A) (h : H p = none) : ∀ l ∈ A, p ∉ l := fun l hl hp => x.obj.ne l hl p hp h
/-- a new object that will not change -/
theorem Ok.ro (x : Ok K g E M σ H R A) (h : H p = none) : Ok K g E M σ (upd H p o) (upd R p o) A := by
  have hR : R p = none := by
    cases e : R p with
    | none => rfl
    | some u => have := x.sub _ _ e; rw [h] at this; cases this
  have nA := x.nA h
  refine ⟨fun a u e n => ?_, x.sub0.trans (Sub.upd hR), fun a u e => ?_, fun a u e => ?_, x.pre, x.newA, x.nd, fun l hl a ha => ?_, ?_, x.slots.mono (Sub.upd hR) (ExtA.refl _)⟩
  · rw [upd_ne (ne_of_none (x.keep a u e n) h)]; exact x.keep a u e n
  · by_cases q : a = p
    · subst q; rw [upd_same] at e ⊢; exact e
    · rw [upd_ne q] at e ⊢; exact x.sub _ _ e
  · by_cases q : a = p
    · subst q; exact .inr (.inl (x.fr h))
    · rw [upd_ne q] at e; exact x.fresh _ _ e
  · rw [upd_ne (fun q => nA l hl (by rw [← q]; exact ha))]; exact x.nr l hl a ha
  · exact x.obj.mono (Sub.upd hR) fun l hl a ha => upd_ne fun q => nA l hl (by rw [← q]; exact ha)
/-- a tuple that stands, read from now on -/
theorem Ok.tupR (x : Ok K g E M σ H R A) {vs : List V} (h : H p = some (.tup vs)) : Ok K g E M σ H (upd R p (.tup vs)) A ∧ Sub R (upd R p (.tup vs)) := by
  have s : Sub R (upd R p (.tup vs)) := fun a u e => by
    by_cases q : a = p
    · subst q; rw [upd_same]; have := x.sub _ _ e; rw [h] at this; exact this
    · rw [upd_ne q]; exact e
  refine ⟨⟨x.keep, x.sub0.trans s, fun a u e => ?_, fun a u e => ?_, x.pre, x.newA, x.nd, fun l hl a ha => ?_, x.obj.mono s fun _ _ _ _ => rfl, x.slots.mono s (ExtA.refl _)⟩, s⟩
  · by_cases q : a = p
    · subst q; rw [upd_same] at e; rw [h]; exact e
    · rw [upd_ne q] at e; exact x.sub _ _ e
  · by_cases q : a = p
    · subst q; rw [upd_same] at e; exact .inr (.inr ⟨vs, (Option.some.inj e).symm⟩)
    · rw [upd_ne q] at e; exact x.fresh _ _ e
  · have : a ≠ p := fun q => x.obj.nt l hl a ha vs (by rw [q]; exact h)
    rw [upd_ne this]; exact x.nr l hl a ha
/-- a new object that may change -/
theorem Ok.new (x : Ok K g E M σ H R A) (h : H p = none) {d : DO} (ho : Own K R (upd H p o) [p] d) : Ok K g E (M ++ [d]) σ (upd H p o) R (A ++ [[p]]) := by
  have hR : R p = none := by
    cases e : R p with
    | none => rfl
    | some u => have := x.sub _ _ e; rw [h] at this; cases this
  have nA := x.nA h
  have hl : g.A0.length ≤ A.length := by
    have e := congrArg List.length x.pre
    rw [List.length_take] at e
    omega
  refine ⟨fun a u e n => ?_, x.sub0, fun a u e => ?_, x.fresh, ?_, fun l hl' a ha => ?_, ?_, fun l hl a ha => ?_, ?_, x.slots.mono (Sub.refl _) (ExtA.app _ _)⟩
  · rw [upd_ne (ne_of_none (x.keep a u e n) h)]; exact x.keep a u e n
  · rw [upd_ne (ne_of_none e hR)]; exact x.sub _ _ e
  · rw [List.take_append_of_le_length hl]; exact x.pre
  · rw [List.drop_append_of_le_length hl] at hl'
    rcases List.mem_append.mp hl' with q | q
    · exact x.newA l q a ha
    · simp at q; subst q; simp at ha; subst ha; exact x.fr h
  · rw [List.flatten_append]
    refine List.nodup_append.mpr ⟨x.nd, by simp, fun a ha b hb q => ?_⟩
    obtain ⟨l, hl, hal⟩ := List.mem_flatten.mp ha
    simp at hb
    subst hb q
    exact nA l hl hal
  · rcases List.mem_append.mp hl with q | q
    · exact x.nr l q a ha
    · simp at q; subst q; simp at ha; subst ha; exact hR
  · exact (x.obj.mono (Sub.refl _) fun l hl a ha => upd_ne fun q => nA l hl (by rw [← q]; exact ha)).app ⟨d, [], rfl, ho, rfl⟩
theorem set_same {α : Type} : ∀ {A : List α} {j : Nat} {l : α}, A[j]? = some l → A.set j l = A
  | [], _, _, h => by simp at h
  | x :: A, 0, l, h => by simp at h; subst h; rfl
  | x :: A, j + 1, l, h => by
    have h' : A[j]? = some l := by simpa using h
    rw [List.set_cons_succ, set_same h']
theorem flat_disj {A : List (List Addr)} (h : A.flatten.Nodup) : ∀ {i j : Nat} {k l : List Addr} {a : Addr}, A[i]? = some k → A[j]? = some l → a ∈ k → a ∈ l → i = j := by
  induction A with
  | nil => intro i j k l a h1; simp at h1
  | cons m A ih =>
    intro i j k l a h1 h2 h3 h4
    rw [List.flatten_cons] at h
    obtain ⟨n1, n2, n3⟩ := List.nodup_append.mp h
    cases i with
    | zero =>
      cases j with
      | zero => rfl
      | succ j =>
        simp at h1 h2
        subst h1
        exact absurd rfl (n3 a h3 a (List.mem_flatten.mpr ⟨l, List.mem_of_getElem? h2, h4⟩))
    | succ i =>
      cases j with
      | zero =>
        simp at h1 h2
        subst h2
        exact absurd rfl (n3 a h4 a (List.mem_flatten.mpr ⟨k, List.mem_of_getElem? h1, h3⟩))
      | succ j =>
        simp at h1 h2
        rw [ih n2 h1 h2 h3 h4]
/-- the object j is changed, at a -/
theorem Ok.put (x : Ok K g E M σ H R A) {j : Nat} {l : List Addr} {a : Addr} {d : DO} (hj : A[j]? = some l) (ha : a ∈ l) (ho : Own K R (upd H a o) l d) : Ok K g E (M.set j d) σ (upd H a o) R A := by
  have hl : l ∈ A := List.mem_of_getElem? hj
  have hR := x.nr l hl a ha
  refine ⟨fun b u e n => ?_, x.sub0, fun b u e => ?_, x.fresh, x.pre, x.newA, x.nd, x.nr, ?_, x.slots⟩
  · have q := x.keep b u e n
    by_cases z : b = a
    · subst z
      -- owned since the entry, or new
      by_cases hlt : j < g.A0.length
      · have : g.A0[j]? = some l := by
          rw [← x.pre, List.getElem?_take_of_lt hlt]; exact hj
        exact absurd ha (n l (List.mem_of_getElem? this))
      · have : l ∈ A.drop g.A0.length := by
          refine List.mem_of_getElem? (i := j - g.A0.length) ?_
          rw [List.getElem?_drop]
          rw [show g.A0.length + (j - g.A0.length) = j by omega]
          exact hj
        have := x.newA l this b ha
        rw [e] at this; cases this
    · rw [upd_ne z]; exact q
  · rw [upd_ne (ne_of_none e hR)]; exact x.sub _ _ e
  · have q := x.obj.put (Sub.refl _) hj ho fun i k hi hk b hb => upd_ne fun z => hi (flat_disj x.nd hk hj (by rw [← z]; exact hb) ha)
    rw [set_same hj] at q
    exact q
theorem Ok.setSlot (x : Ok K g E M σ H R A) {v : Val} {y : V} (rv : RepV K R A v y) (i : Nat) : Ok K g (E.set i (some v)) M (σ.set i (some y)) H R A :=
  ⟨x.keep, x.sub0, x.sub, x.fresh, x.pre, x.newA, x.nd, x.nr, x.obj, x.slots.set rv i⟩
theorem Ok.slotsTo (x : Ok K g E M σ H R A) {E' : Sl} {σ' : St} (h : SlL K R A E' σ') : Ok K g E' M σ' H R A :=
  ⟨x.keep, x.sub0, x.sub, x.fresh, x.pre, x.newA, x.nd, x.nr, x.obj, h⟩
end
end DL

end
section

/-! Judgements over data. -/
namespace DL
open PySem L2 PyProof.Rows
abbrev TD := Sl → List DO → (Val → List DO → Prop) → Prop
abbrev TDT := Sl → List DO → (Bool → List DO → Prop) → Prop
abbrev TDA := Sl → List DO → (List Val → List DO → Prop) → Prop
structure DEnds where
  nx : Sl → List DO → Prop
  rt : Val → List DO → Prop
  bk : Sl → List DO → Prop := fun _ _ => False
  ct : Sl → List DO → Prop := fun _ _ => False
abbrev TDS := DEnds → Sl → List DO → Prop
def lift (K : PySem.W.Frag) (g : Gh) (T : TD) : TE := fun σ H Q => ∃ E M R A Qd, Ok K g E M σ H R A ∧ T E M Qd ∧
  ∀ v M' x H' R' A', Qd v M' → Ok K g E M' σ H' R' A' → Sub R R' → ExtA A A' → RepV K R' A' v x → Q x H'
def liftT (K : PySem.W.Frag) (g : Gh) (T : TDT) : TT := fun σ H Q => ∃ E M R A Qd, Ok K g E M σ H R A ∧ T E M Qd ∧
  ∀ b M' H' R' A', Qd b M' → Ok K g E M' σ H' R' A' → Sub R R' → ExtA A A' → Q b H'
def liftA (K : PySem.W.Frag) (g : Gh) (T : TDA) : TA := fun σ H Q => ∃ E M R A Qd, Ok K g E M σ H R A ∧ T E M Qd ∧
  ∀ vs M' xs H' R' A', Qd vs M' → Ok K g E M' σ H' R' A' → Sub R R' → ExtA A A' → RepVs K R' A' vs xs → Q xs H'
def liftS (K : PySem.W.Frag) (g : Gh) (T : TDS) : TS := fun D σ H => ∃ E M R A De, Ok K g E M σ H R A ∧ T De E M ∧
  (∀ E' M' σ' H' R' A', De.nx E' M' → Ok K g E' M' σ' H' R' A' → Sub R R' → ExtA A A' → D.nx σ' H') ∧
  (∀ v M' x E' σ' H' R' A', De.rt v M' → Ok K g E' M' σ' H' R' A' → Sub R R' → ExtA A A' → RepV K R' A' v x → D.rt x H') ∧
  (∀ E' M' σ' H' R' A', De.bk E' M' → Ok K g E' M' σ' H' R' A' → Sub R R' → ExtA A A' → D.bk σ' H') ∧
  (∀ E' M' σ' H' R' A', De.ct E' M' → Ok K g E' M' σ' H' R' A' → Sub R R' → ExtA A A' → D.ct σ' H')
abbrev DE (X : Cx) (g : Gh) (e : Expr) (T : TD) : Prop := PE X e (lift X.K g T)
abbrev DT (X : Cx) (g : Gh) (e : Expr) (T : TDT) : Prop := PT X e (liftT X.K g T)
abbrev DW (X : Cx) (g : Gh) (e : Expr) (T : TDT) : Prop := PW X e (liftT X.K g T)
abbrev DA (X : Cx) (g : Gh) (es : List Expr) (T : TDA) : Prop := PA X es (liftA X.K g T)
abbrev DS (X : Cx) (g : Gh) (st : Stmt) (T : TDS) : Prop := PS X st (liftS X.K g T)
abbrev DSs (X : Cx) (g : Gh) (st : List Stmt) (T : TDS) : Prop := PSs X st (liftS X.K g T)
theorem PEm {X : Cx} {e : Expr} {t t' : TE} (h : PE X e t) (i : ∀ σ H Q, t' σ H Q → t σ H Q) : PE X e t' := ⟨fun pins s σ H Q I q => h.run pins s σ H Q I (i σ H Q q)⟩
theorem PTm {X : Cx} {e : Expr} {t t' : TT} (h : PT X e t) (i : ∀ σ H Q, t' σ H Q → t σ H Q) : PT X e t' := ⟨fun pins s σ H Q I q => h.run pins s σ H Q I (i σ H Q q)⟩
theorem PWm {X : Cx} {e : Expr} {t t' : TT} (h : PW X e t) (i : ∀ σ H Q, t' σ H Q → t σ H Q) : PW X e t' := ⟨fun wh pins s σ H Q I q => h.run wh pins s σ H Q I (i σ H Q q)⟩
theorem PAm {X : Cx} {es : List Expr} {t t' : TA} (h : PA X es t) (i : ∀ σ H Q, t' σ H Q → t σ H Q) : PA X es t' := ⟨fun pos pins s σ H Q I q => h.run pos pins s σ H Q I (i σ H Q q)⟩
theorem PSm {X : Cx} {e : Stmt} {t t' : TS} (h : PS X e t) (i : ∀ D σ H, t' D σ H → t D σ H) : PS X e t' := ⟨fun pins s σ H D I q => h.run pins s σ H D I (i D σ H q)⟩
theorem PSsm {X : Cx} {e : List Stmt} {t t' : TS} (h : PSs X e t) (i : ∀ D σ H, t' D σ H → t D σ H) : PSs X e t' := ⟨fun pins s σ H D I q => h.run pins s σ H D I (i D σ H q)⟩

/-! ### what a value reads as -/
def rd (M : List DO) : Val → Option D
  | .d x => some x
  | .tp _ => none
  | .mu j => match M[j]? with
    | some (.lst xs) => some (.lst xs)
    | some (.dk kvs) => some (.dk kvs)
    | some (.lk kvs _) => some (.dk kvs)
    | some (.lt kvs _) => some (.dt kvs)
    | some (.dt kvs) => some (.dt kvs)
    | _ => none
/-- the top read in H, the rest in R -/
def Now (K : PySem.W.Frag) (H R : Hp) : D → V → Prop
  | .lst ds, x => ∃ a vs, x = .ref a ∧ H a = some (.lst vs) ∧ RepL K R ds vs
  | .dk ds, x => ∃ a vs, x = .ref a ∧ Rd H a (.dK vs) ∧ RepK K R ds vs
  | .dt ds, x => ∃ a vs, x = .ref a ∧ Rd H a (.dT vs) ∧ RepT K R ds vs
  | d, x => Rep K R d x
section
variable {K : PySem.W.Frag} {g : Gh} {E : Sl} {M : List DO} {σ : L2.St} {H R H' R' : Hp} {A A' : List (List Addr)}
theorem Rep.now (s : Sub R H) : ∀ {d : D} {x : V}, Rep K R d x → Now K H R d x
  | .lst ds, x, h => by obtain ⟨a, vs, e, h1, h2⟩ := h; exact ⟨a, vs, e, s _ _ h1, h2⟩
  | .dk ds, x, h => by obtain ⟨a, vs, o, e, h1, h2⟩ := h; exact ⟨a, vs, e, .inr ⟨o, s _ _ h1⟩, h2⟩
  | .dt ds, x, h => by obtain ⟨a, vs, o, e, h1, h2⟩ := h; exact ⟨a, vs, e, .inr ⟨o, s _ _ h1⟩, h2⟩
  | .non, x, h => h | .bl _, x, h => h | .int _, x, h => h | .str _, x, h => h | .tup _, x, h => h | .scr _, x, h => h | .ob _, x, h => h
theorem Ok.now (x : Ok K g E M σ H R A) {v : Val} {u : V} {d : D} (r : RepV K R A v u) (h : rd M v = some d) : Now K H R d u := by
  cases v with
  | d y =>
    have e : y = d := Option.some.inj h
    subst e
    exact Rep.now x.sub r
  | tp vs => cases h
  | mu j =>
    obtain ⟨a, l, hj, e⟩ := r
    subst e
    dsimp only [rd] at h
    split at h <;> first
      | (cases h; done)
      | (rename_i q
         obtain ⟨l', e1, e2⟩ := x.obj.get q
         rw [hj] at e1
         have e1 := Option.some.inj e1
         subst e1
         have h' := Option.some.inj h
         subst h'
         first
           | (obtain ⟨a', vs, e3, h1, h2⟩ := e2; injection e3 with e3 _; subst e3; exact ⟨a, vs, rfl, h1, h2⟩)
           | (obtain ⟨a', vs, e3, h1, h2⟩ := e2; injection e3 with e3 _; subst e3; exact ⟨a, vs, rfl, .inl h1, h2⟩)
           | (obtain ⟨a', e3, h1, h2⟩ := e2; injection e3 with e3 _; subst e3; exact ⟨a, _, rfl, .inr ⟨_, h1⟩, h2⟩))
end

/-! ### names, constants -/
structure br (c : Bool) (A B : Prop) : Prop where
  t : c = true → A
  f : c = false → B
theorem br_of {c : Bool} {A B : Prop} (h1 : c = true → A) (h2 : c = false → B) : br c A B := ⟨h1, h2⟩
theorem br_t {c : Bool} {A B : Prop} (h : c = true) (a : A) : br c A B := ⟨fun _ => a, fun q => by rw [h] at q; cases q⟩
theorem br_f {c : Bool} {A B : Prop} (h : c = false) (b : B) : br c A B := ⟨fun q => (by rw [h] at q; cases q), fun _ => b⟩
def dVar (i : Nat) : TD := fun E M Q => match get E i with | some v => Q v M | none => False
def dC (d : D) : TD := fun _ M Q => Q (.d d) M
section
variable {X : Cx} {g : Gh}
theorem de_var {i : Nat} {x : Str} {pos : Pos} (hN : X.N[i]? = some x) (hv : Vis X.env.scope x) (hd : (x == ("__debug__" : Str)) = false := by decide) (hcd : (x == ("__classdict__" : Str)) = false := by decide) : DE X g (.Name x pos) (dVar i) :=
  PEm (pe_var hN hv hd hcd) fun σ H Q ⟨E, M, R, A, Qd, ok, h, k⟩ => by
    unfold dVar at h
    split at h
    · rename_i v e
      obtain ⟨y, e1, e2⟩ := ok.slots.get (get_eq e)
      exact ⟨y, e1, k _ _ _ _ _ _ h ok (Sub.refl _) (ExtA.refl _) e2⟩
    · exact h.elim
theorem de_cst {e : Expr} {v : V} {d : D} (h : PE X e (tC v)) (r : ∀ R, Rep X.K R d v) : DE X g e (dC d) :=
  PEm h fun σ H Q ⟨E, M, R, A, Qd, ok, h, k⟩ => k _ _ _ _ _ _ h ok (Sub.refl _) (ExtA.refl _) (show RepV X.K R A (.d d) v from r R)
theorem de_int {i j pos} : DE X g (.Constant (.int i) j pos) (dC (.int i)) := de_cst pe_int fun _ => rfl
theorem de_bl {b j pos} : DE X g (.Constant (.bool b) j pos) (dC (.bl b)) := de_cst pe_bl fun _ => rfl
theorem de_non {j pos} : DE X g (.Constant .none j pos) (dC .non) := de_cst pe_non fun _ => rfl
theorem de_str {x j pos} : DE X g (.Constant (.str x) j pos) (dC (.str x)) := de_cst pe_str fun _ => rfl
/-- a module's constant -/
theorem de_glob {x : Str} {v : V} {d : D} {pos : Pos} (hg : Gl X x) (hm : ∃ u, X.mg x = some u ∧ RelV v u) (r : ∀ R, Rep X.K R d v) (hd : (x == ("__debug__" : Str)) = false := by decide) : DE X g (.Name x pos) (dC d) := by
  obtain ⟨u, h1, h2⟩ := hm
  exact de_cst (pe_glob hg h1 h2 hd) r

/-! ### operators by values -/
abbrev RD2 := D → D → (D → Prop) → Prop
/-- the data's rule dr makes the values' rule r -/
structure RO (K : PySem.W.Frag) (r : R2) (dr : RD2) : Prop where
  run : ∀ {g : Gh} {E : Sl} {M : List DO} {σ : L2.St} {H R : Hp} {A : List (List Addr)} {a b : D} {x y : V} {Qd : D → Prop} {Q : VK}, Ok K g E M σ H R A → Now K H R a x → Now K H R b y → dr a b Qd →
  (∀ d z H' R', Qd d → Ok K g E M σ H' R' A → Sub R R' → Rep K R' d z → Q z H') → r x y H Q
def dOp (dr : RD2) (Ta Tb : TD) : TD := fun E M Q => Ta E M fun v M1 => Tb E M1 fun u M2 => match rd M2 v, rd M2 u with
  | some a, some b => dr a b fun d => Q (.d d) M2
  | _, _ => False
variable {a b c : Expr} {Ta Tb Tc : TD} {pos : Pos}
theorem lift_op {r : R2} {dr : RD2} (ro : RO X.K r dr) {σ : L2.St} {H : Hp} {Q : VK} (h : lift X.K g (dOp dr Ta Tb) σ H Q) : tOp r (lift X.K g Ta) (lift X.K g Tb) σ H Q := by
  obtain ⟨E, M, R, A, Qd, ok, h, k⟩ := h
  refine ⟨E, M, R, A, _, ok, h, fun v M1 x H1 R1 A1 q1 ok1 s1 x1 r1 => ⟨E, M1, R1, A1, _, ok1, q1, fun u M2 y H2 R2 A2 q2 ok2 s2 x2 r2 => ?_⟩⟩
  split at q2
  · rename_i d1 d2 e1 e2
    exact ro.run ok2 (ok2.now (r1.mono s2 x2) e1) (ok2.now r2 e2) q2 fun d z H' R' qd ok' s' r' => k _ _ _ _ _ _ qd ok' ((s1.trans s2).trans s') (x1.trans x2) r'
  · exact q2.elim
theorem de_op {op : Operator} {r : R2} {dr : RD2} (ro : RO X.K r dr) (ho : OpR X (binaryOp op) r) (ha : DE X g a Ta) (hb : DE X g b Tb) : DE X g (.BinOp a op b pos) (dOp dr Ta Tb) :=
  PEm (pe_op ho ha hb) fun _ _ _ h => lift_op ro h
theorem de_cmp {op : CmpOp} {r : R2} {dr : RD2} (ro : RO X.K r dr) (ho : OpR X (compareOp op) r) (ha : DE X g a Ta) (hb : DE X g b Tb) (hm : behindInMarks op b = false) : DE X g (.Compare a [op] [b] pos) (dOp dr Ta Tb) :=
  PEm (pe_cmpR ho ha hb hm) fun _ _ _ h => lift_op ro h
/-- a value that is a truth, as a test -/
def dB (T : TD) : TDT := fun E M Q => T E M fun v M' => match v with | .d (.bl b) => Q b M' | _ => False
theorem lift_b {T : TD} {σ : L2.St} {H : Hp} {Q : Bool → Hp → Prop} (h : liftT X.K g (dB T) σ H Q) : tTest (lift X.K g T) σ H Q := by
  obtain ⟨E, M, R, A, Qd, ok, h, k⟩ := h
  refine ⟨E, M, R, A, _, ok, h, fun v M1 x H1 R1 A1 q1 ok1 s1 x1 r1 => ?_⟩
  split at q1
  · rename_i b
    have e : x = .bl b := r1
    exact ⟨b, e, k _ _ _ _ _ q1 ok1 s1 x1⟩
  · exact q1.elim
theorem dt_cmp {op : CmpOp} {r : R2} {dr : RD2} (ro : RO X.K r dr) (ho : OpR X (compareOp op) r) (ha : DE X g a Ta) (hb : DE X g b Tb) (hm : behindInMarks op b = false) : DT X g (.Compare a [op] [b] pos) (dB (dOp dr Ta Tb)) :=
  PTm (pt_cmpR ho ha hb hm) fun σ H Q h => by
    obtain ⟨E, M, R, A, Qd, ok, h, k⟩ := lift_b h
    exact lift_op ro ⟨E, M, R, A, Qd, ok, h, k⟩
/-- any expression whose value is a truth -/
theorem dt_val {e : Expr} {T : TD} (h : DE X g e T) (he : ∀ whole, isTrue e X.env whole = (do let v ← whole; standAt e.pos; holding [v] (truthy v)) := by intro _; rfl) : DT X g e (dB T) :=
  PTm (pt_val h he) fun σ H Q h => lift_b h

/-! ### and, or, not -/
def dAndV (Ta Tb : TD) : TD := fun E M Q => Ta E M fun v M1 => match v with | .d (.bl c) => br c (Tb E M1 Q) (Q (.d (.bl false)) M1) | _ => False
def dOrV (Ta Tb : TD) : TD := fun E M Q => Ta E M fun v M1 => match v with | .d (.bl c) => br c (Q (.d (.bl true)) M1) (Tb E M1 Q) | _ => False
def dNotV (Ta : TD) : TD := fun E M Q => Ta E M fun v M1 => match v with | .d (.bl c) => Q (.d (.bl (!c))) M1 | _ => False
variable {rest : List Expr}
theorem de_one {op} {T : TD} (h : DE X g a T) : DE X g (.BoolOp op [a] pos) T := pe_one h
theorem de_and (ha : DE X g a Ta) (hb : DE X g (.BoolOp .And (b :: rest) pos) Tb) : DE X g (.BoolOp .And (a :: b :: rest) pos) (dAndV Ta Tb) :=
  PEm (pe_and ha hb) fun σ H Q ⟨E, M, R, A, Qd, ok, h, k⟩ => by
    refine ⟨E, M, R, A, _, ok, h, fun v M1 x H1 R1 A1 q1 ok1 s1 x1 r1 => ?_⟩
    split at q1
    · rename_i c
      refine ⟨c, r1, ?_⟩
      cases c with
      | true => exact ⟨E, M1, R1, A1, _, ok1, q1.t rfl, fun u M2 y H2 R2 A2 q2 ok2 s2 x2 r2 => k _ _ _ _ _ _ q2 ok2 (s1.trans s2) (x1.trans x2) r2⟩
      | false => exact k _ _ _ _ _ _ (q1.f rfl) ok1 s1 x1 rfl
    · exact q1.elim
theorem de_or (ha : DE X g a Ta) (hb : DE X g (.BoolOp .Or (b :: rest) pos) Tb) : DE X g (.BoolOp .Or (a :: b :: rest) pos) (dOrV Ta Tb) :=
  PEm (pe_or ha hb) fun σ H Q ⟨E, M, R, A, Qd, ok, h, k⟩ => by
    refine ⟨E, M, R, A, _, ok, h, fun v M1 x H1 R1 A1 q1 ok1 s1 x1 r1 => ?_⟩
    split at q1
    · rename_i c
      refine ⟨c, r1, ?_⟩
      cases c with
      | false => exact ⟨E, M1, R1, A1, _, ok1, q1.f rfl, fun u M2 y H2 R2 A2 q2 ok2 s2 x2 r2 => k _ _ _ _ _ _ q2 ok2 (s1.trans s2) (x1.trans x2) r2⟩
      | true => exact k _ _ _ _ _ _ (q1.t rfl) ok1 s1 x1 rfl
    · exact q1.elim
theorem de_not (ha : DE X g a Ta) : DE X g (.UnaryOp .Not a pos) (dNotV Ta) :=
  PEm (pe_not ha) fun σ H Q ⟨E, M, R, A, Qd, ok, h, k⟩ => by
    refine ⟨E, M, R, A, _, ok, h, fun v M1 x H1 R1 A1 q1 ok1 s1 x1 r1 => ?_⟩
    split at q1
    · rename_i c
      exact ⟨c, r1, k _ _ _ _ _ _ q1 ok1 s1 x1 rfl⟩
    · exact q1.elim
def dAnd (Ta Tb : TDT) : TDT := fun E M Q => Ta E M fun c M1 => br c (Tb E M1 Q) (Q false M1)
def dOr (Ta Tb : TDT) : TDT := fun E M Q => Ta E M fun c M1 => br c (Q true M1) (Tb E M1 Q)
def dNot (Ta : TDT) : TDT := fun E M Q => Ta E M fun c M1 => Q (!c) M1
variable {TA' TB' : TDT}
theorem dw_and1 (ha : DT X g a TA') : DW X g (.BoolOp .And [a] pos) TA' := pw_and1 ha
theorem dw_or1 (ha : DT X g a TA') : DW X g (.BoolOp .Or [a] pos) TA' := pw_or1 ha
theorem dw_and (ha : DT X g a TA') (hb : DW X g (.BoolOp .And (b :: rest) pos) TB') : DW X g (.BoolOp .And (a :: b :: rest) pos) (dAnd TA' TB') :=
  PWm (pw_and ha hb) fun σ H Q ⟨E, M, R, A, Qd, ok, h, k⟩ => by
    refine ⟨E, M, R, A, _, ok, h, fun c M1 H1 R1 A1 q1 ok1 s1 x1 => ?_⟩
    cases c with
    | true => exact ⟨E, M1, R1, A1, _, ok1, q1.t rfl, fun u M2 H2 R2 A2 q2 ok2 s2 x2 => k _ _ _ _ _ q2 ok2 (s1.trans s2) (x1.trans x2)⟩
    | false => exact k _ _ _ _ _ (q1.f rfl) ok1 s1 x1
theorem dw_or (ha : DT X g a TA') (hb : DW X g (.BoolOp .Or (b :: rest) pos) TB') : DW X g (.BoolOp .Or (a :: b :: rest) pos) (dOr TA' TB') :=
  PWm (pw_or ha hb) fun σ H Q ⟨E, M, R, A, Qd, ok, h, k⟩ => by
    refine ⟨E, M, R, A, _, ok, h, fun c M1 H1 R1 A1 q1 ok1 s1 x1 => ?_⟩
    cases c with
    | false => exact ⟨E, M1, R1, A1, _, ok1, q1.f rfl, fun u M2 H2 R2 A2 q2 ok2 s2 x2 => k _ _ _ _ _ q2 ok2 (s1.trans s2) (x1.trans x2)⟩
    | true => exact k _ _ _ _ _ (q1.t rfl) ok1 s1 x1
theorem dt_not (ha : DT X g a TA') : DT X g (.UnaryOp .Not a pos) (dNot TA') :=
  PTm (pt_not ha) fun σ H Q ⟨E, M, R, A, Qd, ok, h, k⟩ => ⟨E, M, R, A, _, ok, h, fun c M1 H1 R1 A1 q1 ok1 s1 x1 => k _ _ _ _ _ q1 ok1 s1 x1⟩
def dIf (Tt : TDT) (Ta Tb : TD) : TD := fun E M Q => Tt E M fun c M1 => br c (Ta E M1 Q) (Tb E M1 Q)
theorem de_ifExp (hc : DT X g c TA') (ha : DE X g a Ta) (hb : DE X g b Tb) : DE X g (.IfExp c a b pos) (dIf TA' Ta Tb) :=
  PEm (pe_ifExp hc ha hb) fun σ H Q ⟨E, M, R, A, Qd, ok, h, k⟩ => by
    refine ⟨E, M, R, A, _, ok, h, fun c M1 H1 R1 A1 q1 ok1 s1 x1 => ?_⟩
    cases c with
    | true => exact ⟨E, M1, R1, A1, _, ok1, q1.t rfl, fun u M2 y H2 R2 A2 q2 ok2 s2 x2 r2 => k _ _ _ _ _ _ q2 ok2 (s1.trans s2) (x1.trans x2) r2⟩
    | false => exact ⟨E, M1, R1, A1, _, ok1, q1.f rfl, fun u M2 y H2 R2 A2 q2 ok2 s2 x2 r2 => k _ _ _ _ _ _ q2 ok2 (s1.trans s2) (x1.trans x2) r2⟩
/-- a op1 b op2 c -/
def dChain (dr dr' : RD2) (Ta Tb Tc : TD) : TD := fun E M Q => Ta E M fun v M1 => Tb E M1 fun u M2 => match rd M2 v, rd M2 u with
  | some a, some b => dr a b fun z => match z with
    | .bl k => br k (Tc E M2 fun w M3 => match rd M3 u, rd M3 w with | some b', some c => dr' b' c fun d => Q (.d d) M3 | _, _ => False) (Q (.d (.bl false)) M2)
    | _ => False
  | _, _ => False
theorem lift_chain {r r' : R2} {dr dr' : RD2} (ro : RO X.K r dr) (ro' : RO X.K r' dr') {σ : L2.St} {H : Hp} {Q : VK} (h : lift X.K g (dChain dr dr' Ta Tb Tc) σ H Q) : tChain r r' (lift X.K g Ta) (lift X.K g Tb) (lift X.K g Tc) σ H Q := by
  obtain ⟨E, M, R, A, Qd, ok, h, k⟩ := h
  refine ⟨E, M, R, A, _, ok, h, fun v M1 x H1 R1 A1 q1 ok1 s1 x1 r1 => ⟨E, M1, R1, A1, _, ok1, q1, fun u M2 y H2 R2 A2 q2 ok2 s2 x2 r2 => ?_⟩⟩
  split at q2
  · rename_i d1 d2 e1 e2
    refine ro.run ok2 (ok2.now (r1.mono s2 x2) e1) (ok2.now r2 e2) q2 fun d z H' R' qd ok' s' r' => ?_
    split at qd
    · rename_i kk
      refine ⟨kk, r', ?_⟩
      cases kk with
      | false => exact k _ _ _ _ _ _ (qd.f rfl) ok' ((s1.trans s2).trans s') (x1.trans x2) rfl
      | true =>
        refine ⟨E, M2, R', A2, _, ok', qd.t rfl, fun w M3 z3 H3 R3 A3 q3 ok3 s3 x3 r3 => ?_⟩
        split at q3
        · rename_i b' c' e3 e4
          exact ro'.run ok3 (ok3.now ((r2.mono s' (ExtA.refl _)).mono s3 x3) e3) (ok3.now r3 e4) q3 fun d z H4 R4 qd ok4 s4 r4 => k _ _ _ _ _ _ qd ok4 ((((s1.trans s2).trans s').trans s3).trans s4) ((x1.trans x2).trans x3) r4
        · exact q3.elim
    · exact qd.elim
  · exact q2.elim
theorem de_chain {op op' : CmpOp} {r r' : R2} {dr dr' : RD2} (ro : RO X.K r dr) (ro' : RO X.K r' dr') (ho : OpR X (compareOp op) r) (ho' : OpR X (compareOp op') r') (ha : DE X g a Ta) (hb : DE X g b Tb) (hc : DE X g c Tc)
    (hm : lastMarks [op, op'] [b, c] = false := by with_unfolding_all rfl) : DE X g (.Compare a [op, op'] [b, c] pos) (dChain dr dr' Ta Tb Tc) :=
  PEm (pe_chain ho ho' ha hb hc hm) fun _ _ _ h => lift_chain ro ro' h
theorem dt_chain {op op' : CmpOp} {r r' : R2} {dr dr' : RD2} (ro : RO X.K r dr) (ro' : RO X.K r' dr') (ho : OpR X (compareOp op) r) (ho' : OpR X (compareOp op') r') (ha : DE X g a Ta) (hb : DE X g b Tb) (hc : DE X g c Tc)
    (hm : lastMarks [op, op'] [b, c] = false := by with_unfolding_all rfl) : DT X g (.Compare a [op, op'] [b, c] pos) (dB (dChain dr dr' Ta Tb Tc)) :=
  PTm (pt_chain ho ho' ha hb hc hm) fun σ H Q h => by
    obtain ⟨E, M, R, A, Qd, ok, h, k⟩ := lift_b h
    exact lift_chain ro ro' ⟨E, M, R, A, Qd, ok, h, k⟩

/-! ### argument lists -/
def daNil : TDA := fun _ M Q => Q [] M
def daCons (T : TD) (U : TDA) : TDA := fun E M Q => T E M fun v M1 => U E M1 fun vs M2 => Q (v :: vs) M2
variable {es : List Expr} {U : TDA}
theorem da_nil : DA X g [] daNil := PAm pa_nil fun σ H Q ⟨E, M, R, A, Qd, ok, h, k⟩ => k _ _ _ _ _ _ h ok (Sub.refl _) (ExtA.refl _) rfl
theorem da_cons (ha : DE X g a Ta) (hr : DA X g es U) (hs : starEach (a :: es) X.env = (false, eval a X.env) :: starEach es X.env := by rfl) : DA X g (a :: es) (daCons Ta U) :=
  PAm (pa_cons ha hr hs) fun σ H Q ⟨E, M, R, A, Qd, ok, h, k⟩ => by
    refine ⟨E, M, R, A, _, ok, h, fun v M1 x H1 R1 A1 q1 ok1 s1 x1 r1 => ⟨E, M1, R1, A1, _, ok1, q1, fun vs M2 xs H2 R2 A2 q2 ok2 s2 x2 r2 => ?_⟩⟩
    exact k _ _ _ _ _ _ q2 ok2 (s1.trans s2) (x1.trans x2) ⟨_, _, rfl, r1.mono s2 x2, r2⟩
end
end DL

end
section
set_option maxRecDepth 10000
/-! Operators over data. -/
namespace DL
open PySem L2 PyProof.Rows
/-! ### lists of data -/
section
variable {K : PySem.W.Frag} {R R' H : Hp}
theorem RepL.length : ∀ {ds : List D} {vs : List V}, RepL K R ds vs → ds.length = vs.length
  | [], vs, h => by have e : vs = [] := h; subst e; rfl
  | d :: ds, vs, h => by
    obtain ⟨v, r, e, h1, h2⟩ := h
    subst e
    rw [List.length_cons, List.length_cons, RepL.length h2]
theorem RepL.nil : RepL K R [] [] := rfl
theorem RepL.cons {d : D} {ds : List D} {v : V} {vs : List V} (h : Rep K R d v) (t : RepL K R ds vs) : RepL K R (d :: ds) (v :: vs) := ⟨v, vs, rfl, h, t⟩
theorem RepL.app : ∀ {ds es : List D} {vs ws : List V}, RepL K R ds vs → RepL K R es ws → RepL K R (ds ++ es) (vs ++ ws)
  | [], es, vs, ws, h, h' => by have e : vs = [] := h; subst e; exact h'
  | d :: ds, es, vs, ws, h, h' => by
    obtain ⟨v, r, e, h1, h2⟩ := h
    subst e
    exact ⟨v, r ++ ws, rfl, h1, RepL.app h2 h'⟩
theorem RepL.get : ∀ {ds : List D} {vs : List V} {i : Nat} {d : D}, RepL K R ds vs → ds[i]? = some d → ∃ v, vs[i]? = some v ∧ Rep K R d v
  | [], _, i, d, h, e => by simp at e
  | x :: ds, vs, 0, d, h, e => by
    obtain ⟨v, r, e', h1, h2⟩ := h
    subst e'
    simp at e
    subst e
    exact ⟨v, rfl, h1⟩
  | x :: ds, vs, i + 1, d, h, e => by
    obtain ⟨v, r, e', h1, h2⟩ := h
    subst e'
    obtain ⟨w, e1, e2⟩ := RepL.get h2 (by simpa using e)
    exact ⟨w, by simpa using e1, e2⟩
theorem RepL.getV : ∀ {ds : List D} {vs : List V} {i : Nat} {v : V}, RepL K R ds vs → vs[i]? = some v → ∃ d, ds[i]? = some d ∧ Rep K R d v
  | [], vs, i, v, h, e => by have e' : vs = [] := h; subst e'; simp at e
  | x :: ds, vs, 0, v, h, e => by
    obtain ⟨w, r, e', h1, h2⟩ := h
    subst e'
    simp at e
    subst e
    exact ⟨x, rfl, h1⟩
  | x :: ds, vs, i + 1, v, h, e => by
    obtain ⟨w, r, e', h1, h2⟩ := h
    subst e'
    obtain ⟨y, e1, e2⟩ := RepL.getV h2 (by simpa using e)
    exact ⟨y, by simpa using e1, e2⟩
theorem RepL.take : ∀ {ds : List D} {vs : List V} (n : Nat), RepL K R ds vs → RepL K R (ds.take n) (vs.take n)
  | [], vs, n, h => by have e' : vs = [] := h; subst e'; simp [RepL]
  | x :: ds, vs, 0, h => by simp [RepL]
  | x :: ds, vs, n + 1, h => by
    obtain ⟨w, r, e', h1, h2⟩ := h
    subst e'
    exact ⟨w, r.take n, rfl, h1, RepL.take n h2⟩
theorem RepL.drop : ∀ {ds : List D} {vs : List V} (n : Nat), RepL K R ds vs → RepL K R (ds.drop n) (vs.drop n)
  | [], vs, n, h => by have e' : vs = [] := h; subst e'; simp [RepL]
  | x :: ds, vs, 0, h => h
  | x :: ds, vs, n + 1, h => by
    obtain ⟨w, r, e', h1, h2⟩ := h
    subst e'
    exact RepL.drop n h2
theorem RepL.set {d : D} {v : V} (hd : Rep K R d v) : ∀ {ds : List D} {vs : List V} (n : Nat), RepL K R ds vs → RepL K R (ds.set n d) (vs.set n v)
  | [], vs, n, h => by have e' : vs = [] := h; subst e'; simp [RepL]
  | x :: ds, vs, 0, h => by
    obtain ⟨w, r, e', h1, h2⟩ := h
    subst e'
    exact ⟨v, r, rfl, hd, h2⟩
  | x :: ds, vs, n + 1, h => by
    obtain ⟨w, r, e', h1, h2⟩ := h
    subst e'
    exact ⟨w, r.set n v, rfl, h1, RepL.set hd n h2⟩
theorem RepL.rev : ∀ {ds : List D} {vs : List V}, RepL K R ds vs → RepL K R ds.reverse vs.reverse
  | [], vs, h => by have e' : vs = [] := h; subst e'; simp [RepL]
  | x :: ds, vs, h => by
    obtain ⟨w, r, e', h1, h2⟩ := h
    subst e'
    rw [List.reverse_cons, List.reverse_cons]
    exact (RepL.rev h2).app ⟨w, [], rfl, h1, rfl⟩
theorem RepL.rep {ds : List D} {vs : List V} (h : RepL K R ds vs) : ∀ n : Nat, RepL K R (List.replicate n ds).flatten (List.replicate n vs).flatten
  | 0 => rfl
  | n + 1 => by
    rw [List.replicate_succ, List.replicate_succ, List.flatten_cons, List.flatten_cons]
    exact h.app (RepL.rep h n)
theorem RepL.mem : ∀ {ds : List D} {vs : List V}, RepL K R ds vs → ∀ v ∈ vs, ∃ d ∈ ds, Rep K R d v := fun h v hv => by
  obtain ⟨i, hi⟩ := List.getElem?_of_mem hv
  obtain ⟨d, e, r⟩ := h.getV hi
  exact ⟨d, List.mem_of_getElem? e, r⟩
theorem RepL.erase : ∀ {ds : List D} {vs : List V} (n : Nat), RepL K R ds vs → RepL K R (ds.eraseIdx n) (vs.eraseIdx n)
  | [], vs, n, h => by have e' : vs = [] := h; subst e'; simp [RepL]
  | x :: ds, vs, 0, h => by
    obtain ⟨w, r, e', h1, h2⟩ := h
    subst e'
    exact h2
  | x :: ds, vs, n + 1, h => by
    obtain ⟨w, r, e', h1, h2⟩ := h
    subst e'
    exact ⟨w, r.eraseIdx n, rfl, h1, RepL.erase n h2⟩
theorem atI_rep {ds : List D} {vs : List V} {i : Int} {d : D} (h : RepL K R ds vs) (e : atI ds i = some d) : ∃ v, atI vs i = some v ∧ Rep K R d v := by
  unfold atI at e ⊢
  rw [← h.length]
  cases q : ixN ds.length i with
  | none => rw [q] at e; cases e
  | some j =>
    rw [q] at e
    obtain ⟨v, e1, e2⟩ := h.get (i := j) e
    exact ⟨v, e1, e2⟩
def cutD (xs : List D) (lo hi : Option Int) : List D := (xs.drop (HT.sIx xs.length 0 lo)).take (HT.sIx xs.length xs.length hi - HT.sIx xs.length 0 lo)
theorem cut_rep {ds : List D} {vs : List V} (lo hi : Option Int) (h : RepL K R ds vs) : RepL K R (cutD ds lo hi) (cutV vs lo hi) := by
  unfold cutD cutV
  rw [h.length]
  exact (h.drop _).take _
theorem ints_rep : ∀ {ds : List D} {vs : List V} (ns : List Int), ds = ns.map D.int → RepL K R ds vs → vs = ns.map V.int
  | _, vs, [], e, h => by subst e; exact h
  | _, vs, n :: ns, e, h => by
    subst e
    obtain ⟨v, r, e', h1, h2⟩ := h
    have e1 : v = .int n := h1
    rw [e', e1, ints_rep ns rfl h2]
    rfl
theorem bls_rep : ∀ {ds : List D} {vs : List V} (ns : List Bool), ds = ns.map D.bl → RepL K R ds vs → vs = ns.map V.bl
  | _, vs, [], e, h => by subst e; exact h
  | _, vs, n :: ns, e, h => by
    subst e
    obtain ⟨v, r, e', h1, h2⟩ := h
    have e1 : v = .bl n := h1
    rw [e', e1, bls_rep ns rfl h2]
    rfl
theorem strs_rep : ∀ {ds : List D} {vs : List V} (ns : List Str), ds = ns.map D.str → RepL K R ds vs → vs = ns.map V.str
  | _, vs, [], e, h => by subst e; exact h
  | _, vs, n :: ns, e, h => by
    subst e
    obtain ⟨v, r, e', h1, h2⟩ := h
    have e1 : v = .str n := h1
    rw [e', e1, strs_rep ns rfl h2]
    rfl
end
section
variable {K : PySem.W.Frag} {g : Gh} {E : Sl} {M : List DO} {σ : L2.St} {H R : Hp} {A : List (List Addr)} {Qd : D → Prop} {Q : VK}
theorem fin_tup {ds : List D} {vs : List V} (ok : Ok K g E M σ H R A) (r : RepL K R ds vs) (q : Qd (.tup ds)) (k : ∀ d z H' R', Qd d → Ok K g E M σ H' R' A → Sub R R' → Rep K R' d z → Q z H') : ∀ p, H p = none → Q (.ref p) (upd H p (.tup vs)) := fun p hp => by
  have hR : R p = none := by
    cases e : R p with
    | none => rfl
    | some u => have := ok.sub _ _ e; rw [hp] at this; cases this
  exact k _ _ _ _ q (ok.ro hp) (Sub.upd hR) ⟨p, vs, rfl, upd_same, r.mono (Sub.upd hR)⟩
theorem fin_lst {ds : List D} {vs : List V} (ok : Ok K g E M σ H R A) (r : RepL K R ds vs) (q : Qd (.lst ds)) (k : ∀ d z H' R', Qd d → Ok K g E M σ H' R' A → Sub R R' → Rep K R' d z → Q z H') : ∀ p, H p = none → Q (.ref p) (upd H p (.lst vs)) := fun p hp => by
  have hR : R p = none := by
    cases e : R p with
    | none => rfl
    | some u => have := ok.sub _ _ e; rw [hp] at this; cases this
  exact k _ _ _ _ q (ok.ro hp) (Sub.upd hR) ⟨p, vs, rfl, upd_same, r.mono (Sub.upd hR)⟩
theorem fin_same {d : D} {x : V} (ok : Ok K g E M σ H R A) (r : Rep K R d x) (q : Qd d) (k : ∀ d z H' R', Qd d → Ok K g E M σ H' R' A → Sub R R' → Rep K R' d z → Q z H') : Q x H := k _ _ _ _ q ok (Sub.refl _) r
end

/-! ### ints -/
def dI (f : Int → Int → D) : RD2 := fun a b Q => match a, b with | .int i, .int j => Q (f i j) | _, _ => False
def dIc (C : Int → Int → Prop) (f : Int → Int → D) : RD2 := fun a b Q => match a, b with | .int i, .int j => C i j ∧ Q (f i j) | _, _ => False
theorem ro_I {K : PySem.W.Frag} {f : Int → Int → D} {v : Int → Int → V} (hf : ∀ i j R, Rep K R (f i j) (v i j)) : RO K (rI0 v) (dI f) := by
  refine ⟨fun {g E M σ H R A a b x y Qd Q} ok ra rb h k => ?_⟩
  unfold dI at h
  split at h
  · rename_i i j
    exact ⟨i, j, ra, rb, fin_same ok (hf i j R) h k⟩
  · exact h.elim
theorem ro_Ic {K : PySem.W.Frag} {C : Int → Int → Prop} {f : Int → Int → D} {v : Int → Int → V} (hf : ∀ i j R, Rep K R (f i j) (v i j)) : RO K (rI C v) (dIc C f) := by
  refine ⟨fun {g E M σ H R A a b x y Qd Q} ok ra rb h k => ?_⟩
  unfold dIc at h
  split at h
  · rename_i i j
    exact ⟨i, j, ra, rb, h.1, fin_same ok (hf i j R) h.2 k⟩
  · exact h.elim
abbrev dLt : RD2 := dI fun i j => .bl (decide (i < j))
abbrev dLe : RD2 := dI fun i j => .bl (decide (i ≤ j))
abbrev dGt : RD2 := dI fun i j => .bl (decide (j < i))
abbrev dGe : RD2 := dI fun i j => .bl (decide (j ≤ i))
abbrev dSub : RD2 := dI fun i j => .int (i - j)
abbrev dMod : RD2 := dIc (fun _ j => 0 < j) fun i j => .int (i % j)
abbrev dDiv : RD2 := dIc CDivW fun i j => .int (i / j)
abbrev dPow : RD2 := dIc CPow fun i j => .int (i ^ j.toNat)
theorem ro_lt {K : PySem.W.Frag} : RO K (rI0 fun i j => .bl (decide (i < j))) dLt := by
  refine ro_I fun _ _ _ => ?_
  rfl
theorem ro_le {K : PySem.W.Frag} : RO K (rI0 fun i j => .bl (decide (i ≤ j))) dLe := by
  refine ro_I fun _ _ _ => ?_
  rfl
theorem ro_gt {K : PySem.W.Frag} : RO K (rI0 fun i j => .bl (decide (j < i))) dGt := by
  refine ro_I fun _ _ _ => ?_
  rfl
theorem ro_ge {K : PySem.W.Frag} : RO K (rI0 fun i j => .bl (decide (j ≤ i))) dGe := by
  refine ro_I fun _ _ _ => ?_
  rfl
theorem ro_sub {K : PySem.W.Frag} : RO K (rI0 fun i j => .int (i - j)) dSub := by
  refine ro_I fun _ _ _ => ?_
  rfl
theorem ro_mod {K : PySem.W.Frag} : RO K (rI (fun _ j => 0 < j) fun i j => .int (i % j)) dMod := by
  refine ro_Ic fun _ _ _ => ?_
  rfl
theorem ro_div {K : PySem.W.Frag} : RO K (rI CDivW fun i j => .int (i / j)) dDiv := by
  refine ro_Ic fun _ _ _ => ?_
  rfl
theorem ro_pow {K : PySem.W.Frag} : RO K (rI CPow fun i j => .int (i ^ j.toNat)) dPow := by
  refine ro_Ic fun _ _ _ => ?_
  rfl

/-! ### + of ints, texts, tuples, lists -/
def dAdd : RD2 := fun a b Q => match a, b with
  | .int i, .int j => Q (.int (i + j))
  | .str s, .str t => s.length + t.length ≤ sizeLine ∧ Q (.str (s ++ t))
  | .tup xs, .tup ys => xs.length + ys.length ≤ sizeLine ∧ Q (.tup (xs ++ ys))
  | .lst xs, .lst ys => xs.length + ys.length ≤ sizeLine ∧ Q (.lst (xs ++ ys))
  | _, _ => False
def rAddAll (K : PySem.W.Frag) : R2 := fun x y H Q => (rI0 (fun i j => .int (i + j)) x y H Q ∨ (∃ i j, x = .str i ∧ y = .str j ∧ i.length + j.length ≤ sizeLine ∧ Q (.str (i ++ j)) H)) ∨ (rCatA K x y H Q ∨ rCat x y H Q)
theorem op_addAll {X : Cx} : OpR X (binaryOp .Add) (rAddAll X.K) := (op_add.or op_add_str).or (op_catA.or op_cat)
theorem ro_add {K : PySem.W.Frag} : RO K (rAddAll K) dAdd := by
  refine ⟨fun {g E M σ H R A a b x y Qd Q} ok ra rb h k => ?_⟩
  unfold dAdd at h
  split at h
  · rename_i i j
    exact .inl (.inl ⟨i, j, ra, rb, fin_same ok (d := .int (i + j)) rfl h k⟩)
  · rename_i s t
    exact .inl (.inr ⟨s, t, ra, rb, h.1, fin_same ok (d := .str (s ++ t)) rfl h.2 k⟩)
  · rename_i xs ys
    obtain ⟨p, vs, e1, h1, r1⟩ := ra
    obtain ⟨q, ws, e2, h2, r2⟩ := rb
    refine .inr (.inl ⟨p, q, vs, ws, e1, e2, .of (ok.sub _ _ h1), .of (ok.sub _ _ h2), by rw [← r1.length, ← r2.length]; exact h.1, fun z => ?_, fun _ z => ?_, fun _ _ => fin_tup ok (r1.app r2) h.2 k⟩)
    · have e : xs = [] := List.length_eq_zero_iff.mp (by rw [r1.length, z]; rfl)
      subst e
      exact fin_same ok (d := .tup ys) ⟨q, ws, rfl, h2, r2⟩ h.2 k
    · have e : ys = [] := List.length_eq_zero_iff.mp (by rw [r2.length, z]; rfl)
      subst e
      exact fin_same ok (d := .tup xs) ⟨p, vs, rfl, h1, r1⟩ (by simpa using h.2) k
  · rename_i xs ys
    obtain ⟨p, vs, e1, h1, r1⟩ := ra
    obtain ⟨q, ws, e2, h2, r2⟩ := rb
    exact .inr (.inr ⟨p, q, vs, ws, e1, e2, h1, h2, by rw [← r1.length, ← r2.length]; exact h.1, fin_lst ok (r1.app r2) h.2 k⟩)
  · exact h.elim

/-! ### * of ints, of a list or a tuple and an int -/
def dMul : RD2 := fun a b Q => match a, b with
  | .int i, .int j => CMul i j ∧ Q (.int (i * j))
  | .lst xs, .int k => k < 2 ^ 63 ∧ -(2 ^ 63) ≤ k ∧ xs.length * k.toNat ≤ sizeLine ∧ Q (.lst (List.replicate k.toNat xs).flatten)
  | _, _ => False
def rMulAll : R2 := fun x y H Q => rI CMul (fun i j => .int (i * j)) x y H Q ∨ rRep x y H Q
theorem op_mulAll {X : Cx} : OpR X (binaryOp .Mult) rMulAll := op_mul.or op_rep
theorem ro_mul {K : PySem.W.Frag} : RO K rMulAll dMul := by
  refine ⟨fun {g E M σ H R A a b x y Qd Q} ok ra rb h k => ?_⟩
  unfold dMul at h
  split at h
  · rename_i i j
    exact .inl ⟨i, j, ra, rb, h.1, fin_same ok (d := .int (i * j)) rfl h.2 k⟩
  · rename_i xs n
    obtain ⟨p, vs, e1, h1, r1⟩ := ra
    exact .inr ⟨p, n, vs, e1, rb, h1, h.2.1, h.1, by rw [← r1.length]; exact h.2.2.1, fin_lst ok (r1.rep _) h.2.2.2 k⟩
  · exact h.elim

/-! ### texts -/
def dLtS : RD2 := fun a b Q => match a, b with | .str i, .str j => Q (.bl (decide (i.cps.toList < j.cps.toList))) | _, _ => False
theorem ro_ltS {K : PySem.W.Frag} : RO K (fun x y H Q => ∃ i j, x = .str i ∧ y = .str j ∧ Q (.bl (decide (i.cps.toList < j.cps.toList))) H) dLtS := by
  refine ⟨fun {g E M σ H R A a b x y Qd Q} ok ra rb h k => ?_⟩
  unfold dLtS at h
  split at h
  · rename_i i j
    exact ⟨i, j, ra, rb, fin_same ok (d := .bl _) rfl h k⟩
  · exact h.elim
/-! ### == and != of scalars -/
def scalD : D → D → Option Bool
  | .non, .non => some true | .non, .int _ => some false | .int _, .non => some false | .non, .bl _ => some false | .bl _, .non => some false | .non, .str _ => some false | .str _, .non => some false
  | .int i, .int j => some (decide (i = j)) | .bl i, .bl j => some (decide (i = j)) | .str i, .str j => some (decide (i = j))
  | .int _, .str _ => some false | .str _, .int _ => some false | .bl _, .str _ => some false | .str _, .bl _ => some false
  | _, _ => none
def dEqS : RD2 := fun a b Q => match scalD a b with | some c => Q (.bl c) | none => False
def dNeS : RD2 := fun a b Q => match scalD a b with | some c => Q (.bl (!c)) | none => False
theorem scal_of {K : PySem.W.Frag} {H R : Hp} {a b : D} {x y : V} {c : Bool} (h : scalD a b = some c) (ra : Now K H R a x) (rb : Now K H R b y) : scal x y = true ∧ c = decide (x = y) := by
  unfold scalD at h
  split at h <;> first
    | (cases h; done)
    | (have ra' : x = _ := ra
       have rb' : y = _ := rb
       subst ra' rb'
       cases h
       exact ⟨rfl, by simp⟩)
theorem ro_eqS {K : PySem.W.Frag} : RO K rEq dEqS := by
  refine ⟨fun {g E M σ H R A a b x y Qd Q} ok ra rb h k => ?_⟩
  unfold dEqS at h
  split at h
  · rename_i c e
    obtain ⟨h1, h2⟩ := scal_of e ra rb
    rw [h2] at h
    exact ⟨h1, fin_same ok (d := .bl _) rfl h k⟩
  · exact h.elim
theorem ro_neS {K : PySem.W.Frag} : RO K rNe dNeS := by
  refine ⟨fun {g E M σ H R A a b x y Qd Q} ok ra rb h k => ?_⟩
  unfold dNeS at h
  split at h
  · rename_i c e
    obtain ⟨h1, h2⟩ := scal_of e ra rb
    rw [h2] at h
    exact ⟨h1, fin_same ok (d := .bl _) rfl h k⟩
  · exact h.elim
/-! ### is None -/
def isNon : D → Bool | .non => true | _ => false
def dIsN : RD2 := fun a b Q => match b with | .non => Q (.bl (isNon a)) | _ => False
def dNotN : RD2 := fun a b Q => match b with | .non => Q (.bl (!isNon a)) | _ => False
theorem isNon_of {K : PySem.W.Frag} {H R : Hp} {a : D} {x : V} (ra : Now K H R a x) : isNon a = decide (x = .non) := by
  cases a with
  | non => have e : x = .non := ra; subst e; rfl
  | bl b => have e : x = .bl b := ra; subst e; rfl
  | int b => have e : x = .int b := ra; subst e; rfl
  | str b => have e : x = .str b := ra; subst e; rfl
  | tup b => obtain ⟨p, vs, e, _⟩ := ra; subst e; rfl
  | lst b => obtain ⟨p, vs, e, _⟩ := ra; subst e; rfl
  | dk b => obtain ⟨p, vs, e, _⟩ := ra; subst e; rfl
  | dt b => obtain ⟨p, vs, e, _⟩ := ra; subst e; rfl
  | scr b => obtain ⟨p, e, _⟩ := ra; subst e; rfl
  | ob b => have e : x = .ref b := ra; subst e; rfl
theorem ro_isN {K : PySem.W.Frag} : RO K (fun x y H Q => y = .non ∧ Q (.bl (decide (x = .non))) H) dIsN := by
  refine ⟨fun {g E M σ H R A a b x y Qd Q} ok ra rb h k => ?_⟩
  unfold dIsN at h
  split at h
  · rw [isNon_of ra] at h
    exact ⟨rb, fin_same ok (d := .bl _) rfl h k⟩
  · exact h.elim
theorem ro_notN {K : PySem.W.Frag} : RO K (fun x y H Q => y = .non ∧ Q (.bl (!decide (x = .non))) H) dNotN := by
  refine ⟨fun {g E M σ H R A a b x y Qd Q} ok ra rb h k => ?_⟩
  unfold dNotN at h
  split at h
  · rw [isNon_of ra] at h
    exact ⟨rb, fin_same ok (d := .bl _) rfl h k⟩
  · exact h.elim

/-! ### == of data -/
mutual
def py : D → PyData
  | .non => .none | .bl b => .bool b | .int i => .int i | .str s => .str s
  | .tup ds => .tuple (pys ds) | .lst ds => .list (pys ds) | _ => .dict []
def pys : List D → List PyData
  | [] => []
  | d :: ds => py d :: pys ds
end
theorem pys_map : ∀ ds : List D, pys ds = ds.map py
  | [] => rfl
  | d :: ds => by rw [pys, pys_map ds]; rfl
mutual
theorem dp_of {K : PySem.W.Frag} {H R : Hp} (s : Sub R H) : ∀ (d : D) {x : V}, (py d).canLay0 = true → Rep K R d x → Dp K H x (py d)
  | .non, x, _, h => by have e : x = _ := h; subst e; exact .non
  | .bl _, x, _, h => by have e : x = _ := h; subst e; exact .bl _
  | .int _, x, _, h => by have e : x = _ := h; subst e; exact .int _
  | .str _, x, _, h => by have e : x = _ := h; subst e; exact .str _
  | .tup ds, x, c, h => by
    obtain ⟨a, vs, e, h1, h2⟩ := h
    subst e
    rw [py, PyData.canLay0] at c
    rw [py]
    exact .tup (.of (s _ _ h1)) (dps_of s ds c h2)
  | .lst ds, x, c, h => by
    obtain ⟨a, vs, e, h1, h2⟩ := h
    subst e
    rw [py, PyData.canLay0] at c
    rw [py]
    exact .lst (.of (s _ _ h1)) (dps_of s ds c h2)
  | .dk _, _, c, _ => by simp [py, PyData.canLay0] at c
  | .dt _, _, c, _ => by simp [py, PyData.canLay0] at c
  | .scr _, _, c, _ => by simp [py, PyData.canLay0] at c
  | .ob _, _, c, _ => by simp [py, PyData.canLay0] at c
theorem dps_of {K : PySem.W.Frag} {H R : Hp} (s : Sub R H) : ∀ (ds : List D) {vs : List V}, PyData.canLayAll0 (pys ds) = true → RepL K R ds vs → DpAll K H vs (pys ds)
  | [], vs, _, h => by have e : vs = [] := h; subst e; exact .nil
  | d :: ds, vs, c, h => by
    obtain ⟨v, r, e, h1, h2⟩ := h
    subst e
    rw [pys, PyData.canLayAll0, Bool.and_eq_true] at c
    rw [pys]
    exact .cons (dp_of s d c.1 h1) (dps_of s ds c.2 h2)
end
theorem dp_now {K : PySem.W.Frag} {H R : Hp} (s : Sub R H) {d : D} {x : V} (c : (py d).canLay0 = true) (h : Now K H R d x) : Dp K H x (py d) := by
  cases d with
  | lst ds =>
    obtain ⟨a, vs, e, h1, h2⟩ := h
    subst e
    rw [py, PyData.canLay0] at c
    rw [py]
    exact .lst (.of h1) (dps_of s ds c h2)
  | dk _ => simp [py, PyData.canLay0] at c
  | dt _ => simp [py, PyData.canLay0] at c
  | _ => exact dp_of s _ c h
def okD (d : D) : Bool := SeqAt.shaped (py d)
def eqD (a b : D) : Bool := PyData.eqv (py a) (py b)
def dEq : RD2 := fun a b Q => okD a = true ∧ okD b = true ∧ Q (.bl (eqD a b))
def dNe : RD2 := fun a b Q => okD a = true ∧ okD b = true ∧ Q (.bl (!eqD a b))
theorem ro_eq {K : PySem.W.Frag} : RO K (rEqD K) dEq where run := fun {g E M σ H R A a b x y Qd Q} ok ra rb h k =>
  ⟨_, _, dp_now ok.sub (SeqAt.canLay_of_shaped h.1) ra, dp_now ok.sub (SeqAt.canLay_of_shaped h.2.1) rb, h.1, h.2.1, fin_same ok (d := .bl _) rfl h.2.2 k⟩
theorem ro_ne {K : PySem.W.Frag} : RO K (rNeD K) dNe where run := fun {g E M σ H R A a b x y Qd Q} ok ra rb h k =>
  ⟨_, _, dp_now ok.sub (SeqAt.canLay_of_shaped h.1) ra, dp_now ok.sub (SeqAt.canLay_of_shaped h.2.1) rb, h.1, h.2.1, fin_same ok (d := .bl _) rfl h.2.2 k⟩
/-- < of data that are alike -/
def rLtD (K : PySem.W.Frag) : R2 := fun x y H Q => ∃ d e, Dp K H x d ∧ Dp K H y e ∧ PySem.W.alike d e = true ∧ d ≠ .none ∧ d.depth ≤ 60 ∧ e.depth ≤ 60 ∧ Q (.bl (PySem.W.dataLt d e)) H
theorem op_ltD {X : Cx} (hu : X.A.units + 64 < cLine) : OpR X (compareOp .Lt) (rLtD X.K) := by
  intro pins s σ H x y v u Q I rx ry h
  obtain ⟨d, e, hd, he, al, hn, h1, h2, q⟩ := h
  obtain ⟨as, r1⟩ := Dp.reads I d x v hd rx
  obtain ⟨bs, r2⟩ := Dp.reads I e y u he ry
  have hm : min d.depth e.depth ≤ d.depth := Nat.min_le_left _ _
  show wpAny _ _ (richCompare .Lt v u) _ _ _
  exact PySem.W.rcLt_alike d e X.A s v u as bs r1 r2 al hn (by omega) _ _ _ _ ⟨.bl _, H, I, rfl, q⟩
/-- < : ints, texts, other alike data -/
def dLtD : RD2 := fun a b Q => (py a).canLay0 = true ∧ (py b).canLay0 = true ∧ PySem.W.alike (py a) (py b) = true ∧ py a ≠ .none ∧ (py a).depth ≤ 60 ∧ (py b).depth ≤ 60 ∧ Q (.bl (PySem.W.dataLt (py a) (py b)))
theorem ro_ltD {K : PySem.W.Frag} : RO K (rLtD K) dLtD where run := fun {g E M σ H R A a b x y Qd Q} ok ra rb h k =>
  ⟨_, _, dp_now ok.sub h.1 ra, dp_now ok.sub h.2.1 rb, h.2.2.1, h.2.2.2.1, h.2.2.2.2.1, h.2.2.2.2.2.1, fin_same ok (d := .bl _) rfl h.2.2.2.2.2.2 k⟩
end DL

end
section
set_option maxRecDepth 10000
/-! Subscripts, slices, membership, built-ins, displays over data. -/
namespace DL
open PySem L2 PyProof.Rows
/-! ### tables -/
section
variable {κ : Type} [DecidableEq κ]
def look (kvs : List (κ × D)) (k : κ) : Option D := (kvs.find? fun kv => decide (kv.1 = k)).map (·.2)
def putD (kvs : List (κ × D)) (k : κ) (v : D) : List (κ × D) :=
  if (kvs.any fun kv => decide (kv.1 = k)) = true then kvs.map (fun kv => if kv.1 = k then (kv.1, v) else kv) else kvs ++ [(k, v)]
def dropD (kvs : List (κ × D)) (k : κ) : List (κ × D) := kvs.filter fun kv => decide (kv.1 ≠ k)
end
section
variable {K : PySem.W.Frag} {R R' H : Hp}
theorem RepK.look : ∀ {ds : List (Key × D)} {vs : List (Key × V)} {k : Key}, RepK K R ds vs → match look ds k with | some d => ∃ v, valV vs k = some v ∧ Rep K R d v | none => valV vs k = none
  | [], vs, k, h => by have e : vs = [] := h; subst e; rfl
  | (k0, d) :: ds, vs, k, h => by
    obtain ⟨k', v, r, e, ⟨e1, h1⟩, h2⟩ := h
    subst e e1
    have ih := RepK.look (k := k) h2
    by_cases q : k' = k
    · subst q
      have a : DL.look ((k', d) :: ds) k' = some d := by simp [DL.look, List.find?_cons]
      rw [a]
      exact ⟨v, valV_pos rfl, h1⟩
    · have a : DL.look ((k', d) :: ds) k = DL.look ds k := by simp [DL.look, List.find?_cons, q]
      rw [a]
      have b : valV ((k', v) :: r) k = valV r k := valV_neg q
      rw [b]
      exact ih
theorem RepT.look : ∀ {ds : List (List Key × D)} {vs : List (List Key × V)} {k : List Key}, RepT K R ds vs → match look ds k with | some d => ∃ v, valV vs k = some v ∧ Rep K R d v | none => valV vs k = none
  | [], vs, k, h => by have e : vs = [] := h; subst e; rfl
  | (k0, d) :: ds, vs, k, h => by
    obtain ⟨k', v, r, e, ⟨e1, h1⟩, h2⟩ := h
    subst e e1
    have ih := RepT.look (k := k) h2
    by_cases q : k' = k
    · subst q
      have a : DL.look ((k', d) :: ds) k' = some d := by simp [DL.look, List.find?_cons]
      rw [a]
      exact ⟨v, valV_pos rfl, h1⟩
    · have a : DL.look ((k', d) :: ds) k = DL.look ds k := by simp [DL.look, List.find?_cons, q]
      rw [a]
      have b : valV ((k', v) :: r) k = valV r k := valV_neg q
      rw [b]
      exact ih
theorem RepK.length : ∀ {ds : List (Key × D)} {vs : List (Key × V)}, RepK K R ds vs → ds.length = vs.length
  | [], vs, h => by have e : vs = [] := h; subst e; rfl
  | kd :: ds, vs, h => by
    obtain ⟨k', v, r, e, _, h2⟩ := h
    subst e
    rw [List.length_cons, List.length_cons, RepK.length h2]
theorem RepT.length : ∀ {ds : List (List Key × D)} {vs : List (List Key × V)}, RepT K R ds vs → ds.length = vs.length
  | [], vs, h => by have e : vs = [] := h; subst e; rfl
  | kd :: ds, vs, h => by
    obtain ⟨k', v, r, e, _, h2⟩ := h
    subst e
    rw [List.length_cons, List.length_cons, RepT.length h2]
theorem RepK.keys : ∀ {ds : List (Key × D)} {vs : List (Key × V)}, RepK K R ds vs → ds.map (·.1) = vs.map (·.1)
  | [], vs, h => by have e : vs = [] := h; subst e; rfl
  | (k, d) :: ds, vs, h => by
    obtain ⟨k', v, r, e, ⟨e1, _⟩, h2⟩ := h
    subst e e1
    rw [List.map_cons, List.map_cons, RepK.keys h2]
theorem RepT.keys : ∀ {ds : List (List Key × D)} {vs : List (List Key × V)}, RepT K R ds vs → ds.map (·.1) = vs.map (·.1)
  | [], vs, h => by have e : vs = [] := h; subst e; rfl
  | (k, d) :: ds, vs, h => by
    obtain ⟨k', v, r, e, ⟨e1, _⟩, h2⟩ := h
    subst e e1
    rw [List.map_cons, List.map_cons, RepT.keys h2]
theorem RepK.app : ∀ {ds es : List (Key × D)} {vs ws : List (Key × V)}, RepK K R ds vs → RepK K R es ws → RepK K R (ds ++ es) (vs ++ ws)
  | [], es, vs, ws, h, h' => by have e : vs = [] := h; subst e; exact h'
  | kd :: ds, es, vs, ws, h, h' => by
    obtain ⟨k, v, r, e, h1, h2⟩ := h
    subst e
    exact ⟨k, v, r ++ ws, rfl, h1, RepK.app h2 h'⟩
theorem RepT.app : ∀ {ds es : List (List Key × D)} {vs ws : List (List Key × V)}, RepT K R ds vs → RepT K R es ws → RepT K R (ds ++ es) (vs ++ ws)
  | [], es, vs, ws, h, h' => by have e : vs = [] := h; subst e; exact h'
  | kd :: ds, es, vs, ws, h, h' => by
    obtain ⟨k, v, r, e, h1, h2⟩ := h
    subst e
    exact ⟨k, v, r ++ ws, rfl, h1, RepT.app h2 h'⟩
theorem RepK.repl {k : Key} {d : D} {v : V} (hd : Rep K R d v) : ∀ {ds : List (Key × D)} {vs : List (Key × V)}, RepK K R ds vs → RepK K R (ds.map fun kv => if kv.1 = k then (kv.1, d) else kv) (vs.map fun kv => if kv.1 = k then (kv.1, v) else kv)
  | [], vs, h => by have e : vs = [] := h; subst e; rfl
  | (k0, d0) :: ds, vs, h => by
    obtain ⟨k', v0, r, e, ⟨e1, h1⟩, h2⟩ := h
    subst e e1
    rw [List.map_cons, List.map_cons]
    by_cases q : k' = k
    · rw [if_pos q, if_pos q]
      exact ⟨k', v, _, rfl, ⟨rfl, hd⟩, RepK.repl hd h2⟩
    · rw [if_neg q, if_neg q]
      exact ⟨k', v0, _, rfl, ⟨rfl, h1⟩, RepK.repl hd h2⟩
theorem RepT.repl {k : List Key} {d : D} {v : V} (hd : Rep K R d v) : ∀ {ds : List (List Key × D)} {vs : List (List Key × V)}, RepT K R ds vs → RepT K R (ds.map fun kv => if kv.1 = k then (kv.1, d) else kv) (vs.map fun kv => if kv.1 = k then (kv.1, v) else kv)
  | [], vs, h => by have e : vs = [] := h; subst e; rfl
  | (k0, d0) :: ds, vs, h => by
    obtain ⟨k', v0, r, e, ⟨e1, h1⟩, h2⟩ := h
    subst e e1
    rw [List.map_cons, List.map_cons]
    by_cases q : k' = k
    · rw [if_pos q, if_pos q]
      exact ⟨k', v, _, rfl, ⟨rfl, hd⟩, RepT.repl hd h2⟩
    · rw [if_neg q, if_neg q]
      exact ⟨k', v0, _, rfl, ⟨rfl, h1⟩, RepT.repl hd h2⟩
theorem any_keys {κ α β : Type} [DecidableEq κ] (k : κ) : ∀ {ds : List (κ × α)} {vs : List (κ × β)}, ds.map (·.1) = vs.map (·.1) → (ds.any fun kv => decide (kv.1 = k)) = (vs.any fun kv => decide (kv.1 = k))
  | [], [], _ => rfl
  | [], _ :: _, e => by simp at e
  | _ :: _, [], e => by simp at e
  | a :: ds, b :: vs, e => by
    rw [List.map_cons, List.map_cons] at e
    injection e with e1 e2
    rw [List.any_cons, List.any_cons, any_keys k e2, e1]
theorem RepK.put {ds : List (Key × D)} {vs : List (Key × V)} {k : Key} {d : D} {v : V} (h : RepK K R ds vs) (hd : Rep K R d v) : RepK K R (putD ds k d) (putK vs k v) := by
  unfold putD putK
  rw [any_keys k h.keys]
  split
  · exact h.repl hd
  · exact h.app ⟨k, v, [], rfl, ⟨rfl, hd⟩, rfl⟩
theorem RepT.put {ds : List (List Key × D)} {vs : List (List Key × V)} {k : List Key} {d : D} {v : V} (h : RepT K R ds vs) (hd : Rep K R d v) : RepT K R (putD ds k d) (putK vs k v) := by
  unfold putD putK
  rw [any_keys k h.keys]
  split
  · exact h.repl hd
  · exact h.app ⟨k, v, [], rfl, ⟨rfl, hd⟩, rfl⟩
theorem RepK.drop (k : Key) : ∀ {ds : List (Key × D)} {vs : List (Key × V)}, RepK K R ds vs → RepK K R (dropD ds k) (dropK vs k)
  | [], vs, h => by have e : vs = [] := h; subst e; rfl
  | (k0, d0) :: ds, vs, h => by
    obtain ⟨k', v0, r, e, ⟨e1, h1⟩, h2⟩ := h
    subst e e1
    have ih := RepK.drop k h2
    unfold dropD dropK at ih ⊢
    rw [List.filter_cons, List.filter_cons]
    by_cases q : k' = k
    · rw [if_neg (by simp [q]), if_neg (by simp [q])]
      exact ih
    · rw [if_pos (by simp [q]), if_pos (by simp [q])]
      exact ⟨k', v0, _, rfl, ⟨rfl, h1⟩, ih⟩
end
/-- a datum as a key -/
def keyD : D → Option Key | .int i => some (.inl i) | .str s => some (.inr s) | _ => none
def keysD : List D → Option (List Key)
  | [] => some []
  | d :: ds => match keyD d, keysD ds with | some k, some ks => some (k :: ks) | _, _ => none
section
variable {K : PySem.W.Frag} {R H : Hp}
theorem keyD_rep {d : D} {k : Key} {x : V} (h : keyD d = some k) (r : Rep K R d x) : x = kV k := by
  unfold keyD at h
  split at h
  · cases h; exact r
  · cases h; exact r
  · cases h
theorem keyD_now {d : D} {k : Key} {x : V} (h : keyD d = some k) (r : Now K H R d x) : x = kV k := by
  unfold keyD at h
  split at h
  · cases h; exact r
  · cases h; exact r
  · cases h
theorem keysD_rep : ∀ {ds : List D} {ks : List Key} {vs : List V}, keysD ds = some ks → RepL K R ds vs → vs = ks.map kV
  | [], ks, vs, h, r => by
    have e : vs = [] := r
    cases (show some [] = some ks from h)
    rw [e]; rfl
  | d :: ds, ks, vs, h, r => by
    obtain ⟨v, r', e, h1, h2⟩ := r
    unfold keysD at h
    split at h
    · rename_i k ks' e1 e2
      cases h
      rw [e, keyD_rep e1 h1, keysD_rep e2 h2]
      rfl
    · cases h
end
def oq {α : Type} (o : Option α) (Q : α → Prop) : Prop := match o with | some d => Q d | none => False
theorem oq_some {α : Type} {o : Option α} {Q : α → Prop} {d : α} (h : o = some d) (q : Q d) : oq o Q := by subst h; exact q
theorem oq_elim {α : Type} {o : Option α} {Q : α → Prop} (h : oq o Q) : ∃ d, o = some d ∧ Q d := by
  cases o with
  | some d => exact ⟨d, rfl, h⟩
  | none => exact h.elim
/-- what the dict holds at the key -/
def dlook : D → D → Option (Option D)
  | .dk kvs, k => match keyD k with | some k => some (look kvs k) | none => none
  | .dt kvs, .tup ks => match keysD ks with | some k => some (look kvs k) | none => none
  | _, _ => none
def RelD (K : PySem.W.Frag) (R : Hp) (o : Option D) (v : Option V) : Prop := match o with | some d => ∃ z, v = some z ∧ Rep K R d z | none => v = none
theorem dget_of {K : PySem.W.Frag} {H R : Hp} (s : Sub R H) {a k : D} {x y : V} {o : Option D} (h : dlook a k = some o) (ra : Now K H R a x) (rk : Now K H R k y) :
    ∃ p v, x = .ref p ∧ DGet H p y v ∧ RelD K R o v := by
  unfold dlook at h
  split at h
  · obtain ⟨p, vs, e, h1, h2⟩ := ra
    split at h
    · rename_i k' e1
      have h := Option.some.inj h
      subst h
      exact ⟨p, valV vs k', e, .inl ⟨vs, k', h1, keyD_now e1 rk, rfl⟩, h2.look (k := k')⟩
    · cases h
  · obtain ⟨p, vs, e, h1, h2⟩ := ra
    obtain ⟨b, ws, e2, h3, h4⟩ := rk
    split at h
    · rename_i k' e1
      have h := Option.some.inj h
      subst h
      exact ⟨p, valV vs k', e, .inr ⟨vs, k', b, h1, e2, by rw [s _ _ h3, keysD_rep e1 h4], rfl⟩, h2.look (k := k')⟩
    · cases h
  · cases h

/-! ### a[b] -/
def dIx : RD2 := fun a b Q => match a, b with
  | .lst ds, .int i => oq (atI ds i) Q
  | .tup ds, .int i => oq (atI ds i) Q
  | .str s, .int i => s.length ≤ sizeLine ∧ oq (atI s.cps.toList i) fun c => Q (.str ⟨#[c]⟩)
  | .scr ns, .int i => oq (atI ns i) fun n => Q (.int n)
  | a, b => match dlook a b with | some (some d) => Q d | _ => False
def rIxD : R2 := fun x y H Q => ∃ a v, x = .ref a ∧ DGet H a y (some v) ∧ Q v H
theorem ix_dict {X : Cx} (hu : X.A.units + 64 < cLine) : IxR X rIxD := by
  intro value slice pins s σ H x y v u Q I rx ry h hs
  obtain ⟨a, z, e, g, q⟩ := h
  subst e
  obtain rfl : v = Value.ref a := rx
  exact tail_any (dict_typeIs I g) PySem.F.slot_dict_getitem.lookup (d_getItem (by omega) I g ry fun w' s3 I3 rw' => ⟨z, H, I3, rw', q⟩) hs
def rIxAll (K : PySem.W.Frag) : R2 := fun x y H Q => rIx K x y H Q ∨ rIxD x y H Q
theorem ix_all {X : Cx} (hu : X.A.units + 64 < cLine) : IxR X (rIxAll X.K) := ix_seq.or (ix_dict hu)
theorem atI_map {α β : Type} {f : α → β} {xs : List α} {i : Int} {v : α} (h : atI xs i = some v) : atI (xs.map f) i = some (f v) := by
  unfold atI at h ⊢
  rw [List.length_map]
  cases q : ixN xs.length i with
  | none => rw [q] at h; cases h
  | some j =>
    rw [q] at h
    show (xs.map f)[j]? = some (f v)
    rw [List.getElem?_map, show xs[j]? = some v from h]
    rfl
theorem ro_ix {K : PySem.W.Frag} : RO K (rIxAll K) dIx := by
  refine ⟨fun {g E M σ H R A a b x y Qd Q} ok ra rb h k => ?_⟩
  unfold dIx at h
  split at h
  · rename_i ds i
    obtain ⟨p, vs, e, h1, h2⟩ := ra
    obtain ⟨d, e1, q⟩ := oq_elim h
    obtain ⟨v, e2, r⟩ := atI_rep h2 e1
    exact .inl (.inl ⟨p, vs, i, v, e, rb, .of h1, e2, fin_same ok r q k⟩)
  · rename_i ds i
    obtain ⟨p, vs, e, h1, h2⟩ := ra
    obtain ⟨d, e1, q⟩ := oq_elim h
    obtain ⟨v, e2, r⟩ := atI_rep h2 e1
    exact .inl (.inr (.inl ⟨p, vs, i, v, e, rb, .of (ok.sub _ _ h1), e2, fin_same ok r q k⟩))
  · rename_i s i
    obtain ⟨d, e1, q⟩ := oq_elim h.2
    exact .inl (.inr (.inr ⟨s, i, d, ra, rb, h.1, e1, fin_same ok (d := .str ⟨#[d]⟩) rfl q k⟩))
  · rename_i ns i
    obtain ⟨p, e, h1⟩ := ra
    obtain ⟨n, e1, q⟩ := oq_elim h
    exact .inl (.inl ⟨p, _, i, _, e, rb, ok.sub.sqL h1, atI_map e1, fin_same ok (d := .int n) rfl q k⟩)
  · split at h
    · rename_i d e1
      obtain ⟨p, v, e2, g, z, e3, r⟩ := dget_of ok.sub e1 ra rb
      subst e3
      exact .inr ⟨p, z, e2, g, fin_same ok r h k⟩
    · exact h.elim
section
variable {X : Cx} {g : Gh} {a b c : Expr} {Ta Tb Tc : TD} {pos : Pos}
theorem de_ix (hu : X.A.units + 64 < cLine) (ha : DE X g a Ta) (hb : DE X g b Tb) (hs : PlainIx b := by exact fun _ _ => rfl) : DE X g (.Subscript a b pos) (dOp dIx Ta Tb) :=
  PEm (pe_ix (ix_all hu) ha hb hs) fun _ _ _ h => lift_op ro_ix h
end

/-! ### a[lo:hi] -/
def dSl (a : D) (lo hi : Option Int) (Q : D → Prop) : Prop := match a with
  | .lst ds => Q (.lst (cutD ds lo hi))
  | .tup ds => Q (.tup (cutD ds lo hi))
  | _ => False
abbrev TDO := Sl → List DO → (Option Int → List DO → Prop) → Prop
def doNone : TDO := fun _ M Q => Q none M
def doSome (T : TD) : TDO := fun E M Q => T E M fun v M1 => match v with | .d (.int i) => Q (some i) M1 | _ => False
def dSlice (T : TD) (Tl Th : TDO) : TD := fun E M Q => T E M fun v M1 => Tl E M1 fun l M2 => Th E M2 fun h M3 => match rd M3 v with | some a => dSl a l h fun d => Q (.d d) M3 | none => False
def liftO (K : PySem.W.Frag) (g : Gh) (T : TDO) : TO := fun σ H Q => ∃ E M R A Qd, Ok K g E M σ H R A ∧ T E M Qd ∧
  ∀ b M' H' R' A', Qd b M' → Ok K g E M' σ H' R' A' → Sub R R' → ExtA A A' → Q b H'
section
variable {X : Cx} {g : Gh} {a b c : Expr} {Ta Tb Tc : TD} {pos p2 : Pos} {lo hi : Option Expr} {Tl Th : TDO}
theorem POm {e : Option Expr} {t t' : TO} (h : PO X e t) (i : ∀ σ H Q, t' σ H Q → t σ H Q) : PO X e t' := ⟨fun pins s σ H Q I q => h.run pins s σ H Q I (i σ H Q q)⟩
theorem do_none : PO X none (liftO X.K g doNone) := POm po_none fun σ H Q ⟨E, M, R, A, Qd, ok, h, k⟩ => k _ _ _ _ _ h ok (Sub.refl _) (ExtA.refl _)
theorem do_some (ha : DE X g a Ta) : PO X (some a) (liftO X.K g (doSome Ta)) := POm (po_some ha) fun σ H Q ⟨E, M, R, A, Qd, ok, h, k⟩ => by
  refine ⟨E, M, R, A, _, ok, h, fun v M1 x H1 R1 A1 q1 ok1 s1 x1 r1 => ?_⟩
  split at q1
  · rename_i i
    exact ⟨i, r1, k _ _ _ _ _ q1 ok1 s1 x1⟩
  · exact q1.elim
def rSlAll (K : PySem.W.Frag) : V → Option Int → Option Int → Hp → VK → Prop := fun x lo hi H Q => rSlA K x lo hi H Q ∨ rSlL K x lo hi H Q
theorem cutD_all {ds : List D} {lo hi : Option Int} (h : HT.sIx ds.length 0 lo = 0 ∧ HT.sIx ds.length ds.length hi = ds.length) : cutD ds lo hi = ds := by
  unfold cutD
  rw [h.1, h.2]
  simp
theorem de_slice (ha : DE X g a Ta) (hl : PO X lo (liftO X.K g Tl)) (hh : PO X hi (liftO X.K g Th)) : DE X g (.Subscript a (.Slice lo hi none p2) pos) (dSlice Ta Tl Th) :=
  PEm (pe_slice (r := rSlAll X.K) (sl_tupA.or sl_list) ha hl hh) fun σ H Q ⟨E, M, R, A, Qd, ok, h, k⟩ => by
    refine ⟨E, M, R, A, _, ok, h, fun v M1 x H1 R1 A1 q1 ok1 s1 x1 r1 => ⟨E, M1, R1, A1, _, ok1, q1, fun l M2 H2 R2 A2 q2 ok2 s2 x2 => ⟨E, M2, R2, A2, _, ok2, q2, fun u M3 H3 R3 A3 q3 ok3 s3 x3 => ?_⟩⟩⟩
    split at q3
    · rename_i d e
      have n := ok3.now ((r1.mono s2 x2).mono s3 x3) e
      have kk : ∀ d z H' R', Qd (.d d) M3 → Ok X.K g E M3 σ H' R' A3 → Sub R3 R' → Rep X.K R' d z → Q z H' := fun d z H' R' qd ok' s' r' => k _ _ _ _ _ _ qd ok' (((s1.trans s2).trans s3).trans s') ((x1.trans x2).trans x3) r'
      unfold dSl at q3
      split at q3
      · rename_i ds
        obtain ⟨p, vs, e1, h1, h2⟩ := n
        exact .inr ⟨p, vs, e1, .of h1, fin_lst (Qd := fun d => Qd (.d d) M3) ok3 (cut_rep l u h2) q3 kk⟩
      · rename_i ds
        obtain ⟨p, vs, e1, h1, h2⟩ := n
        refine .inl ⟨p, vs, e1, .of (ok3.sub _ _ h1), fun z => ?_, fun _ => fin_tup (Qd := fun d => Qd (.d d) M3) ok3 (cut_rep l u h2) q3 kk⟩
        rw [← h2.length] at z
        rw [cutD_all z] at q3
        subst e1
        exact fin_same (Qd := fun d => Qd (.d d) M3) ok3 (d := .tup ds) ⟨p, vs, rfl, h1, h2⟩ q3 kk
      · exact q3.elim
    · exact q3.elim
end

/-! ### in, not in -/
def flatD : D → Bool | .non => true | .bl _ => true | .int _ => true | .str _ => true | _ => false
def eqF : D → D → Bool
  | .non, .non => true
  | .bl a, .bl b => a == b
  | .bl a, .int b => (if a then 1 else 0) == b
  | .int a, .bl b => a == (if b then 1 else 0)
  | .int a, .int b => a == b
  | .str a, .str b => a == b
  | _, _ => false
def inD (x : D) (xs : List D) : Bool := xs.any fun y => eqF y x
theorem flat_rep {K : PySem.W.Frag} {R : Hp} {d : D} {v : V} (h : flatD d = true) (r : Rep K R d v) : flatV v = true := by
  cases d <;> first
    | (have e : v = _ := r; subst e; rfl)
    | (simp [flatD] at h)
theorem flat_now {K : PySem.W.Frag} {H R : Hp} {d : D} {v : V} (h : flatD d = true) (r : Now K H R d v) : Rep K R d v := by
  cases d <;> first
    | exact r
    | (simp [flatD] at h)
theorem eqF_rep {K : PySem.W.Frag} {R : Hp} {d e : D} {v w : V} (hd : flatD d = true) (he : flatD e = true) (r : Rep K R d v) (q : Rep K R e w) : eqV v w = eqF d e := by
  cases d <;> first
    | (simp [flatD] at hd; done)
    | (cases e <;> first
        | (simp [flatD] at he; done)
        | (have e1 : v = _ := r
           have e2 : w = _ := q
           subst e1 e2
           rfl))
theorem inD_rep {K : PySem.W.Frag} {R : Hp} {d : D} {v : V} (hd : flatD d = true) (r : Rep K R d v) : ∀ {es : List D} {ws : List V}, es.all flatD = true → RepL K R es ws → ws.all flatV = true ∧ inV v ws = inD d es
  | [], ws, _, h => by have e : ws = [] := h; subst e; exact ⟨rfl, rfl⟩
  | e :: es, ws, hf, h => by
    obtain ⟨w, r', e', h1, h2⟩ := h
    subst e'
    rw [List.all_cons, Bool.and_eq_true] at hf
    obtain ⟨i1, i2⟩ := inD_rep hd r hf.2 h2
    refine ⟨by rw [List.all_cons, flat_rep hf.1 h1, i1]; rfl, ?_⟩
    unfold inV inD at i2 ⊢
    rw [List.any_cons, List.any_cons, i2, eqF_rep hf.1 hd h1 r]
/-- x in y, as a truth -/
def inB (a b : D) (Q : Bool → Prop) : Prop := match b with
  | .lst ds => flatD a = true ∧ ds.all flatD = true ∧ Q (inD a ds)
  | .tup ds => flatD a = true ∧ ds.all flatD = true ∧ Q (inD a ds)
  | .str z => (match a with | .str y => ∃ c, y = ⟨#[c]⟩ ∧ Q (decide (c ∈ z.cps.toList)) | _ => False)
  | b => match dlook b a with | some o => Q o.isSome | none => False
def dIn : RD2 := fun a b Q => inB a b fun c => Q (.bl c)
def dNotIn : RD2 := fun a b Q => inB a b fun c => Q (.bl (!c))
def rInD (n : Bool) : R2 := fun x y H Q => ∃ a o, y = .ref a ∧ DGet H a x o ∧ Q (.bl (if n then !o.isSome else o.isSome)) H
theorem op_inD {X : Cx} (hu : X.A.units + 64 < cLine) : OpR X (compareOp .In) (rInD false) := by
  intro pins s σ H x y v u Q I rx ry h
  obtain ⟨a, o, e, gg, q⟩ := h
  subst e
  obtain rfl : u = Value.ref a := ry
  exact d_in (by omega) I gg rx fun s3 I3 => ⟨.bl o.isSome, H, I3, rfl, q⟩
theorem op_notInD {X : Cx} (hu : X.A.units + 64 < cLine) : OpR X (compareOp .NotIn) (rInD true) := by
  intro pins s σ H x y v u Q I rx ry h
  obtain ⟨a, o, e, gg, q⟩ := h
  subst e
  obtain rfl : u = Value.ref a := ry
  exact d_notIn (by omega) I gg rx fun s3 I3 => ⟨.bl (!o.isSome), H, I3, rfl, q⟩
def rInS (n : Bool) : R2 := fun x y H Q => ∃ (c : Nat) (z : Str), x = .str ⟨#[c]⟩ ∧ y = .str z ∧ Q (.bl (if n then !decide (c ∈ z.cps.toList) else decide (c ∈ z.cps.toList))) H
def rInAll (K : PySem.W.Frag) (n : Bool) : R2 := fun x y H Q => rIn K n x y H Q ∨ (rInD n x y H Q ∨ rInS n x y H Q)
theorem op_inAll {X : Cx} (hu : X.A.units + 64 < cLine) : OpR X (compareOp .In) (rInAll X.K false) := op_in_seq.or ((op_inD hu).or op_in_sign)
theorem op_notInAll {X : Cx} (hu : X.A.units + 64 < cLine) : OpR X (compareOp .NotIn) (rInAll X.K true) := op_notIn_seq.or ((op_notInD hu).or op_notIn_sign)
theorem in_of {K : PySem.W.Frag} {g : Gh} {E : Sl} {M : List DO} {σ : L2.St} {H R : Hp} {A : List (List Addr)} {a b : D} {x y : V} {P : Bool → Prop} (ok : Ok K g E M σ H R A) (ra : Now K H R a x) (rb : Now K H R b y) (h : inB a b P) :
    ∃ c, P c ∧ ((∃ p xs, y = .ref p ∧ (SqL K H p xs ∨ SqT K H p xs) ∧ flatV x = true ∧ xs.all flatV = true ∧ inV x xs = c) ∨ (∃ p o, y = .ref p ∧ DGet H p x o ∧ o.isSome = c) ∨ ∃ (cc : Nat) (z : Str), x = .str ⟨#[cc]⟩ ∧ y = .str z ∧ decide (cc ∈ z.cps.toList) = c) := by
  unfold inB at h
  split at h
  · rename_i ds
    obtain ⟨h1, h2, h3⟩ := h
    obtain ⟨p, vs, e, e1, e2⟩ := rb
    obtain ⟨i1, i2⟩ := inD_rep h1 (flat_now h1 ra) h2 e2
    exact ⟨_, h3, .inl ⟨p, vs, e, .inl (.of e1), flat_rep h1 (flat_now h1 ra), i1, i2⟩⟩
  · rename_i ds
    obtain ⟨h1, h2, h3⟩ := h
    obtain ⟨p, vs, e, e1, e2⟩ := rb
    obtain ⟨i1, i2⟩ := inD_rep h1 (flat_now h1 ra) h2 e2
    exact ⟨_, h3, .inl ⟨p, vs, e, .inr (.of (ok.sub _ _ e1)), flat_rep h1 (flat_now h1 ra), i1, i2⟩⟩
  · rename_i z
    split at h
    · rename_i y'
      obtain ⟨c, e, h3⟩ := h
      subst e
      exact ⟨_, h3, .inr (.inr ⟨c, z, ra, rb, rfl⟩)⟩
    · exact h.elim
  · split at h
    · rename_i o e1
      obtain ⟨p, v, e2, gg, q⟩ := dget_of ok.sub e1 rb ra
      refine ⟨_, h, .inr (.inl ⟨p, v, e2, gg, ?_⟩)⟩
      cases o with
      | some d => obtain ⟨z, e3, _⟩ := q; subst e3; rfl
      | none => have e3 : v = none := q; subst e3; rfl
    · exact h.elim
theorem ro_in {K : PySem.W.Frag} : RO K (rInAll K false) dIn := by
  refine ⟨fun {g E M σ H R A a b x y Qd Q} ok ra rb h k => ?_⟩
  obtain ⟨c, q, f⟩ := in_of ok ra rb h
  rcases f with ⟨p, xs, e, h1, h2, h3, h4⟩ | ⟨p, o, e, h1, h2⟩ | ⟨cc, z, e1, e2, h2⟩
  · subst h4; exact .inl ⟨p, xs, e, h1, h2, h3, fin_same ok (d := .bl _) rfl q k⟩
  · subst h2; exact .inr (.inl ⟨p, o, e, h1, fin_same ok (d := .bl _) rfl q k⟩)
  · subst h2; exact .inr (.inr ⟨cc, z, e1, e2, fin_same ok (d := .bl _) rfl q k⟩)
theorem ro_notIn {K : PySem.W.Frag} : RO K (rInAll K true) dNotIn := by
  refine ⟨fun {g E M σ H R A a b x y Qd Q} ok ra rb h k => ?_⟩
  obtain ⟨c, q, f⟩ := in_of ok ra rb h
  rcases f with ⟨p, xs, e, h1, h2, h3, h4⟩ | ⟨p, o, e, h1, h2⟩ | ⟨cc, z, e1, e2, h2⟩
  · subst h4; exact .inl ⟨p, xs, e, h1, h2, h3, fin_same ok (d := .bl _) rfl q k⟩
  · subst h2; exact .inr (.inl ⟨p, o, e, h1, fin_same ok (d := .bl _) rfl q k⟩)
  · subst h2; exact .inr (.inr ⟨cc, z, e1, e2, fin_same ok (d := .bl _) rfl q k⟩)

/-! ### built-ins by name -/
def NowL (K : PySem.W.Frag) (H R : Hp) : List D → List V → Prop
  | [], xs => xs = []
  | d :: ds, xs => ∃ x r, xs = x :: r ∧ Now K H R d x ∧ NowL K H R ds r
def rdL (M : List DO) : List Val → Option (List D)
  | [] => some []
  | v :: vs => match rd M v, rdL M vs with | some d, some ds => some (d :: ds) | _, _ => none
theorem Ok.nowL {K : PySem.W.Frag} {g : Gh} {E : Sl} {M : List DO} {σ : L2.St} {H R : Hp} {A : List (List Addr)} (ok : Ok K g E M σ H R A) : ∀ {vs : List Val} {xs : List V} {ds : List D}, RepVs K R A vs xs → rdL M vs = some ds → NowL K H R ds xs
  | [], xs, ds, r, h => by
    have e : xs = [] := r
    cases (show some [] = some ds from h)
    exact e
  | v :: vs, xs, ds, r, h => by
    obtain ⟨x, r', e, h1, h2⟩ := r
    unfold rdL at h
    split at h
    · rename_i d ds' e1 e2
      cases h
      exact ⟨x, r', e, ok.now h1 e1, Ok.nowL ok h2 e2⟩
    · cases h
abbrev RDC := List D → (D → Prop) → Prop
structure RC (K : PySem.W.Frag) (r : List V → Hp → VK → Prop) (dr : RDC) : Prop where
  run : ∀ {g : Gh} {E : Sl} {M : List DO} {σ : L2.St} {H R : Hp} {A : List (List Addr)} {ds : List D} {xs : List V} {Qd : D → Prop} {Q : VK}, Ok K g E M σ H R A → NowL K H R ds xs → dr ds Qd →
  (∀ d z H' R', Qd d → Ok K g E M σ H' R' A → Sub R R' → Rep K R' d z → Q z H') → r xs H Q
def dCB (dr : RDC) (U : TDA) : TD := fun E M Q => U E M fun vs M1 => match rdL M1 vs with | some ds => dr ds fun d => Q (.d d) M1 | none => False
section
variable {X : Cx} {g : Gh} {x : Str} {p pos : Pos} {e : Expr} {es : List Expr} {U : TDA} {id T : String} {r : List V → Hp → VK → Prop} {dr : RDC}
theorem lift_cb (rc : RC X.K r dr) {σ : L2.St} {H : Hp} {Q : VK} (h : lift X.K g (dCB dr U) σ H Q) : tCB r (liftA X.K g U) σ H Q := by
  obtain ⟨E, M, R, A, Qd, ok, h, k⟩ := h
  refine ⟨E, M, R, A, _, ok, h, fun vs M1 xs H1 R1 A1 q1 ok1 s1 x1 r1 => ?_⟩
  split at q1
  · rename_i ds e1
    exact rc.run ok1 (ok1.nowL r1 e1) q1 fun d z H' R' qd ok' s' r' => k _ _ _ _ _ _ qd ok' (s1.trans s') x1 r'
  · exact q1.elim
theorem de_callB (rc : RC X.K r dr) (hc : CallR X (.builtin id) r) (hg : Gl X x) (hm : X.mg x = none) (hv : bootBuiltins x = some (.builtin id)) (ha : DA X g (e :: es) U) (hn : x ≠ "__name__" := by decide) (hdb : (x == ("__debug__" : Str)) = false := by decide)
    (he : starEach (e :: es) X.env = (false, eval e X.env) :: starEach es X.env := by rfl) (hpl : (backTo pos (starEach es X.env)).any (·.1) = false := by rfl) : DE X g (.Call (.Name x p) (e :: es) [] pos) (dCB dr U) :=
  PEm (pe_callB hc hg hm hv ha hn hdb he hpl) fun _ _ _ h => lift_cb rc h
theorem de_callTy (rc : RC X.K r dr) (hc : CallR X (.type T) r) (hg : Gl X x) (hm : X.mg x = none) (hv : bootBuiltins x = some (.type T)) (ha : DA X g (e :: es) U) (hn : x ≠ "__name__" := by decide) (hdb : (x == ("__debug__" : Str)) = false := by decide)
    (he : starEach (e :: es) X.env = (false, eval e X.env) :: starEach es X.env := by rfl) (hpl : (backTo pos (starEach es X.env)).any (·.1) = false := by rfl) : DE X g (.Call (.Name x p) (e :: es) [] pos) (dCB dr U) :=
  PEm (pe_callTy hc hg hm hv ha hn hdb he hpl) fun _ _ _ h => lift_cb rc h
end
theorem CallR.or {X : Cx} {f : Value} {r r' : List V → Hp → VK → Prop} (h : CallR X f r) (h' : CallR X f r') : CallR X f (fun xs H Q => r xs H Q ∨ r' xs H Q) := by
  intro pins s σ H xs us Q I rs q
  rcases q with q | q
  · exact h pins s σ H xs us Q I rs q
  · exact h' pins s σ H xs us Q I rs q
/-- len -/
def dLen : RDC := fun ds Q => match ds with
  | [.lst xs] => Q (.int xs.length) | [.tup xs] => Q (.int xs.length) | [.str s] => s.length ≤ sizeLine ∧ Q (.int s.length) | [.scr ns] => Q (.int ns.length)
  | [.dk kvs] => Q (.int kvs.length) | _ => False
def rLenD : List V → Hp → VK → Prop := fun xs H Q => ∃ a kvs, xs = [V.ref a] ∧ Rd H a (.dK kvs) ∧ Q (.int kvs.length) H
theorem call_lenDR {X : Cx} : CallR X (.builtin "len") rLenD := by
  intro pins s σ H xs us Q I r h
  obtain ⟨a, kvs, rfl, e, q⟩ := h
  obtain ⟨u, rfl, ru⟩ := vals1 r
  cases ru
  exact d_len I e fun t s' I' => ⟨.int kvs.length, H, I', ⟨t, rfl⟩, q⟩
def rLenAll (K : PySem.W.Frag) : List V → Hp → VK → Prop := fun xs H Q => (∃ x n, xs = [x] ∧ LenV K x H n ∧ Q (.int n) H) ∨ rLenD xs H Q
theorem call_lenAll {X : Cx} : CallR X (.builtin "len") (rLenAll X.K) := CallR.or call_len call_lenDR
theorem rc_len {K : PySem.W.Frag} : RC K (rLenAll K) dLen := by
  refine ⟨fun {g E M σ H R A ds xs Qd Q} ok rs h k => ?_⟩
  unfold dLen at h
  split at h
  · obtain ⟨x, r, e, ⟨p, vs, e1, h1, h2⟩, h3⟩ := rs
    have e3 : r = [] := h3
    subst e e3 e1
    exact .inl ⟨_, _, rfl, .inl ⟨vs, .of h1, rfl⟩, fin_same ok (d := .int _) (by rw [h2.length]; rfl) h k⟩
  · obtain ⟨x, r, e, ⟨p, vs, e1, h1, h2⟩, h3⟩ := rs
    have e3 : r = [] := h3
    subst e e3 e1
    exact .inl ⟨_, _, rfl, .inr ⟨vs, .of (ok.sub _ _ h1), rfl⟩, fin_same ok (d := .int _) (by rw [h2.length]; rfl) h k⟩
  · obtain ⟨x, r, e, h1, h3⟩ := rs
    have e3 : r = [] := h3
    have e1 : x = .str _ := h1
    subst e e3 e1
    exact .inl ⟨_, _, rfl, ⟨h.1, rfl⟩, fin_same ok (d := .int _) rfl h.2 k⟩
  · obtain ⟨x, r, e, ⟨p, e1, h1⟩, h3⟩ := rs
    have e3 : r = [] := h3
    subst e e3 e1
    exact .inl ⟨_, _, rfl, .inl ⟨_, ok.sub.sqL h1, rfl⟩, fin_same ok (d := .int _) (by rw [List.length_map]; rfl) h k⟩
  · obtain ⟨x, r, e, ⟨p, vs, e1, h1, h2⟩, h3⟩ := rs
    have e3 : r = [] := h3
    subst e e3 e1
    exact .inr ⟨p, vs, rfl, h1, fin_same ok (d := .int _) (by rw [h2.length]; rfl) h k⟩
  · exact h.elim
/-- all of a list of truths -/
def blsD : List D → Option (List Bool)
  | [] => some []
  | .bl b :: ds => match blsD ds with | some bs => some (b :: bs) | none => none
  | _ => none
theorem blsD_eq : ∀ {ds : List D} {bs : List Bool}, blsD ds = some bs → ds = bs.map D.bl
  | [], bs, h => by cases (show some [] = some bs from h); rfl
  | d :: ds, bs, h => by
    unfold blsD at h
    split at h
    · rename_i e; cases e
    · rename_i b ds' e
      injection e with e1 e2
      subst e1 e2
      split at h
      · rename_i bs' e3
        cases h
        rw [blsD_eq e3]; rfl
      · cases h
    · cases h
theorem blsD_map {α : Type} (p : α → Bool) : ∀ l : List α, blsD (l.map fun x => D.bl (p x)) = some (l.map p)
  | [] => rfl
  | x :: l => by rw [List.map_cons, blsD, blsD_map p l]; rfl
def intsD : List D → Option (List Int)
  | [] => some []
  | .int b :: ds => match intsD ds with | some bs => some (b :: bs) | none => none
  | _ => none
theorem intsD_eq : ∀ {ds : List D} {bs : List Int}, intsD ds = some bs → ds = bs.map D.int
  | [], bs, h => by cases (show some [] = some bs from h); rfl
  | d :: ds, bs, h => by
    unfold intsD at h
    split at h
    · rename_i e; cases e
    · rename_i b ds' e
      injection e with e1 e2
      subst e1 e2
      split at h
      · rename_i bs' e3
        cases h
        rw [intsD_eq e3]; rfl
      · cases h
    · cases h
theorem intsD_map {α : Type} (p : α → Int) : ∀ l : List α, intsD (l.map fun x => D.int (p x)) = some (l.map p)
  | [] => rfl
  | x :: l => by rw [List.map_cons, intsD, intsD_map p l]; rfl
def dAll : RDC := fun ds Q => match ds with | [.lst xs] => oq (blsD xs) fun bs => Q (.bl (bs.all id)) | _ => False
def dAny : RDC := fun ds Q => match ds with | [.lst xs] => oq (blsD xs) fun bs => Q (.bl (bs.any id)) | _ => False
def dSum : RDC := fun ds Q => match ds with | [.lst xs] => oq (intsD xs) fun ns => Q (.int ns.sum) | _ => False
def maxI : List Int → Int | [] => 0 | x :: r => r.foldl max x
def dMax : RDC := fun ds Q => match ds with | [.lst xs] => oq (intsD xs) fun ns => ns ≠ [] ∧ Q (.int (maxI ns)) | [.int i, .int j] => Q (.int (max i j)) | _ => False
def dMin : RDC := fun ds Q => match ds with | [.int i, .int j] => Q (.int (min i j)) | _ => False
theorem one_lst {K : PySem.W.Frag} {H R : Hp} {ds : List D} {xs : List V} (rs : NowL K H R [.lst ds] xs) : ∃ p vs, xs = [.ref p] ∧ H p = some (.lst vs) ∧ RepL K R ds vs := by
  obtain ⟨x, r, e, ⟨p, vs, e1, h1, h2⟩, h3⟩ := rs
  have e3 : r = [] := h3
  subst e e3 e1
  exact ⟨p, vs, rfl, h1, h2⟩
theorem rc_all {K : PySem.W.Frag} : RC K (rAll K) dAll := by
  refine ⟨fun {g E M σ H R A ds xs Qd Q} ok rs h k => ?_⟩
  unfold dAll at h
  split at h
  · obtain ⟨p, vs, e, h1, h2⟩ := one_lst rs
    obtain ⟨bs, e1, q⟩ := oq_elim h
    have e2 := bls_rep bs (blsD_eq e1) h2
    subst e2
    exact ⟨p, bs, e, .of h1, fin_same ok (d := .bl _) rfl q k⟩
  · exact h.elim
theorem rc_any {K : PySem.W.Frag} : RC K (rAny K) dAny := by
  refine ⟨fun {g E M σ H R A ds xs Qd Q} ok rs h k => ?_⟩
  unfold dAny at h
  split at h
  · obtain ⟨p, vs, e, h1, h2⟩ := one_lst rs
    obtain ⟨bs, e1, q⟩ := oq_elim h
    have e2 := bls_rep bs (blsD_eq e1) h2
    subst e2
    exact ⟨p, bs, e, .of h1, fin_same ok (d := .bl _) rfl q k⟩
  · exact h.elim
theorem rc_sum {K : PySem.W.Frag} : RC K (rSum K) dSum := by
  refine ⟨fun {g E M σ H R A ds xs Qd Q} ok rs h k => ?_⟩
  unfold dSum at h
  split at h
  · obtain ⟨p, vs, e, h1, h2⟩ := one_lst rs
    obtain ⟨bs, e1, q⟩ := oq_elim h
    have e2 := ints_rep bs (intsD_eq e1) h2
    subst e2
    exact ⟨p, bs, e, .of h1, fin_same ok (d := .int _) rfl q k⟩
  · exact h.elim
theorem foldl_max_ge (r : List Int) : ∀ x : Int, x ≤ r.foldl max x ∧ ∀ y ∈ r, y ≤ r.foldl max x := by
  induction r with
  | nil => intro x; exact ⟨Int.le_refl _, fun y hy => by simp at hy⟩
  | cons a r ih =>
    intro x
    rw [List.foldl_cons]
    obtain ⟨h1, h2⟩ := ih (max x a)
    refine ⟨by omega, fun y hy => ?_⟩
    rcases List.mem_cons.mp hy with e | e
    · subst e; omega
    · exact h2 y e
theorem foldl_max_mem (r : List Int) : ∀ x : Int, r.foldl max x = x ∨ r.foldl max x ∈ r := by
  induction r with
  | nil => intro x; exact .inl rfl
  | cons a r ih =>
    intro x
    rw [List.foldl_cons]
    rcases ih (max x a) with e | e
    · rw [e]
      rcases Int.le_total x a with h | h
      · right; rw [Int.max_eq_right h]; exact List.mem_cons_self
      · left; exact Int.max_eq_left h
    · exact .inr (List.mem_cons_of_mem _ e)
theorem maxI_mem {ns : List Int} (h : ns ≠ []) : maxI ns ∈ ns := by
  cases ns with
  | nil => exact absurd rfl h
  | cons x r =>
    rcases foldl_max_mem r x with e | e
    · show r.foldl max x ∈ _
      rw [e]; exact List.mem_cons_self
    · exact List.mem_cons_of_mem _ e
theorem maxI_ge {ns : List Int} : ∀ y ∈ ns, y ≤ maxI ns := by
  cases ns with
  | nil => intro y hy; simp at hy
  | cons x r =>
    intro y hy
    obtain ⟨h1, h2⟩ := foldl_max_ge r x
    rcases List.mem_cons.mp hy with e | e
    · subst e; exact h1
    · exact h2 y e
theorem maxI_eq {ns : List Int} {m : Int} (h1 : m ∈ ns) (h2 : ∀ y ∈ ns, y ≤ m) : maxI ns = m := by
  have a := h2 _ (maxI_mem (ns := ns) (by intro e; subst e; simp at h1))
  have b := maxI_ge (ns := ns) m h1
  omega
def rMaxAll (K : PySem.W.Frag) : List V → Hp → VK → Prop := fun xs H Q => rMax K xs H Q ∨ ∃ i j, xs = [.int i, .int j] ∧ Q (.int (if j > i then j else i)) H
theorem call_maxAll {X : Cx} (hc : X.calm = true) : CallR X (.builtin "max") (rMaxAll X.K) := CallR.or (cr_max hc) (call_max2 hc)
theorem two_ints {K : PySem.W.Frag} {H R : Hp} {i j : Int} {xs : List V} (rs : NowL K H R [.int i, .int j] xs) : xs = [.int i, .int j] := by
  obtain ⟨x, r, e, h1, y, r2, e2, h2, h3⟩ := rs
  have e3 : r2 = [] := h3
  have e4 : x = .int i := h1
  have e5 : y = .int j := h2
  rw [e, e2, e3, e4, e5]
theorem rc_max {K : PySem.W.Frag} : RC K (rMaxAll K) dMax := by
  refine ⟨fun {g E M σ H R A ds xs Qd Q} ok rs h k => ?_⟩
  unfold dMax at h
  split at h
  · obtain ⟨p, vs, e, h1, h2⟩ := one_lst rs
    obtain ⟨bs, e1, q0, q⟩ := oq_elim h
    have e2 := ints_rep bs (intsD_eq e1) h2
    subst e2
    refine .inl ⟨p, bs, e, .of h1, List.length_pos_iff.mpr q0, fun m hm hle => ?_⟩
    rw [maxI_eq hm hle] at q
    exact fin_same ok (d := .int _) rfl q k
  · rename_i i j
    refine .inr ⟨i, j, two_ints rs, fin_same ok (d := .int (max i j)) ?_ h k⟩
    show V.int _ = V.int _
    congr 1
    split <;> omega
  · exact h.elim
theorem rc_min {K : PySem.W.Frag} : RC K (fun xs H Q => ∃ i j, xs = [.int i, .int j] ∧ Q (.int (if j < i then j else i)) H) dMin := by
  refine ⟨fun {g E M σ H R A ds xs Qd Q} ok rs h k => ?_⟩
  unfold dMin at h
  split at h
  · rename_i i j
    refine ⟨i, j, two_ints rs, fin_same ok (d := .int (min i j)) ?_ h k⟩
    show V.int _ = V.int _
    congr 1
    split <;> omega
  · exact h.elim
/-- tuple(..), list(..) of a list or a tuple -/
def dTuple : RDC := fun ds Q => match ds with | [.lst xs] => Q (.tup xs) | [.tup xs] => Q (.tup xs) | _ => False
def dList : RDC := fun ds Q => match ds with | [.lst xs] => Q (.lst xs) | [.tup xs] => Q (.lst xs) | _ => False
theorem one_tup {K : PySem.W.Frag} {H R : Hp} {ds : List D} {xs : List V} (rs : NowL K H R [.tup ds] xs) : ∃ p vs, xs = [.ref p] ∧ R p = some (.tup vs) ∧ RepL K R ds vs := by
  obtain ⟨x, r, e, ⟨p, vs, e1, h1, h2⟩, h3⟩ := rs
  have e3 : r = [] := h3
  subst e e3 e1
  exact ⟨p, vs, rfl, h1, h2⟩
theorem rc_tuple {K : PySem.W.Frag} : RC K (fun xs H Q => ∃ p ys, xs = [.ref p] ∧ ((SqL K H p ys ∧ ∀ l, H l = none → Q (.ref l) (upd H l (.tup ys))) ∨ (SqT K H p ys ∧ Q (.ref p) H))) dTuple := by
  refine ⟨fun {g E M σ H R A ds xs Qd Q} ok rs h k => ?_⟩
  unfold dTuple at h
  split at h
  · obtain ⟨p, vs, e, h1, h2⟩ := one_lst rs
    exact ⟨p, vs, e, .inl ⟨.of h1, fin_tup ok h2 h k⟩⟩
  · obtain ⟨p, vs, e, h1, h2⟩ := one_tup rs
    exact ⟨p, vs, e, .inr ⟨.of (ok.sub _ _ h1), fin_same ok (d := .tup _) ⟨p, vs, rfl, h1, h2⟩ h k⟩⟩
  · exact h.elim
theorem rc_list {K : PySem.W.Frag} : RC K (fun xs H Q => ∃ p ys, xs = [.ref p] ∧ (SqL K H p ys ∨ SqT K H p ys) ∧ ∀ l, H l = none → Q (.ref l) (upd H l (.lst ys))) dList := by
  refine ⟨fun {g E M σ H R A ds xs Qd Q} ok rs h k => ?_⟩
  unfold dList at h
  split at h
  · obtain ⟨p, vs, e, h1, h2⟩ := one_lst rs
    exact ⟨p, vs, e, .inl (.of h1), fin_lst ok h2 h k⟩
  · obtain ⟨p, vs, e, h1, h2⟩ := one_tup rs
    exact ⟨p, vs, e, .inr (.of (ok.sub _ _ h1)), fin_lst ok h2 h k⟩
  · exact h.elim
/-- int(a truth or an int) -/
def dIntOf : RDC := fun ds Q => match ds with | [.int i] => Q (.int i) | [.bl b] => Q (.int (if b then 1 else 0)) | _ => False
theorem rc_int {K : PySem.W.Frag} : RC K (fun xs H Q => (∃ i, xs = [.int i] ∧ Q (.int i) H) ∨ ∃ k, xs = [.bl k] ∧ Q (.int (if k then 1 else 0)) H) dIntOf := by
  refine ⟨fun {g E M σ H R A ds xs Qd Q} ok rs h k => ?_⟩
  unfold dIntOf at h
  split at h
  · obtain ⟨x, r, e, h1, h3⟩ := rs
    have e3 : r = [] := h3
    have e1 : x = .int _ := h1
    subst e e3 e1
    exact .inl ⟨_, rfl, fin_same ok (d := .int _) rfl h k⟩
  · obtain ⟨x, r, e, h1, h3⟩ := rs
    have e3 : r = [] := h3
    have e1 : x = .bl _ := h1
    subst e e3 e1
    exact .inr ⟨_, rfl, fin_same ok (d := .int _) rfl h k⟩
  · exact h.elim

/-! ### isinstance -/
def isInt : D → Bool | .int _ => true | .bl _ => true | _ => false
def isBool : D → Bool | .bl _ => true | _ => false
def isStr : D → Bool | .str _ => true | _ => false
def isTup : D → Bool | .tup _ => true | _ => false
inductive Ty4 : String → (D → Bool) → Prop where
  | int : Ty4 "int" isInt
  | bool : Ty4 "bool" isBool
  | str : Ty4 "str" isStr
  | tup : Ty4 "tuple" isTup
def tyN : D → Option String
  | .non => some "NoneType" | .bl _ => some "bool" | .int _ => some "int" | .str _ => some "str" | .tup _ => some "tuple" | .lst _ => some "list" | .dk _ => some "dict" | _ => none
theorem kit4 {n : String} {f : D → Bool} (t : Ty4 n f) {d : D} {m : String} (h : tyN d = some m) : kitB m n = some (f d) := by
  cases t <;> cases d <;> simp [tyN] at h <;> subst h <;> first | (simp only [isInt, isBool, isStr, isTup]; decide +kernel)
theorem tyx_of {K : PySem.W.Frag} {H R : Hp} (s : Sub R H) {d : D} {m : String} {x : V} (h : tyN d = some m) (r : Now K H R d x) : TyX K H x (.type m) := by
  cases d <;> simp [tyN] at h <;> subst h
  · have e : x = _ := r; subst e; exact .base .non
  · have e : x = _ := r; subst e; exact .base (.bl _)
  · have e : x = _ := r; subst e; exact .base (.int _)
  · have e : x = _ := r; subst e; exact .base (.str _)
  · obtain ⟨p, vs, e, h1, _⟩ := r; subst e; exact .base (.tup (s _ _ h1))
  · obtain ⟨p, vs, e, h1, _⟩ := r; subst e; exact .base (.lst h1)
  · obtain ⟨p, vs, e, h1 | ⟨o, h1⟩, _⟩ := r
    · subst e; exact .base (.dK h1)
    · subst e; exact .fDict h1
def dIsi (f : D → Bool) (T : TD) : TD := fun E M Q => T E M fun v M1 => match rd M1 v with | some d => (tyN d).isSome = true ∧ Q (.d (.bl (f d))) M1 | none => False
section
variable {X : Cx} {g : Gh} {a : Expr} {T : TD} {p p2 pos : Pos} {n : Str} {tn : String} {f : D → Bool}
theorem de_isi (t : Ty4 tn f) (ha : DE X g a T) (hg : Gl X "isinstance") (hm : X.mg "isinstance" = none) (hg2 : Gl X n) (hm2 : X.mg n = none) (hv2 : bootBuiltins n = some (.type tn)) (hn : n ≠ "__name__" := by decide) (hdb : (n == ("__debug__" : Str)) = false := by decide)
    (hs : starEach [a, .Name n p2] X.env = (false, eval a X.env) :: starEach [.Name n p2] X.env := by rfl) (hpl : (backTo pos (starEach [.Name n p2] X.env)).any (·.1) = false := by rfl)
    (hs2 : starEach [.Name n p2] X.env = (false, eval (.Name n p2) X.env) :: starEach [] X.env := by rfl) : DE X g (.Call (.Name "isinstance" p) [a, .Name n p2] [] pos) (dIsi f T) :=
  PEm (pe_callB call_isi hg hm boot_isinstance (pa_cons ha (pa_cons (pe_bltn (v := .ty tn) hg2 hm2 hv2 rfl hn hdb) pa_nil hs2) hs) (by decide) (by decide) hs hpl) fun σ H Q ⟨E, M, R, A, Qd, ok, h, k⟩ => by
    refine ⟨E, M, R, A, _, ok, h, fun v M1 x H1 R1 A1 q1 ok1 s1 x1 r1 => ?_⟩
    split at q1
    · rename_i d e
      obtain ⟨m, hm⟩ := Option.isSome_iff_exists.mp q1.1
      have n1 := ok1.now r1 e
      exact ⟨x, .ty tn, _, .type tn, f d, rfl, .ty tn, tyx_of ok1.sub hm n1, kit_ty (kit4 t hm), k _ _ _ _ _ _ q1.2 ok1 s1 x1 rfl⟩
    · exact q1.elim
end

/-! ### displays -/
/-- the values as data that will not change -/
def dsV : List Val → Option (List D)
  | [] => some []
  | .d x :: r => match dsV r with | some ds => some (x :: ds) | none => none
  | _ => none
theorem dsV_rep {K : PySem.W.Frag} {R : Hp} {A : List (List Addr)} : ∀ {vs : List Val} {ds : List D} {xs : List V}, dsV vs = some ds → RepVs K R A vs xs → RepL K R ds xs
  | [], ds, xs, h, r => by
    have e : xs = [] := r
    cases (show some [] = some ds from h)
    exact e
  | .d x :: vs, ds, xs, h, r => by
    obtain ⟨y, r', e, h1, h2⟩ := r
    unfold dsV at h
    split at h
    · rename_i ds' e1
      cases h
      exact ⟨y, r', e, h1, dsV_rep e1 h2⟩
    · cases h
  | .mu j :: vs, ds, xs, h, r => by cases h
def dTup (U : TDA) : TD := fun E M Q => U E M fun vs M1 => oq (dsV vs) fun ds => ds.length ≤ sizeLine ∧ Q (.d (.tup ds)) M1
def dLst (U : TDA) : TD := fun E M Q => U E M fun vs M1 => oq (dsV vs) fun ds => ds.length ≤ sizeLine ∧ Q (.d (.lst ds)) M1
/-- a list that will change -/
def dLstM (U : TDA) : TD := fun E M Q => U E M fun vs M1 => oq (dsV vs) fun ds => ds.length ≤ sizeLine ∧ Q (.mu M1.length) (M1 ++ [.lst ds])
section
variable {X : Cx} {g : Gh} {es : List Expr} {U : TDA} {pos : Pos}
theorem de_tup {x1} (h : DA X g es U) : DE X g (.Tuple es x1 pos) (dTup U) :=
  PEm (pe_tup h) fun σ H Q ⟨E, M, R, A, Qd, ok, h, k⟩ => by
    refine ⟨E, M, R, A, _, ok, h, fun vs M1 xs H1 R1 A1 q1 ok1 s1 x1 r1 => ?_⟩
    obtain ⟨ds, e, hl, q⟩ := oq_elim q1
    have r := dsV_rep e r1
    exact ⟨by rw [← r.length]; exact hl, fin_tup (Qd := fun d => Qd (.d d) M1) ok1 r q fun d z H' R' qd ok' s' r' => k _ _ _ _ _ _ qd ok' (s1.trans s') x1 r'⟩
theorem de_lst (h : DA X g es U) : DE X g (.List es pos) (dLst U) :=
  PEm (pe_lst h) fun σ H Q ⟨E, M, R, A, Qd, ok, h, k⟩ => by
    refine ⟨E, M, R, A, _, ok, h, fun vs M1 xs H1 R1 A1 q1 ok1 s1 x1 r1 => ?_⟩
    obtain ⟨ds, e, hl, q⟩ := oq_elim q1
    have r := dsV_rep e r1
    exact ⟨by rw [← r.length]; exact hl, fin_lst (Qd := fun d => Qd (.d d) M1) ok1 r q fun d z H' R' qd ok' s' r' => k _ _ _ _ _ _ qd ok' (s1.trans s') x1 r'⟩
theorem Ok.at_len {K : PySem.W.Frag} {E : Sl} {M : List DO} {σ : L2.St} {H R : Hp} {A : List (List Addr)} (ok : Ok K g E M σ H R A) (l : List Addr) : (A ++ [l])[M.length]? = some l := by
  rw [← ok.obj.length]
  simp
theorem de_lstM (h : DA X g es U) : DE X g (.List es pos) (dLstM U) :=
  PEm (pe_lst h) fun σ H Q ⟨E, M, R, A, Qd, ok, h, k⟩ => by
    refine ⟨E, M, R, A, _, ok, h, fun vs M1 xs H1 R1 A1 q1 ok1 s1 x1 r1 => ?_⟩
    obtain ⟨ds, e, hl, q⟩ := oq_elim q1
    have r := dsV_rep e r1
    refine ⟨by rw [← r.length]; exact hl, fun p hp => k _ _ _ _ _ _ q (ok1.new hp ⟨p, xs, rfl, upd_same, r⟩) s1 (x1.trans (ExtA.app _ _)) ⟨p, [], ok1.at_len _, rfl⟩⟩
end
end DL

end
section
set_option maxRecDepth 10000
/-! Statements, loops, calls of defs over data. -/
namespace DL
open PySem L2 PyProof.Rows
section
variable {X : Cx} {g : Gh} {st : Stmt} {rest : List Stmt} {T U : TDS} {e : Expr} {Te : TD} {pos : Pos}
def sNext : TDS := fun D E M => D.nx E M
def sSeq (T U : TDS) : TDS := fun D E M => T { D with nx := U D } E M
theorem dss_nil : DSs X g [] sNext := PSsm pss_nil fun D σ H ⟨E, M, R, A, De, ok, h, k1, k2, k3, k4⟩ => k1 _ _ _ _ _ _ h ok (Sub.refl _) (ExtA.refl _)
theorem lift_step {D : Ends} {De : DEnds} {K : PySem.W.Frag} {R R1 : Hp} {A A1 : List (List Addr)} (s1 : Sub R R1) (x1 : ExtA A A1)
    (k : (∀ E' M' σ' H' R' A', De.nx E' M' → Ok K g E' M' σ' H' R' A' → Sub R R' → ExtA A A' → D.nx σ' H') ∧
      (∀ v M' x E' σ' H' R' A', De.rt v M' → Ok K g E' M' σ' H' R' A' → Sub R R' → ExtA A A' → RepV K R' A' v x → D.rt x H') ∧
      (∀ E' M' σ' H' R' A', De.bk E' M' → Ok K g E' M' σ' H' R' A' → Sub R R' → ExtA A A' → D.bk σ' H') ∧
      (∀ E' M' σ' H' R' A', De.ct E' M' → Ok K g E' M' σ' H' R' A' → Sub R R' → ExtA A A' → D.ct σ' H')) :
    (∀ E' M' σ' H' R' A', De.nx E' M' → Ok K g E' M' σ' H' R' A' → Sub R1 R' → ExtA A1 A' → D.nx σ' H') ∧
      (∀ v M' x E' σ' H' R' A', De.rt v M' → Ok K g E' M' σ' H' R' A' → Sub R1 R' → ExtA A1 A' → RepV K R' A' v x → D.rt x H') ∧
      (∀ E' M' σ' H' R' A', De.bk E' M' → Ok K g E' M' σ' H' R' A' → Sub R1 R' → ExtA A1 A' → D.bk σ' H') ∧
      (∀ E' M' σ' H' R' A', De.ct E' M' → Ok K g E' M' σ' H' R' A' → Sub R1 R' → ExtA A1 A' → D.ct σ' H') :=
  ⟨fun _ _ _ _ _ _ q ok s x => k.1 _ _ _ _ _ _ q ok (s1.trans s) (x1.trans x), fun _ _ _ _ _ _ _ _ q ok s x r => k.2.1 _ _ _ _ _ _ _ _ q ok (s1.trans s) (x1.trans x) r,
    fun _ _ _ _ _ _ q ok s x => k.2.2.1 _ _ _ _ _ _ q ok (s1.trans s) (x1.trans x), fun _ _ _ _ _ _ q ok s x => k.2.2.2 _ _ _ _ _ _ q ok (s1.trans s) (x1.trans x)⟩
theorem dss_cons (h1 : DS X g st T) (h2 : DSs X g rest U) : DSs X g (st :: rest) (sSeq T U) :=
  PSsm (pss_cons h1 h2) fun D σ H ⟨E, M, R, A, De, ok, h, kk⟩ =>
    ⟨E, M, R, A, { De with nx := U De }, ok, h, fun E' M' σ' H' R' A' q ok' s' x' => ⟨E', M', R', A', De, ok', q, lift_step s' x' kk⟩, kk.2⟩
theorem dss_one (h1 : DS X g st T) : DSs X g [st] T := pss_one h1
def sBreak : TDS := fun D E M => D.bk E M
def sCont : TDS := fun D E M => D.ct E M
theorem ds_pass : DS X g (.Pass pos) sNext := PSm ps_pass fun D σ H ⟨E, M, R, A, De, ok, h, k1, k2, k3, k4⟩ => k1 _ _ _ _ _ _ h ok (Sub.refl _) (ExtA.refl _)
theorem ds_break : DS X g (.Break pos) sBreak := PSm ps_break fun D σ H ⟨E, M, R, A, De, ok, h, k1, k2, k3, k4⟩ => k3 _ _ _ _ _ _ h ok (Sub.refl _) (ExtA.refl _)
theorem ds_continue : DS X g (.Continue pos) sCont := PSm ps_continue fun D σ H ⟨E, M, R, A, De, ok, h, k1, k2, k3, k4⟩ => k4 _ _ _ _ _ _ h ok (Sub.refl _) (ExtA.refl _)
def sExpr (T : TD) : TDS := fun D E M => T E M fun _ M' => D.nx E M'
theorem ds_expr (he : DE X g e Te) (hs : swapsWith e none pos.line X.env = pure false := by rfl) : DS X g (.Expr e pos) (sExpr Te) :=
  PSm (ps_expr he hs) fun D σ H ⟨E, M, R, A, De, ok, h, k1, k2, k3, k4⟩ => ⟨E, M, R, A, _, ok, h, fun v M' x H' R' A' q ok' s' x' _ => k1 _ _ _ _ _ _ q ok' s' x'⟩
def sRet (T : TD) : TDS := fun D E M => T E M D.rt
theorem ds_ret (he : DE X g e Te) : DS X g (.Return (some e) pos) (sRet Te) :=
  PSm (ps_ret he) fun D σ H ⟨E, M, R, A, De, ok, h, k1, k2, k3, k4⟩ => ⟨E, M, R, A, De.rt, ok, h, fun v M' x H' R' A' q ok' s' x' r => k2 _ _ _ _ _ _ _ _ q ok' s' x' r⟩
def sRetN : TDS := fun D E M => D.rt (.d .non) M
theorem ds_retN : DS X g (.Return none pos) sRetN :=
  PSm ps_retN fun D σ H ⟨E, M, R, A, De, ok, h, k1, k2, k3, k4⟩ => k2 _ _ _ _ _ _ _ _ h ok (Sub.refl _) (ExtA.refl _) rfl
def sIf (c : TDT) (T U : TDS) : TDS := fun D E M => c E M fun b M1 => br b (T D E M1) (U D E M1)
theorem ds_if {c : Expr} {a b : List Stmt} {Tc : TDT} (hc : DT X g c Tc) (ha : DSs X g a T) (hb : DSs X g b U) : DS X g (.If c a b pos) (sIf Tc T U) :=
  PSm (ps_if hc ha hb) fun D σ H ⟨E, M, R, A, De, ok, h, kk⟩ => ⟨E, M, R, A, _, ok, h, fun b M1 H1 R1 A1 q ok1 s1 x1 => by
    cases b with
    | true => exact ⟨E, M1, R1, A1, De, ok1, q.t rfl, lift_step s1 x1 kk⟩
    | false => exact ⟨E, M1, R1, A1, De, ok1, q.f rfl, lift_step s1 x1 kk⟩⟩
/-- code that the proof never comes to -/
def sNever : TDS := fun _ _ _ => False
theorem dss_never {sts : List Stmt} : DSs X g sts sNever := PSsm pss_never fun D σ H ⟨E, M, R, A, De, ok, h, _⟩ => h
end

/-! ### targets -/
abbrev TDG := Val → Sl → List DO → (Sl → List DO → Prop) → Prop
abbrev TDGs := List Val → Sl → List DO → (Sl → List DO → Prop) → Prop
/-- the slots of σ' are those of σ, but at is -/
def SetOnly (is : List Nat) (σ σ' : L2.St) : Prop := σ'.length = σ.length ∧ ∀ i, i ∉ is → σ'[i]? = σ[i]?
theorem SetOnly.refl (is : List Nat) (σ : L2.St) : SetOnly is σ σ := ⟨rfl, fun _ _ => rfl⟩
theorem SetOnly.trans {is js : List Nat} {σ σ' σ'' : L2.St} (a : SetOnly is σ σ') (b : SetOnly js σ' σ'') : SetOnly (is ++ js) σ σ'' := ⟨b.1.trans a.1, fun i h => (b.2 i fun q => h (List.mem_append_right _ q)).trans (a.2 i fun q => h (List.mem_append_left _ q))⟩
theorem SetOnly.set (σ : L2.St) (i : Nat) (x) : SetOnly [i] σ (σ.set i x) := ⟨List.length_set, fun j h => by
  rw [List.getElem?_set_ne]
  intro q; subst q; simp at h⟩
def liftG (K : PySem.W.Frag) (g : Gh) (is : List Nat) (T : TDG) : TG := fun x σ H Q => ∃ E M R A Qd v, Ok K g E M σ H R A ∧ RepV K R A v x ∧ T v E M Qd ∧
  ∀ E' M' σ' H' R' A', Qd E' M' → SetOnly is σ σ' → Ok K g E' M' σ' H' R' A' → Sub R R' → ExtA A A' → Q σ' H'
def liftGs (K : PySem.W.Frag) (g : Gh) (is : List Nat) (T : TDGs) : TGs := fun xs σ H Q => ∃ E M R A Qd vs, Ok K g E M σ H R A ∧ RepVs K R A vs xs ∧ T vs E M Qd ∧
  ∀ E' M' σ' H' R' A', Qd E' M' → SetOnly is σ σ' → Ok K g E' M' σ' H' R' A' → Sub R R' → ExtA A A' → Q σ' H'
theorem PGm {X : Cx} {e : Expr} {t t' : TG} (h : PG X e t) (i : ∀ v σ H Q, t' v σ H Q → t v σ H Q) : PG X e t' := ⟨fun pins s σ H v u Q I r q => h.run pins s σ H v u Q I r (i v σ H Q q)⟩
theorem PGsm {X : Cx} {es : List Expr} {t t' : TGs} (h : PGs X es t) (i : ∀ v σ H Q, t' v σ H Q → t v σ H Q) : PGs X es t' := ⟨fun pins s σ H v u Q I r q => h.run pins s σ H v u Q I r (i v σ H Q q)⟩
abbrev DG (X : Cx) (g : Gh) (e : Expr) (is : List Nat) (T : TDG) : Prop := PG X e (liftG X.K g is T)
abbrev DGs (X : Cx) (g : Gh) (es : List Expr) (is : List Nat) (T : TDGs) : Prop := PGs X es (liftGs X.K g is T)
def gN (i : Nat) : TDG := fun v E M Q => Q (E.set i (some v)) M
def gsNil : TDGs := fun vs E M Q => vs = [] ∧ Q E M
def gsCons (t : TDG) (u : TDGs) : TDGs := fun vs E M Q => match vs with | v :: r => t v E M fun E1 M1 => u r E1 M1 Q | [] => False
/-- what a value unpacks to -/
def unp (M : List DO) (v : Val) : Option (List Val) := match v with
  | .tp vs => some vs
  | v => match rd M v with | some (.tup xs) => some (xs.map .d) | some (.lst xs) => some (xs.map .d) | _ => none
def gT (n : Nat) (t : TDGs) : TDG := fun v E M Q => oq (unp M v) fun vs => vs.length = n ∧ t vs E M Q
theorem RepVs.length {K : PySem.W.Frag} {R : Hp} {A : List (List Addr)} : ∀ {vs : List Val} {xs : List V}, RepVs K R A vs xs → vs.length = xs.length
  | [], xs, h => by have e : xs = [] := h; subst e; rfl
  | v :: vs, xs, h => by
    obtain ⟨x, r, e, _, h2⟩ := h
    subst e
    rw [List.length_cons, List.length_cons, RepVs.length h2]
theorem reps_map {K : PySem.W.Frag} {R : Hp} {A : List (List Addr)} : ∀ {ds : List D} {xs : List V}, RepL K R ds xs → RepVs K R A (ds.map Val.d) xs
  | [], xs, h => h
  | d :: ds, xs, h => by
    obtain ⟨x, r, e, h1, h2⟩ := h
    exact ⟨x, r, e, h1, reps_map h2⟩
theorem PG.or {X : Cx} {e : Expr} {t t' : TG} (h : PG X e t) (h' : PG X e t') : PG X e (fun v σ H Q => t v σ H Q ∨ t' v σ H Q) := ⟨fun pins s σ H v u Q I r q => by
  rcases q with q | q
  · exact h.run pins s σ H v u Q I r q
  · exact h'.run pins s σ H v u Q I r q⟩
section
variable {X : Cx} {g : Gh} {pos : Pos}
theorem dg_n {i : Nat} {x : Str} (hN : X.N.Nodup) (hi : X.N[i]? = some x) (hx : Loc X.env.scope x) (hf : X.fn x = true ∨ X.env.scope.names.lookup x = some .local := by first | exact .inl rfl | exact .inr rfl | assumption) : DG X g (.Name x pos) [i] (gN i) :=
  PGm (pg_name hN hi hx hf) fun v σ H Q ⟨E, M, R, A, Qd, w, ok, r, h, k⟩ => k _ _ _ _ _ _ h (SetOnly.set _ _ _) (ok.setSlot r i) (Sub.refl _) (ExtA.refl _)
theorem dgs_nil : DGs X g [] [] gsNil := PGsm pgs_nil fun v σ H Q ⟨E, M, R, A, Qd, w, ok, r, h, k⟩ => by
  obtain ⟨e, h⟩ := h
  subst e
  exact ⟨r, k _ _ _ _ _ _ h (SetOnly.refl _ _) ok (Sub.refl _) (ExtA.refl _)⟩
theorem dgs_cons {e : Expr} {es : List Expr} {is js : List Nat} {t : TDG} {u : TDGs} (h1 : DG X g e is t) (h2 : DGs X g es js u)
    (hs : (assignEach (e :: es) X.env).map (·.2) = assign e X.env :: (assignEach es X.env).map (·.2) := by rfl) : DGs X g (e :: es) (is ++ js) (gsCons t u) :=
  PGsm (pgs_cons h1 h2 hs) fun v σ H Q ⟨E, M, R, A, Qd, w, ok, r, h, k⟩ => by
    cases w with
    | nil => exact h.elim
    | cons y w =>
      obtain ⟨x, xs, e, r1, r2⟩ := r
      exact ⟨x, xs, e, E, M, R, A, _, y, ok, r1, h, fun E1 M1 σ1 H1 R1 A1 q1 o1 ok1 s1 x1 => ⟨E1, M1, R1, A1, Qd, w, ok1, r2.mono s1 x1, q1, fun E2 M2 σ2 H2 R2 A2 q2 o2 ok2 s2 x2 => k _ _ _ _ _ _ q2 (o1.trans o2) ok2 (s1.trans s2) (x1.trans x2)⟩⟩
theorem dg_t {es : List Expr} {k : Nat} {is : List Nat} {t : TDGs} {n : Nat} (hc : X.calm = true) (h : DGs X g es is t)
    (hn : (assignEach es X.env).length = n := by rfl) (hst : (assignEach es X.env).findIdx? (·.1) = none := by rfl) : DG X g (.Tuple es k pos) is (gT n t) :=
  PGm (PG.or (pg_tup hc h hn hst) (pg_lst hc h hn hst)) fun v σ H Q ⟨E, M, R, A, Qd, w, ok, r, h, k⟩ => by
    obtain ⟨vs, e, hl, q⟩ := oq_elim h
    have tpc : ∀ ws, w = .tp ws → gTup X.K n (liftGs X.K g is t) v σ H Q ∨ gLst X.K n (liftGs X.K g is t) v σ H Q := fun ws ew => by
      subst ew
      cases e
      obtain ⟨p, us, e2, h1, h2⟩ := r
      exact .inl ⟨p, us, e2, .of (ok.sub _ _ h1), by rw [← RepVs.length h2]; exact hl, E, M, R, A, Qd, _, ok, h2, q, k⟩
    cases w with
    | tp ws => exact tpc ws rfl
    | d y => ?_
    | mu j => ?_
    all_goals
    unfold unp at e
    dsimp only at e
    split at e
    · rename_i xs e1
      cases e
      obtain ⟨p, us, e2, h1, h2⟩ := ok.now r e1
      refine .inl ⟨p, us, e2, .of (ok.sub _ _ h1), by rw [← h2.length]; simpa using hl, E, M, R, A, Qd, _, ok, reps_map h2, q, k⟩
    · rename_i xs e1
      cases e
      obtain ⟨p, us, e2, h1, h2⟩ := ok.now r e1
      refine .inr ⟨p, us, e2, .of h1, by rw [← h2.length]; simpa using hl, E, M, R, A, Qd, _, ok, reps_map h2, q, k⟩
    · cases e
/-- target = value -/
def sAsg (T : TD) (t : TDG) : TDS := fun D E M => T E M fun v M' => t v E M' D.nx
theorem lift_asg {is : List Nat} {T : TD} {t : TDG} {D : Ends} {σ : L2.St} {H : Hp} (h : liftS X.K g (sAsg T t) D σ H) : tAsg (lift X.K g T) (liftG X.K g is t) D σ H := by
  obtain ⟨E, M, R, A, De, ok, h, k1, _⟩ := h
  exact ⟨E, M, R, A, _, ok, h, fun v M1 x H1 R1 A1 q1 ok1 s1 x1 r1 => ⟨E, M1, R1, A1, De.nx, v, ok1, r1, q1, fun E2 M2 σ2 H2 R2 A2 q2 _ ok2 s2 x2 => k1 _ _ _ _ _ _ q2 ok2 (s1.trans s2) (x1.trans x2)⟩⟩
theorem ds_asg {tg e : Expr} {is : List Nat} {T : TD} {t : TDG} (he : DE X g e T) (hg : DG X g tg is t) (hs : swapsWithSole [tg] e pos.line X.env = pure false := by rfl) (hw : swappedStores [tg] e X.env = pure none := by rfl)
    (h1 : (assignEach [tg] X.env).map (·.2) = [assign tg X.env] := by rfl) : DS X g (.Assign [tg] e pos) (sAsg T t) :=
  PSm (ps_asg he hg hs hw h1) fun D σ H h => lift_asg h
/-- name = value -/
def sSet (i : Nat) (T : TD) : TDS := fun D E M => T E M fun v M' => D.nx (E.set i (some v)) M'
theorem lift_set {i : Nat} {T : TD} {D : Ends} {σ : L2.St} {H : Hp} (h : liftS X.K g (sSet i T) D σ H) : tAsg (lift X.K g T) (gName i) D σ H := by
  obtain ⟨E, M, R, A, De, ok, h, k1, _⟩ := h
  exact ⟨E, M, R, A, _, ok, h, fun v M1 x H1 R1 A1 q1 ok1 s1 x1 r1 => k1 _ _ _ _ _ _ q1 (ok1.setSlot r1 i) s1 x1⟩
theorem ds_set {i : Nat} {x : Str} {e : Expr} {T : TD} {pos' : Pos} (hN : X.N.Nodup) (hi : X.N[i]? = some x) (hx : Loc X.env.scope x) (he : DE X g e T) (hs : swapsWith e (some (.Name x pos')) pos.line X.env = pure false := by rfl) (hf : X.fn x = true ∨ X.env.scope.names.lookup x = some .local := by first | exact .inl rfl | exact .inr rfl | assumption) :
    DS X g (.Assign [.Name x pos'] e pos) (sSet i T) :=
  PSm (ps_set hN hi hx he hs hf) fun D σ H h => lift_set h
theorem RepVs.two {K : PySem.W.Frag} {R : Hp} {A : List (List Addr)} {v w : Val} {xs : List V} (h : RepVs K R A [v, w] xs) : ∃ x y, xs = [x, y] ∧ RepV K R A v x ∧ RepV K R A w y := by
  obtain ⟨x, r, e, h1, y, r2, e2, h2, e3⟩ := h
  have e3 : r2 = [] := e3
  subst e e2 e3
  exact ⟨x, y, rfl, h1, h2⟩
/-- a, b = x, y: local names -/
def sPar (i j : Nat) (U : TDA) : TDS := fun D E M => U E M fun vs M1 => match vs with | [v, w] => D.nx ((E.set i (some v)).set j (some w)) M1 | _ => False
theorem ds_par {i j : Nat} {x y : Str} {a b : Expr} {U : TDA} {px py pt : Pos} {kt k2 pt2} (hc : X.calm = true) (hN : X.N.Nodup) (hi : X.N[i]? = some x) (hj : X.N[j]? = some y) (hij : i ≠ j)
    (hx : X.env.scope.names.lookup x = some .local) (hy : X.env.scope.names.lookup y = some .local) (ha : DA X g [a, b] U)
    (hw : swappedStores [.Tuple [.Name x px, .Name y py] kt pt] (.Tuple [a, b] k2 pt2) X.env = pure (some [x, y]))
    (hs : swapsWithSole [.Tuple [.Name x px, .Name y py] kt pt] (.Tuple [a, b] k2 pt2) pos.line X.env = pure false := by rfl) :
    DS X g (.Assign [.Tuple [.Name x px, .Name y py] kt pt] (.Tuple [a, b] k2 pt2) pos) (sPar i j U) :=
  PSm (ps_par hc hN hi hj hij hx hy ha hw hs) fun D σ H ⟨E, M, R, A, De, ok, h, k1, _⟩ => ⟨E, M, R, A, _, ok, h, fun vs M1 xs H1 R1 A1 q1 ok1 s1 x1 r1 => by
    split at q1
    · rename_i v w
      obtain ⟨x', y', e, r2, r3⟩ := r1.two
      exact ⟨x', y', e, k1 _ _ _ _ _ _ q1 ((ok1.setSlot r2 i).setSlot r3 j) s1 x1⟩
    · exact q1.elim⟩
end
theorem Ok.extra {K : PySem.W.Frag} {g : Gh} {E : Sl} {M : List DO} {σ : L2.St} {H R : Hp} {A : List (List Addr)} {p : Addr} {o : HO} (x : Ok K g E M σ H R A) (h : H p = none) : Ok K g E M σ (upd H p o) R A := by
  have nA := x.nA h
  refine ⟨fun a u e n => ?_, x.sub0, fun a u e => ?_, x.fresh, x.pre, x.newA, x.nd, x.nr, ?_, x.slots⟩
  · rw [upd_ne (ne_of_none (x.keep a u e n) h)]; exact x.keep a u e n
  · rw [upd_ne (ne_of_none (x.sub _ _ e) h)]; exact x.sub _ _ e
  · exact x.obj.mono (Sub.refl _) fun l hl a ha => upd_ne fun q => nA l hl (by rw [← q]; exact ha)
section
variable {X : Cx} {g : Gh} {pos : Pos}
/-- (t1, .., tn) = e1, .., en: by a tuple -/
def sTup (n : Nat) (U : TDA) (t : TDGs) : TDS := fun D E M => U E M fun vs M1 => vs.length = n ∧ n ≤ 1000 ∧ t vs E M1 D.nx
theorem ds_tup {ts es : List Expr} {is : List Nat} {U : TDA} {t : TDGs} {n kt k2 : Nat} {pt pt2 : Pos} (hc : X.calm = true) (he : DA X g es U) (hg : DGs X g ts is t)
    (hn : (assignEach ts X.env).length = n := by rfl) (hst : (assignEach ts X.env).findIdx? (·.1) = none := by rfl)
    (hs : swapsWithSole [.Tuple ts kt pt] (.Tuple es k2 pt2) pos.line X.env = pure false := by rfl) (hw : swappedStores [.Tuple ts kt pt] (.Tuple es k2 pt2) X.env = pure none := by rfl)
    (h1 : (assignEach [.Tuple ts kt pt] X.env).map (·.2) = [assign (.Tuple ts kt pt) X.env] := by rfl) : DS X g (.Assign [.Tuple ts kt pt] (.Tuple es k2 pt2) pos) (sTup n U t) :=
  PSm (ps_asg (pe_tup he) (pg_tup hc hg hn hst) hs hw h1) fun D σ H ⟨E, M, R, A, De, ok, h, k1, _⟩ => ⟨E, M, R, A, _, ok, h, fun vs M1 xs H1 R1 A1 q1 ok1 s1 x1 r1 => by
    obtain ⟨hl, h1000, q⟩ := q1
    have hlen := r1.length
    refine ⟨Nat.le_of_lt (small1000 (by omega)), fun p hp => ⟨p, xs, rfl, .of upd_same, by omega, E, M1, R1, A1, De.nx, vs, ok1.extra hp, r1, q, fun E2 M2 σ2 H2 R2 A2 q2 _ ok2 s2 x2 => k1 _ _ _ _ _ _ q2 ok2 (s1.trans s2) (x1.trans x2)⟩⟩⟩
end


/-! ### what is walked -/
/-- a step of the heap that lays nothing down but a new object, or reads a tuple -/
def StepR (H R H' R' : Hp) : Prop := (H' = H ∧ R' = R) ∨ (∃ p o, H p = none ∧ H' = upd H p o ∧ R' = upd R p o) ∨ (H' = H ∧ ∃ q vs, H q = some (.tup vs) ∧ R' = upd R q (.tup vs))
theorem Ok.stepR {K : PySem.W.Frag} {g : Gh} {E : Sl} {M : List DO} {σ : L2.St} {H R H' R' : Hp} {A : List (List Addr)} (ok : Ok K g E M σ H R A) (s : StepR H R H' R') : Ok K g E M σ H' R' A ∧ Sub R R' := by
  rcases s with ⟨e1, e2⟩ | ⟨p, o, hp, e1, e2⟩ | ⟨e1, q, vs, hq, e2⟩
  · subst e1 e2; exact ⟨ok, Sub.refl _⟩
  · subst e1 e2
    have hR : R p = none := by
      cases e : R p with
      | none => rfl
      | some u => have := ok.sub _ _ e; rw [hp] at this; cases this
    exact ⟨ok.ro hp, Sub.upd hR⟩
  · subst e1 e2; exact ok.tupR hq
structure WalkD (K : PySem.W.Frag) (J : It) (Rs : Hp) (As : List (List Addr)) (Kp : List DO → Prop) (ds : List D) : Prop where
  go : ∀ {g : Gh} {E : Sl} {M : List DO} {σ : L2.St} {Hx Rx : Hp} {Ax : List (List Addr)} (i : Nat) (d : D), Ok K g E M σ Hx Rx Ax → Sub Rs Rx → ExtA As Ax → Kp M → ds[i]? = some d → J.go i Hx ∧ ∀ x H2, J.yld i Hx x H2 → ∃ R2, StepR Hx Rx H2 R2 ∧ Rep K R2 d x
  stop : ∀ {g : Gh} {E : Sl} {M : List DO} {σ : L2.St} {Hx Rx : Hp} {Ax : List (List Addr)}, Ok K g E M σ Hx Rx Ax → Sub Rs Rx → ExtA As Ax → Kp M → J.stop ds.length Hx
abbrev TDI := Sl → List DO → (List D → (List DO → Prop) → List DO → Prop) → Prop
def liftI (K : PySem.W.Frag) (g : Gh) (T : TDI) : TI := fun σ H Rr => ∃ E M R A Qd, Ok K g E M σ H R A ∧ T E M Qd ∧
  ∀ ds Kp M' H' R' A' J, Qd ds Kp M' → Ok K g E M' σ H' R' A' → Sub R R' → ExtA A A' → WalkD K J R' A' Kp ds → Rr J H'
theorem PIm {X : Cx} {tg e : Expr} {t t' : TI} (h : PI X tg e t) (i : ∀ σ H Q, t' σ H Q → t σ H Q) : PI X tg e t' := ⟨fun pins s σ H Q I q => h.run pins s σ H Q I (i σ H Q q)⟩
theorem PI.or {X : Cx} {tg e : Expr} {t t' : TI} (h : PI X tg e t) (h' : PI X tg e t') : PI X tg e (fun σ H Q => t σ H Q ∨ t' σ H Q) := ⟨fun pins s σ H Q I q => by
  rcases q with q | q
  · exact h.run pins s σ H Q I q
  · exact h'.run pins s σ H Q I q⟩
abbrev DI (X : Cx) (g : Gh) (tg e : Expr) (T : TDI) : Prop := PI X tg e (liftI X.K g T)
/-- what a datum's items are -/
def itemsD : D → Option (List D)
  | .lst ds => some ds
  | .tup ds => some ds
  | .str s => some (s.cps.toList.map fun c => .str ⟨#[c]⟩)
  | _ => none
abbrev noK : List DO → Prop := fun _ => True
def iSeq (T : TD) : TDI := fun E M Q => T E M fun v M1 => match v with
  | .d a => oq (itemsD a) fun ds => Q ds noK M1
  | .mu j => (match M1[j]? with | some (.lst ds) => Q ds (fun M => M[j]? = some (.lst ds)) M1 | _ => False)
  | .tp _ => False
theorem walk_list {K : PySem.W.Frag} {R : Hp} {A : List (List Addr)} {p : Addr} {vs : List V} {ds : List D} (h : R p = some (.lst vs)) (r : RepL K R ds vs) : WalkD K (Itl K p) R A noK ds where
  go := fun i d ok s1 _ _ e => by
    obtain ⟨v, e1, r1⟩ := r.get e
    refine ⟨⟨vs, v, .of (ok.sub _ _ (s1 _ _ h)), e1⟩, fun x H2 y => ⟨_, .inl ⟨y.1, rfl⟩, ?_⟩⟩
    have q := y.2 vs (.of (ok.sub _ _ (s1 _ _ h)))
    rw [e1] at q
    cases q
    exact Rep.mono s1 d r1
  stop := fun ok s1 _ _ => ⟨vs, .of (ok.sub _ _ (s1 _ _ h)), by rw [r.length]; exact Nat.le_refl _⟩
theorem walk_listM {K : PySem.W.Frag} {R : Hp} {A : List (List Addr)} {p : Addr} {l : List Addr} {j : Nat} {ds : List D} (h : A[j]? = some (p :: l)) : WalkD K (Itl K p) R A (fun M => M[j]? = some (.lst ds)) ds where
  go := fun i d ok s1 x1 kp e => by
    obtain ⟨l', e2, b, vs, e3, h1, r⟩ := ok.obj.get kp
    have e4 := Option.some.inj ((x1 _ _ h).symm.trans e2)
    rw [e3] at e4
    injection e4 with e4 _
    subst e4
    obtain ⟨v, e1, r1⟩ := r.get e
    refine ⟨⟨vs, v, .of h1, e1⟩, fun x H2 y => ⟨_, .inl ⟨y.1, rfl⟩, ?_⟩⟩
    have q := y.2 vs (.of h1)
    rw [e1] at q
    cases q
    exact r1
  stop := fun ok s1 x1 kp => by
    obtain ⟨l', e2, b, vs, e3, h1, r⟩ := ok.obj.get kp
    have e4 := Option.some.inj ((x1 _ _ h).symm.trans e2)
    rw [e3] at e4
    injection e4 with e4 _
    subst e4
    exact ⟨vs, .of h1, by rw [r.length]; exact Nat.le_refl _⟩
theorem walk_tup {K : PySem.W.Frag} {R : Hp} {A : List (List Addr)} {p : Addr} {vs : List V} {ds : List D} (h : R p = some (.tup vs)) (r : RepL K R ds vs) : WalkD K (Itt K p) R A noK ds where
  go := fun i d ok s1 _ _ e => by
    obtain ⟨v, e1, r1⟩ := r.get e
    refine ⟨⟨vs, v, .of (ok.sub _ _ (s1 _ _ h)), e1⟩, fun x H2 y => ⟨_, .inl ⟨y.1, rfl⟩, ?_⟩⟩
    have q := y.2 vs (.of (ok.sub _ _ (s1 _ _ h)))
    rw [e1] at q
    cases q
    exact Rep.mono s1 d r1
  stop := fun ok s1 _ _ => ⟨vs, .of (ok.sub _ _ (s1 _ _ h)), by rw [r.length]; exact Nat.le_refl _⟩
theorem walk_str {K : PySem.W.Frag} {R : Hp} {A : List (List Addr)} {s : Str} : WalkD K (Its s) R A noK (s.cps.toList.map fun c => .str ⟨#[c]⟩) where
  go := fun i d ok s1 _ _ e => by
    rw [List.getElem?_map] at e
    cases q : s.cps.toList[i]? with
    | none => rw [q] at e; cases e
    | some c =>
      rw [q] at e
      cases e
      have hi : i < s.cps.size := by
        have := (List.getElem?_eq_some_iff.mp q).1
        simpa using this
      refine ⟨hi, fun x H2 y => ⟨_, .inl ⟨y.1, rfl⟩, ?_⟩⟩
      obtain ⟨c', e1, e2⟩ := y.2
      have e3 : s.cps.toList[i]? = some c' := by simpa using e1
      rw [q] at e3
      cases e3
      exact e2
  stop := fun ok s1 _ _ => by show s.cps.size ≤ _; simp

section
variable {X : Cx} {g : Gh} {tg e : Expr} {T : TD}
def iAny (K : PySem.W.Frag) (tl : TE) : TI := fun σ H Rr => tl σ H fun x H1 => (∃ a, x = .ref a ∧ (∃ xs, SqL K H1 a xs) ∧ Rr (Itl K a) H1) ∨ (∃ a, x = .ref a ∧ (∃ xs, SqT K H1 a xs) ∧ Rr (Itt K a) H1) ∨ ∃ y, x = .str y ∧ Rr (Its y) H1
theorem pi_any {X : Cx} {tg l : Expr} {tl : TE} (hl : PE X l tl) : PI X tg l (iAny X.K tl) := by
  refine ⟨fun pins s σ H R I h => ?_⟩
  refine thn (hl.run pins s σ H _ I h) fun v s1 ⟨x, H1, I1, r1, q1⟩ => ?_
  rcases q1 with ⟨a, e, ⟨xs, hq⟩, q⟩ | ⟨a, e, ⟨xs, hq⟩, q⟩ | ⟨y, e, q⟩
  · subst e
    cases r1
    obtain ⟨its, rv, p, hz⟩ := I1.list hq
    refine wpAny_pyIter_list p.isList ?_
    refine ⟨s1.heap.objs.size, [s1.heap.objs.size], _, _, H1, rfl, I1.kept (t' := s1.toks) fun b o e => Heap.get?_push_of_some _ e, turn_list a _, ⟨_, Heap.get?_push_size _ rfl, rfl, rfl⟩, fun b hb => ?_, q⟩
    have e : b = s1.heap.objs.size := by simpa using hb
    subst e
    exact I1.fpOk (Nat.le_refl _) (I1.hok.fresh (Nat.le_refl _))
  · subst e
    cases r1
    obtain ⟨its, rv, p, hz⟩ := I1.tuple hq
    refine wpAny_pyIter_tuple (show s1.heap.IsTuple a its.toArray from p) ?_
    refine ⟨s1.heap.objs.size, [s1.heap.objs.size], _, _, H1, rfl, I1.kept (t' := s1.toks) fun b o e => Heap.get?_push_of_some _ e, turn_tuple a _, ⟨_, Heap.get?_push_size _ rfl, rfl, rfl⟩, fun b hb => ?_, q⟩
    have e : b = s1.heap.objs.size := by simpa using hb
    subst e
    exact I1.fpOk (Nat.le_refl _) (I1.hok.fresh (Nat.le_refl _))
  · subst e
    obtain ⟨t, rfl⟩ := r1
    cases ha : y.cps.all (· < 128)
    · exact wpAny_pyIter_wide ha (pi_one (tk := s1.toks) I1 _ (turn_str _ y t "str_iterator" (.inr rfl)) ⟨_, Heap.get?_push_size _ rfl, rfl, rfl⟩ q)
    · exact wpAny_pyIter_ascii ha (pi_one (tk := s1.toks) I1 _ (turn_str _ y t "str_ascii_iterator" (.inl rfl)) ⟨_, Heap.get?_push_size _ rfl, rfl, rfl⟩ q)
theorem di_seq (h : DE X g e T) : DI X g tg e (iSeq T) :=
  PIm (pi_any h) fun σ H Q ⟨E, M, R, A, Qd, ok, h, k⟩ => by
    refine ⟨E, M, R, A, _, ok, h, fun v M1 x H1 R1 A1 q1 ok1 s1 x1 r1 => ?_⟩
    split at q1
    · rename_i a
      obtain ⟨ds, e1, q⟩ := oq_elim q1
      unfold itemsD at e1
      split at e1
      · cases e1
        obtain ⟨p, vs, e2, h1, h2⟩ := r1
        exact .inl ⟨p, e2, ⟨vs, .of (ok1.sub _ _ h1)⟩, k _ _ _ _ _ _ _ q ok1 s1 x1 (walk_list h1 h2)⟩
      · cases e1
        obtain ⟨p, vs, e2, h1, h2⟩ := r1
        exact .inr (.inl ⟨p, e2, ⟨vs, .of (ok1.sub _ _ h1)⟩, k _ _ _ _ _ _ _ q ok1 s1 x1 (walk_tup h1 h2)⟩)
      · cases e1
        exact .inr (.inr ⟨_, r1, k _ _ _ _ _ _ _ q ok1 s1 x1 walk_str⟩)
      · cases e1
    · rename_i j
      split at q1
      · rename_i ds e
        obtain ⟨a, l, ea, ex⟩ := r1
        obtain ⟨l', e2, b, vs, e3, h1, r⟩ := ok1.obj.get e
        have e4 := Option.some.inj (ea.symm.trans e2)
        rw [e3] at e4
        injection e4 with e4 _
        subst e4
        exact .inl ⟨a, ex, ⟨vs, .of h1⟩, k _ _ _ _ _ _ _ q1 ok1 s1 x1 (walk_listM ea)⟩
      · exact q1.elim
    · exact q1.elim
/-! range -/
theorem walk_rng {K : PySem.W.Frag} {R : Hp} {A : List (List Addr)} {lo : Int} {n : Nat} : WalkD K (Itr lo n) R A noK ((List.range n).map fun i => .int (lo + (i : Nat))) where
  go := fun i d ok s1 _ _ e => by
    rw [List.getElem?_map] at e
    by_cases hi : i < n
    · rw [List.getElem?_range hi] at e
      cases e
      exact ⟨hi, fun x H2 y => ⟨_, .inl ⟨y.1, rfl⟩, y.2⟩⟩
    · rw [List.getElem?_eq_none (by simpa using hi)] at e
      cases e
  stop := fun ok s1 _ _ => by show n ≤ _; simp
def iRange1 (U : TDA) : TDI := fun E M Q => U E M fun vs M1 => match vs with
  | [.d (.int j)] => -(2 ^ 62) ≤ j ∧ j < 2 ^ 62 ∧ Q ((List.range j.toNat).map fun i => .int ((0 : Int) + (i : Nat))) noK M1 | _ => False
def iRange2 (U : TDA) : TDI := fun E M Q => U E M fun vs M1 => match vs with
  | [.d (.int i), .d (.int j)] => (-(2 ^ 62) ≤ i ∧ i < 2 ^ 62 ∧ -(2 ^ 62) ≤ j ∧ j < 2 ^ 62) ∧ Q ((List.range (j - i).toNat).map fun k => .int (i + (k : Nat))) noK M1 | _ => False
theorem di_range1 {a : Expr} {U : TDA} {p pos : Pos} (hg : Gl X "range") (hm : X.mg "range" = none) (ha : DA X g [a] U) (hs : starEach [a] X.env = [(false, eval a X.env)] := by rfl) : DI X g tg (.Call (.Name "range" p) [a] [] pos) (iRange1 U) :=
  PIm (pi_range1 hg hm ha hs) fun σ H Q ⟨E, M, R, A, Qd, ok, h, k⟩ => by
    refine ⟨E, M, R, A, _, ok, h, fun vs M1 xs H1 R1 A1 q1 ok1 s1 x1 r1 => ?_⟩
    split at q1
    · rename_i j
      obtain ⟨x, r, e, h1, h2⟩ := r1
      have h2 : r = [] := h2
      have h1 : x = .int j := h1
      subst e h1 h2
      exact ⟨j, rfl, q1.1, q1.2.1, k _ _ _ _ _ _ _ q1.2.2 ok1 s1 x1 walk_rng⟩
    · exact q1.elim
theorem di_range2 {a b : Expr} {U : TDA} {p pos : Pos} (hg : Gl X "range") (hm : X.mg "range" = none) (ha : DA X g [a, b] U) (hs : starEach [a, b] X.env = [(false, eval a X.env), (false, eval b X.env)] := by rfl) (hs2 : starEach [b] X.env = [(false, eval b X.env)] := by rfl) :
    DI X g tg (.Call (.Name "range" p) [a, b] [] pos) (iRange2 U) :=
  PIm (pi_range2 hg hm ha hs hs2) fun σ H Q ⟨E, M, R, A, Qd, ok, h, k⟩ => by
    refine ⟨E, M, R, A, _, ok, h, fun vs M1 xs H1 R1 A1 q1 ok1 s1 x1 r1 => ?_⟩
    split at q1
    · rename_i i j
      obtain ⟨x, y, e, h1, h2⟩ := r1.two
      have h1 : x = .int i := h1
      have h2 : y = .int j := h2
      subst e h1 h2
      exact ⟨i, j, rfl, q1.1, k _ _ _ _ _ _ _ q1.2 ok1 s1 x1 walk_rng⟩
    · exact q1.elim
end

/-! ### for -/
/-- the items one after another -/
def dLoop (Kp : List DO → Prop) (t : TDG) (body : TDS) (De : DEnds) : List D → Sl → List DO → Prop
  | [], E, M => Kp M ∧ De.nx E M
  | v :: vs, E, M => Kp M ∧ t (.d v) E M fun E1 M1 => body { De with nx := dLoop Kp t body De vs, ct := dLoop Kp t body De vs, bk := De.nx } E1 M1
def sFor (T : TDI) (t : TDG) (body : TDS) : TDS := fun D E M => T E M fun ds Kp M1 => dLoop Kp t body D ds E M1
section
variable {X : Cx} {g : Gh} {pos : Pos}
theorem ds_for {tg iter : Expr} {body : List Stmt} {is : List Nat} {T : TDI} {t : TDG} {B : TDS} (hp : PassesOwn (model X.prog X.w) X.A X.env X.xe) (hc : X.calm = true) (hi : DI X g tg iter T) (hg : DG X g tg is t) (hb : DSs X g body B)
    (hs : ∀ x, foldedSetIterable iter X.env x = pure x := by intro _; rfl) : DS X g (.For tg iter body [] pos) (sFor T t B) :=
  PSm (ps_for hp hc hi hg hb hs) fun D σ H ⟨E, M, R, A, De, ok, h, kk⟩ => by
    refine ⟨E, M, R, A, _, ok, h, fun ds Kp M1 H1 R1 A1 J q1 ok1 s1 x1 wk => ?_⟩
    refine ⟨fun i m σ' H' => m = ds.length - i ∧ i ≤ ds.length ∧ ∃ E' M' R' A', Ok X.K g E' M' σ' H' R' A' ∧ Sub R1 R' ∧ ExtA A1 A' ∧ dLoop Kp t B De (ds.drop i) E' M', ⟨_, rfl, Nat.zero_le _, E, M1, R1, A1, ok1, Sub.refl _, ExtA.refl _, by simpa using q1⟩, ?_⟩
    rintro i m σ' H' ⟨rfl, hi', E', M', R', A', ok', s', x', q'⟩
    by_cases hlt : i < ds.length
    · have e : ds[i]? = some ds[i] := List.getElem?_eq_getElem hlt
      rw [List.drop_eq_getElem_cons hlt] at q'
      obtain ⟨kp, q'⟩ := q'
      obtain ⟨w1, w2⟩ := wk.go i _ ok' s' x' kp e
      refine .inr ⟨w1, fun σ'' H'' => ∃ E' M' R' A', Ok X.K g E' M' σ'' H'' R' A' ∧ Sub R1 R' ∧ ExtA A1 A' ∧ dLoop Kp t B De (ds.drop (i + 1)) E' M', fun σ'' H'' n => ⟨_, by omega, rfl, hlt, n⟩, fun x H2 y => ?_⟩
      obtain ⟨R2, st, r2⟩ := w2 x H2 y
      obtain ⟨ok2, s2⟩ := ok'.stepR st
      refine ⟨E', M', R2, A', _, .d ds[i], ok2, r2, q', fun E3 M3 σ3 H3 R3 A3 q3 _ ok3 s3 x3 => ?_⟩
      have s13 := (s'.trans s2).trans s3
      have x13 := x'.trans x3
      have kk' := lift_step (s1.trans s13) (x1.trans x13) kk
      exact ⟨E3, M3, R3, A3, _, ok3, q3, fun E4 M4 σ4 H4 R4 A4 q4 ok4 s4 x4 => ⟨E4, M4, R4, A4, ok4, s13.trans s4, x13.trans x4, q4⟩, kk'.2.1, kk'.1, fun E4 M4 σ4 H4 R4 A4 q4 ok4 s4 x4 => ⟨E4, M4, R4, A4, ok4, s13.trans s4, x13.trans x4, q4⟩⟩
    · have e : i = ds.length := by omega
      subst e
      rw [List.drop_length] at q'
      exact .inl ⟨wk.stop ok' s' x' q'.1, kk.1 _ _ _ _ _ _ q'.2 ok' (s1.trans s') (x1.trans x')⟩
/-- while -/
def sWhile (c : TDT) (B : TDS) : TDS := fun D E M => ∃ W : Nat → Sl → List DO → Prop, (∃ m, W m E M) ∧ ∀ m E M, W m E M →
  c E M fun b M1 => br b (B { D with nx := fun E' M' => ∃ m', m' < m ∧ W m' E' M', ct := fun E' M' => ∃ m', m' < m ∧ W m' E' M', bk := D.nx } E M1) (D.nx E M1)
theorem ds_while {c : Expr} {body : List Stmt} {Tc : TDT} {B : TDS} (hp : PassesOwn (model X.prog X.w) X.A X.env X.xe) (hc : DT X g c Tc) (hb : DSs X g body B) : DS X g (.While c body [] pos) (sWhile Tc B) :=
  PSm (ps_while hp hc hb) fun D σ H ⟨E, M, R, A, De, ok, ⟨W, ⟨m0, w0⟩, turn⟩, kk⟩ => by
    refine ⟨fun m σ' H' => ∃ E' M' R' A', Ok X.K g E' M' σ' H' R' A' ∧ Sub R R' ∧ ExtA A A' ∧ W m E' M', ⟨m0, E, M, R, A, ok, Sub.refl _, ExtA.refl _, w0⟩, ?_⟩
    rintro m σ' H' ⟨E', M', R', A', ok', s', x', w'⟩
    refine ⟨E', M', R', A', _, ok', turn m E' M' w', fun b M1 H1 R1 A1 q1 ok1 s1 x1 => ?_⟩
    have s01 := s'.trans s1
    have x01 := x'.trans x1
    have kk' := lift_step s01 x01 kk
    cases b with
    | true =>
      refine ⟨fun σ2 H2 => ∃ m', m' < m ∧ ∃ E2 M2 R2 A2, Ok X.K g E2 M2 σ2 H2 R2 A2 ∧ Sub R R2 ∧ ExtA A A2 ∧ W m' E2 M2, fun _ _ n => n, E', M1, R1, A1, _, ok1, q1.t rfl, ?_, kk'.2.1, kk'.1, ?_⟩
      · rintro E4 M4 σ4 H4 R4 A4 ⟨m', hm, w4⟩ ok4 s4 x4
        exact ⟨m', hm, E4, M4, R4, A4, ok4, s01.trans s4, x01.trans x4, w4⟩
      · rintro E4 M4 σ4 H4 R4 A4 ⟨m', hm, w4⟩ ok4 s4 x4
        exact ⟨m', hm, E4, M4, R4, A4, ok4, s01.trans s4, x01.trans x4, w4⟩
    | false => exact kk.1 _ _ _ _ _ _ (q1.f rfl) ok1 s01 x01
end
end DL

end
section
set_option maxRecDepth 10000
/-! Comprehensions over data. -/
namespace DL
open PySem L2 PyProof.Rows
section
variable {K : PySem.W.Frag} {g : Gh} {E E' : Sl} {M M' : List DO} {σ σ' : L2.St} {H R H' R' : Hp} {A A' : List (List Addr)} {p : Addr} {o : HO}
theorem Ok.here (x : Ok K g E M σ H R A) : Ok K ⟨H, R, A⟩ E M σ H R A :=
  ⟨fun a o e _ => e, Sub.refl _, x.sub, fun a o e => .inl e, List.take_length, fun l hl => by rw [List.drop_length] at hl; simp at hl, x.nd, x.nr, x.obj, x.slots⟩
theorem Ok.nR (x : Ok K g E M σ H R A) (h : H p = none) : R p = none := by
  cases e : R p with
  | none => rfl
  | some u => have := x.sub _ _ e; rw [h] at this; cases this
theorem Ok.g0 (x : Ok K g E M σ H R A) {a : Addr} {o : HO} (e : g.H0 a = some o) (n : ∀ l ∈ g.A0, a ∉ l) : ∀ l ∈ A, a ∉ l := fun l hl ha => by
  rcases List.mem_append.mp (by rw [List.take_append_drop g.A0.length A]; exact hl) with q | q
  · rw [x.pre] at q; exact n l q ha
  · have := x.newA l q a ha; rw [e] at this; cases this
theorem Ok.back (x : Ok K g E M σ H R A) (y : Ok K ⟨H, R, A⟩ E' M' σ' H' R' A') : Ok K g E' M' σ' H' R' A' := by
  have hl : g.A0.length ≤ A.length := by
    have e := congrArg List.length x.pre
    rw [List.length_take] at e
    omega
  refine ⟨fun a o e n => y.keep a o (x.keep a o e n) (x.g0 e n), x.sub0.trans y.sub0, y.sub, fun a o e => ?_, ?_, fun l hl' a ha => ?_, y.nd, y.nr, y.obj, y.slots⟩
  · rcases y.fresh a o e with q | q | q
    · exact x.fresh a o q
    · exact .inr (.inl (x.fr q))
    · exact .inr (.inr q)
  · have e : A'.take A.length = A := y.pre
    have := x.pre
    rw [← e, List.take_take, Nat.min_eq_left hl] at this
    exact this
  · have e : A'.take A.length = A := y.pre
    have q : l ∈ A.drop g.A0.length ∨ l ∈ A'.drop A.length := by
      rw [← List.take_append_drop A.length A', e, List.drop_append_of_le_length hl] at hl'
      exact List.mem_append.mp hl'
    rcases q with q | q
    · exact x.newA l q a ha
    · exact x.fr (y.newA l q a ha)
/-- something tracked that nobody reads is changed -/
theorem Ok.exUpd (x : Ok K g E M σ H R A) (h0 : g.H0 p = none) (hR : R p = none) (hA : ∀ l ∈ A, p ∉ l) : Ok K g E M σ (upd H p o) R A := by
  refine ⟨fun a u e n => ?_, x.sub0, fun a u e => ?_, x.fresh, x.pre, x.newA, x.nd, x.nr, x.obj.mono (Sub.refl _) fun l hl a ha => upd_ne fun q => hA l hl (by rw [← q]; exact ha), x.slots⟩
  · rw [upd_ne (ne_of_none e h0)]; exact x.keep a u e n
  · rw [upd_ne (ne_of_none e hR)]; exact x.sub _ _ e
/-- .. is read from now on -/
theorem Ok.adopt (x : Ok K g E M σ H R A) (h0 : g.H0 p = none) (hR : R p = none) (hA : ∀ l ∈ A, p ∉ l) (hp : H p = some o) : Ok K g E M σ H (upd R p o) A := by
  refine ⟨x.keep, x.sub0.trans (Sub.upd hR), fun a u e => ?_, fun a u e => ?_, x.pre, x.newA, x.nd, fun l hl a ha => ?_, x.obj.mono (Sub.upd hR) fun _ _ _ _ => rfl, x.slots.mono (Sub.upd hR) (ExtA.refl _)⟩
  · by_cases q : a = p
    · subst q; rw [upd_same] at e; rw [hp]; exact e
    · rw [upd_ne q] at e; exact x.sub _ _ e
  · by_cases q : a = p
    · subst q; exact .inr (.inl h0)
    · rw [upd_ne q] at e; exact x.fresh _ _ e
  · rw [upd_ne (fun q => hA l hl (by rw [← q]; exact ha))]; exact x.nr l hl a ha
/-- .. is one that may change from now on -/
theorem Ok.adoptM (x : Ok K g E M σ H R A) (h0 : g.H0 p = none) (hR : R p = none) (hA : ∀ l ∈ A, p ∉ l) {d : DO} (ho : Own K R H [p] d) : Ok K g E (M ++ [d]) σ H R (A ++ [[p]]) := by
  have hl : g.A0.length ≤ A.length := by
    have e := congrArg List.length x.pre
    rw [List.length_take] at e
    omega
  refine ⟨x.keep, x.sub0, x.sub, x.fresh, ?_, fun l hl' a ha => ?_, ?_, fun l hl a ha => ?_, x.obj.app ⟨d, [], rfl, ho, rfl⟩, x.slots.mono (Sub.refl _) (ExtA.app _ _)⟩
  · rw [List.take_append_of_le_length hl]; exact x.pre
  · rw [List.drop_append_of_le_length hl] at hl'
    rcases List.mem_append.mp hl' with q | q
    · exact x.newA l q a ha
    · simp at q; subst q; simp at ha; subst ha; exact h0
  · rw [List.flatten_append]
    refine List.nodup_append.mpr ⟨x.nd, by simp, fun a ha b hb q => ?_⟩
    obtain ⟨l, hl, hal⟩ := List.mem_flatten.mp ha
    simp at hb
    subst hb q
    exact hA l hl hal
  · rcases List.mem_append.mp hl with q | q
    · exact x.nr l q a ha
    · simp at q; subst q; simp at ha; subst ha; exact hR
/-- a thing that stood untouched at a turn's start -/
theorem Ok.kept1 (y : Ok K ⟨H, R, A⟩ E' M' σ' H' R' A') (hp : H p = some o) (hA : ∀ l ∈ A, p ∉ l) (hR : R p = none) (hnt : ∀ xs, o ≠ .tup xs) : H' p = some o ∧ R' p = none ∧ ∀ l ∈ A', p ∉ l := by
  have e1 := y.keep p o hp hA
  refine ⟨e1, ?_, fun l hl ha => ?_⟩
  · cases e : R' p with
    | none => rfl
    | some u =>
      have e2 := y.sub _ _ e
      rw [e1] at e2
      cases e2
      rcases y.fresh p o e with q | q | ⟨xs, q⟩
      · have q' : R p = some o := q
        rw [hR] at q'; cases q'
      · have q' : H p = none := q
        rw [hp] at q'; cases q'
      · exact absurd q (hnt xs)
  · exact y.g0 (a := p) hp hA l hl ha
end
def wE (E : Sl) : List Nat → Sl
  | [] => E
  | v :: vs => (wE E vs).set v none
theorem SlL.wipe {K : PySem.W.Frag} {R : Hp} {A : List (List Addr)} {E : Sl} {σ : L2.St} (h : SlL K R A E σ) : ∀ vs : List Nat, SlL K R A (wE E vs) (L2.wipe σ vs)
  | [] => h
  | v :: vs => (SlL.wipe h vs).clear v
theorem wipe_get (σ : L2.St) (i : Nat) : ∀ vs : List Nat, (L2.wipe σ vs)[i]? = if i ∈ vs then (if i < σ.length then some none else none) else σ[i]?
  | [] => by simp [L2.wipe]
  | v :: vs => by
    have ih := wipe_get σ i vs
    unfold L2.wipe
    by_cases h : v = i
    · subst h
      by_cases hl : v < σ.length
      · rw [List.getElem?_set_self (by rw [wipe_length]; exact hl)]
        simp [hl]
      · rw [List.getElem?_eq_none (by rw [List.length_set, wipe_length]; omega)]
        simp [hl]
    · rw [List.getElem?_set_ne h, ih]
      by_cases h2 : i ∈ vs
      · simp [h2]
      · have : i ∉ v :: vs := by simp only [List.mem_cons, not_or]; exact ⟨fun e => h e.symm, h2⟩
        rw [if_neg h2, if_neg this]
theorem SetOnly.wipe {is vs : List Nat} {σ σ2 : L2.St} (h : SetOnly is (L2.wipe σ vs) σ2) (hs : ∀ i ∈ is, i ∈ vs) : L2.wipe σ2 vs = L2.wipe σ vs := by
  refine List.ext_getElem? fun i => ?_
  rw [wipe_get σ2, wipe_get σ]
  by_cases hi : i ∈ vs
  · rw [if_pos hi, if_pos hi]
    have := h.1
    rw [wipe_length] at this
    rw [this]
  · rw [if_neg hi, if_neg hi, h.2 i fun q => hi (hs i q), wipe_get σ, if_neg hi]
abbrev DTs (X : Cx) (g : Gh) (ifs : List Expr) (T : TDT) : Prop := PTs X ifs (liftT X.K g T)
def dYes : TDT := fun _ M Q => Q true M
theorem PTsm {X : Cx} {e : List Expr} {t t' : TT} (h : PTs X e t) (i : ∀ σ H Q, t' σ H Q → t σ H Q) : PTs X e t' := ⟨fun pins s σ H Q I q => h.run pins s σ H Q I (i σ H Q q)⟩
theorem dts_nil {X : Cx} {g : Gh} : DTs X g [] dYes := PTsm pts_nil fun σ H Q ⟨E, M, R, A, Qd, ok, h, k⟩ => k _ _ _ _ _ h ok (Sub.refl _) (ExtA.refl _)
theorem dts_one {X : Cx} {g : Gh} {c : Expr} {T : TDT} (h : DT X g c T) : DTs X g [c] T := pts_one h
def onD (Y : D → List DO → Prop) : Val → List DO → Prop := fun v M => match v with | .d x => Y x M | _ => False
theorem onD_elim {Y : D → List DO → Prop} {v : Val} {M : List DO} (h : onD Y v M) : ∃ x, v = .d x ∧ Y x M := by
  cases v with
  | d x => exact ⟨x, rfl, h⟩
  | mu j => exact h.elim
  | tp vs => exact h.elim
def dLC (Kp : List DO → Prop) (t : TDG) (tt : TDT) (te : TD) (E : Sl) (Q : List D → List DO → Prop) : List D → List D → List DO → Prop
  | [], acc, M => Kp M ∧ Q acc M
  | d :: ds, acc, M => Kp M ∧ t (.d d) E M fun E1 M1 => tt E1 M1 fun b M2 => br b (te E1 M2 (onD fun x M3 => acc.length < sizeLine ∧ dLC Kp t tt te E Q ds (acc ++ [x]) M3)) (dLC Kp t tt te E Q ds acc M2)
def dComp (T : TDI) (t : TDG) (tt : TDT) (te : TD) (vs : List Nat) : TD := fun E M Q => T E M fun ds Kp M1 => dLC Kp t tt te (wE E vs) (fun acc M2 => Q (.d (.lst acc)) M2) ds [] M1
def dCompM (T : TDI) (t : TDG) (tt : TDT) (te : TD) (vs : List Nat) : TD := fun E M Q => T E M fun ds Kp M1 => dLC Kp t tt te (wE E vs) (fun acc M2 => Q (.mu M2.length) (M2 ++ [.lst acc])) ds [] M1
def exE (t : Gh → TE) : TE := fun σ H Q => ∃ g, t g σ H Q
def exT (t : Gh → TT) : TT := fun σ H Q => ∃ g, t g σ H Q
def exG (t : Gh → TG) : TG := fun x σ H Q => ∃ g, t g x σ H Q
def exI (t : Gh → TI) : TI := fun σ H Q => ∃ g, t g σ H Q
theorem PE.ex {X : Cx} {e : Expr} {t : Gh → TE} (h : ∀ g, PE X e (t g)) : PE X e (exE t) := ⟨fun pins s σ H Q I ⟨g, q⟩ => (h g).run pins s σ H Q I q⟩
theorem PTs.ex {X : Cx} {e : List Expr} {t : Gh → TT} (h : ∀ g, PTs X e (t g)) : PTs X e (exT t) := ⟨fun pins s σ H Q I ⟨g, q⟩ => (h g).run pins s σ H Q I q⟩
theorem PG.ex {X : Cx} {e : Expr} {t : Gh → TG} (h : ∀ g, PG X e (t g)) : PG X e (exG t) := ⟨fun pins s σ H v u Q I r ⟨g, q⟩ => (h g).run pins s σ H v u Q I r q⟩
theorem PI.ex {X : Cx} {tg e : Expr} {t : Gh → TI} (h : ∀ g, PI X tg e (t g)) : PI X tg e (exI t) := ⟨fun pins s σ H Q I ⟨g, q⟩ => (h g).run pins s σ H Q I q⟩
section
variable {X : Cx} {g : Gh} {pos : Pos}
/-- the reading of a list comprehension, up to its end -/
theorem lift_lc {T : TDI} {t : TDG} {tt : TDT} {te : TD} {is vs : List Nat} (hs : ∀ i ∈ is, i ∈ vs) {K : PySem.W.Frag} {σ : L2.St} {H : Hp} {Q : VK} {E : Sl} {M : List DO} {R : Hp} {A : List (List Addr)} {Qd : List D → List DO → Prop}
    (ok : Ok K g E M σ H R A) (h : T E M fun ds Kp M1 => dLC Kp t tt te (wE E vs) Qd ds [] M1)
    (k : ∀ acc M' D xs H' R' A', Qd acc M' → Ok K g E M' σ H' R' A' → Sub R R' → ExtA A A' → H' D = some (.lst xs) → RepL K R' acc xs → g.H0 D = none → R' D = none → (∀ l ∈ A', D ∉ l) → Q (.ref D) H')
    : tLc (liftI K g T) (exG fun g' => liftG K g' is t) (exT fun g' => liftT K g' tt) (exE fun g' => lift K g' te) vs σ H Q := by
  refine ⟨E, M, R, A, _, ok, h, fun ds Kp M1 H1 R1 A1 J q1 ok1 s1 x1 wk => fun D hD => ?_⟩
  have hD0 := ok1.fr hD
  have hRD := ok1.nR hD
  have hAD := ok1.nA hD
  refine ⟨fun i m Hx => m = ds.length - i ∧ i ≤ ds.length ∧ ∃ M' R' A' acc xs, Ok K g E M' σ Hx R' A' ∧ Sub R1 R' ∧ ExtA A1 A' ∧ Hx D = some (.lst xs) ∧ RepL K R' acc xs ∧ R' D = none ∧ (∀ l ∈ A', D ∉ l) ∧ dLC Kp t tt te (wE E vs) Qd (ds.drop i) acc M',
    ⟨_, rfl, Nat.zero_le _, M1, R1, A1, [], [], ok1.extra hD, Sub.refl _, ExtA.refl _, upd_same, rfl, hRD, hAD, q1⟩, ?_⟩
  rintro i m Hx ⟨rfl, hi, M', R', A', acc, xs, ok', s', x', eD, ra, rD, aD, q'⟩
  by_cases hlt : i < ds.length
  · have e : ds[i]? = some ds[i] := List.getElem?_eq_getElem hlt
    rw [List.drop_eq_getElem_cons hlt] at q'
    obtain ⟨kp, q'⟩ := q'
    obtain ⟨w1, w2⟩ := wk.go i _ ok' s' x' kp e
    refine .inr ⟨w1, fun Hn => ∃ M' R' A' acc xs, Ok K g E M' σ Hn R' A' ∧ Sub R1 R' ∧ ExtA A1 A' ∧ Hn D = some (.lst xs) ∧ RepL K R' acc xs ∧ R' D = none ∧ (∀ l ∈ A', D ∉ l) ∧ dLC Kp t tt te (wE E vs) Qd (ds.drop (i + 1)) acc M', fun Hn n => ⟨_, by omega, rfl, hlt, n⟩, fun x H2 y => ?_⟩
    obtain ⟨R2, st, r2⟩ := w2 x H2 y
    obtain ⟨ok2, s2⟩ := ok'.stepR st
    have eD2 : H2 D = some (.lst xs) ∧ R2 D = none := by
      rcases st with ⟨e1, e2⟩ | ⟨p, o, hp, e1, e2⟩ | ⟨e1, q, ws, hq, e2⟩
      · subst e1 e2; exact ⟨eD, rD⟩
      · subst e1 e2
        have : D ≠ p := ne_of_none eD hp
        exact ⟨by rw [upd_ne this]; exact eD, by rw [upd_ne this]; exact rD⟩
      · subst e1 e2
        have : D ≠ q := ne_of eD hq (fun z => nomatch z)
        exact ⟨eD, by rw [upd_ne this]; exact rD⟩
    have okh := ok2.here
    have okw : Ok K ⟨H2, R2, A'⟩ (wE E vs) M' (L2.wipe σ vs) H2 R2 A' := okh.slotsTo (okh.slots.wipe vs)
    refine ⟨⟨H2, R2, A'⟩, wE E vs, M', R2, A', _, .d ds[i], okw, r2, q', fun E3 M3 σ3 H3 R3 A3 q3 so ok3 s3 x3 => ⟨so.wipe hs, ⟨H2, R2, A'⟩, E3, M3, R3, A3, _, ok3, q3, fun b M4 H4 R4 A4 q4 ok4 s4 x4 => ?_⟩⟩
    cases b with
    | true =>
      refine ⟨⟨H2, R2, A'⟩, E3, M4, R4, A4, _, ok4, q4.t rfl, fun v M5 y H5 R5 A5 q5 ok5 s5 x5 r5 => ?_⟩
      · obtain ⟨z, ez, q5⟩ := onD_elim q5
        subst ez
        obtain ⟨k1, k2, k3⟩ := ok5.kept1 eD2.1 aD eD2.2 (fun xs z => nomatch z)
        have s25 : Sub R2 R5 := (s3.trans s4).trans s5
        refine ⟨xs, k1, by rw [← ra.length]; exact q5.1, M5, R5, A5, acc ++ [z], xs ++ [y], ?_, ((s'.trans s2).trans s25), (x'.trans ((x3.trans x4).trans x5)), upd_same, ?_, k2, k3, q5.2⟩
        · have okb := ok2.back ok5
          exact (okb.exUpd hD0 k2 k3).slotsTo (ok2.slots.mono s25 ((x3.trans x4).trans x5))
        · exact (RepL.mono (s2.trans s25) _ ra).app ⟨y, [], rfl, r5, rfl⟩
    | false =>
      obtain ⟨k1, k2, k3⟩ := ok4.kept1 eD2.1 aD eD2.2 (fun xs z => nomatch z)
      have s24 : Sub R2 R4 := s3.trans s4
      have okb := ok2.back ok4
      exact ⟨M4, R4, A4, acc, xs, okb.slotsTo (ok2.slots.mono s24 (x3.trans x4)), (s'.trans s2).trans s24, x'.trans (x3.trans x4), k1, RepL.mono (s2.trans s24) _ ra, k2, k3, q4.f rfl⟩
  · have e : i = ds.length := by omega
    subst e
    rw [List.drop_length] at q'
    exact .inl ⟨wk.stop ok' s' x' q'.1, k _ _ _ _ _ _ _ q'.2 ok' (s1.trans s') (x1.trans x') eD ra hD0 rD aD⟩

theorem lift_comp {T : TDI} {t : TDG} {tt : TDT} {te : TD} {is vs : List Nat} (hs : ∀ i ∈ is, i ∈ vs) {K : PySem.W.Frag} {σ : L2.St} {H : Hp} {Q : VK} (h : lift K g (dComp T t tt te vs) σ H Q) :
    tLc (liftI K g T) (exG fun g' => liftG K g' is t) (exT fun g' => liftT K g' tt) (exE fun g' => lift K g' te) vs σ H Q := by
  obtain ⟨E, M, R, A, Qd, ok, h, k⟩ := h
  exact lift_lc hs ok h fun acc M' D xs H' R' A' q ok' s' x' eD ra h0 rD aD => k _ _ _ _ _ _ q (ok'.adopt h0 rD aD eD) (s'.trans (Sub.upd rD)) x' ⟨D, xs, rfl, upd_same, RepL.mono (Sub.upd rD) _ ra⟩
theorem lift_compM {T : TDI} {t : TDG} {tt : TDT} {te : TD} {is vs : List Nat} (hs : ∀ i ∈ is, i ∈ vs) {K : PySem.W.Frag} {σ : L2.St} {H : Hp} {Q : VK} (h : lift K g (dCompM T t tt te vs) σ H Q) :
    tLc (liftI K g T) (exG fun g' => liftG K g' is t) (exT fun g' => liftT K g' tt) (exE fun g' => lift K g' te) vs σ H Q := by
  obtain ⟨E, M, R, A, Qd, ok, h, k⟩ := h
  exact lift_lc hs ok h fun acc M' D xs H' R' A' q ok' s' x' eD ra h0 rD aD => k _ _ _ _ _ _ q (ok'.adoptM h0 rD aD ⟨D, xs, rfl, eD, ra⟩) s' (x'.trans (ExtA.app _ _)) ⟨D, [], ok'.at_len _, rfl⟩
section
variable {elt tg iter : Expr} {ifs : List Expr} {scope : Scope} {own : List (Str × Nat)} {T : TDI} {t : TDG} {tt : TDT} {te : TD} {is : List Nat}
theorem de_lc (hc : X.calm = true) (hN : X.N.Nodup) (hi : DI X g tg iter T) (ok : BlkOk X.N X.env.scope scope own)
    (hg : ∀ (s : Shared) (H : Hp) (C : Addr) (cl : List (Str × Addr)) (fp : List Addr) (g' : Gh), DG (X.blk s H scope (compEnvC scope cl C X.env) fp) g' tg is t) (ht : ∀ (s : Shared) (H : Hp) (C : Addr) (cl : List (Str × Addr)) (fp : List Addr) (g' : Gh), DTs (X.blk s H scope (compEnvC scope cl C X.env) fp) g' ifs tt)
    (he : ∀ (s : Shared) (H : Hp) (C : Addr) (cl : List (Str × Addr)) (fp : List Addr) (g' : Gh), DE (X.blk s H scope (compEnvC scope cl C X.env) fp) g' elt te) (his : ∀ i ∈ is, i ∈ own.map (·.2) := by decide) (hs : ∀ x, foldedSetIterable iter X.env x = pure x := by intro _; rfl) :
    DE X g (.ListComp elt [⟨tg, iter, ifs, 0⟩] scope pos) (dComp T t tt te (own.map (·.2))) :=
  PEm (pe_lc hc hN hi ok (fun s H C cl fp => PG.ex (hg s H C cl fp)) (fun s H C cl fp => PTs.ex (ht s H C cl fp)) (fun s H C cl fp => PE.ex (he s H C cl fp)) hs) fun σ H Q h => lift_comp his h
theorem de_lcM (hc : X.calm = true) (hN : X.N.Nodup) (hi : DI X g tg iter T) (ok : BlkOk X.N X.env.scope scope own)
    (hg : ∀ (s : Shared) (H : Hp) (C : Addr) (cl : List (Str × Addr)) (fp : List Addr) (g' : Gh), DG (X.blk s H scope (compEnvC scope cl C X.env) fp) g' tg is t) (ht : ∀ (s : Shared) (H : Hp) (C : Addr) (cl : List (Str × Addr)) (fp : List Addr) (g' : Gh), DTs (X.blk s H scope (compEnvC scope cl C X.env) fp) g' ifs tt)
    (he : ∀ (s : Shared) (H : Hp) (C : Addr) (cl : List (Str × Addr)) (fp : List Addr) (g' : Gh), DE (X.blk s H scope (compEnvC scope cl C X.env) fp) g' elt te) (his : ∀ i ∈ is, i ∈ own.map (·.2) := by decide) (hs : ∀ x, foldedSetIterable iter X.env x = pure x := by intro _; rfl) :
    DE X g (.ListComp elt [⟨tg, iter, ifs, 0⟩] scope pos) (dCompM T t tt te (own.map (·.2))) :=
  PEm (pe_lc hc hN hi ok (fun s H C cl fp => PG.ex (hg s H C cl fp)) (fun s H C cl fp => PTs.ex (ht s H C cl fp)) (fun s H C cl fp => PE.ex (he s H C cl fp)) hs) fun σ H Q h => lift_compM his h
/-- name = [..] on one line, the name a local -/
theorem ds_setLc {i : Nat} {y : Str} {py spos : Pos} (hc : X.calm = true) (hN : X.N.Nodup) (hy : X.N[i]? = some y) (hyl : X.env.scope.names.lookup y = some .local)
    (hsw : swapsWith (.ListComp elt [⟨tg, iter, ifs, 0⟩] scope pos) (some (.Name y py)) spos.line X.env = pure true) (hi : DI X g tg iter T) (ok : BlkOk X.N X.env.scope scope own)
    (hg : ∀ (s : Shared) (H : Hp) (C : Addr) (cl : List (Str × Addr)) (fp : List Addr) (g' : Gh), DG (X.blk s H scope (compEnvC scope cl C X.env) fp) g' tg is t) (ht : ∀ (s : Shared) (H : Hp) (C : Addr) (cl : List (Str × Addr)) (fp : List Addr) (g' : Gh), DTs (X.blk s H scope (compEnvC scope cl C X.env) fp) g' ifs tt)
    (he : ∀ (s : Shared) (H : Hp) (C : Addr) (cl : List (Str × Addr)) (fp : List Addr) (g' : Gh), DE (X.blk s H scope (compEnvC scope cl C X.env) fp) g' elt te) (his : ∀ i ∈ is, i ∈ own.map (·.2) := by decide) (hs : ∀ x, foldedSetIterable iter X.env x = pure x := by intro _; rfl) :
    DS X g (.Assign [.Name y py] (.ListComp elt [⟨tg, iter, ifs, 0⟩] scope pos) spos) (sSet i (dComp T t tt te (own.map (·.2)))) :=
  PSm (ps_setLc hc hN hy hyl hsw hi ok (fun s H C cl fp => PG.ex (hg s H C cl fp)) (fun s H C cl fp => PTs.ex (ht s H C cl fp)) (fun s H C cl fp => PE.ex (he s H C cl fp)) hs) fun D σ H h => by
    obtain ⟨E, M, R, A, De, ok, h, k1, _⟩ := h
    exact lift_comp (g := g) his ⟨E, M, R, A, _, ok, h, fun v M1 x H1 R1 A1 q1 ok1 s1 x1 r1 => k1 _ _ _ _ _ _ q1 (ok1.setSlot r1 i) s1 x1⟩
theorem ds_setLcM {i : Nat} {y : Str} {py spos : Pos} (hc : X.calm = true) (hN : X.N.Nodup) (hy : X.N[i]? = some y) (hyl : X.env.scope.names.lookup y = some .local)
    (hsw : swapsWith (.ListComp elt [⟨tg, iter, ifs, 0⟩] scope pos) (some (.Name y py)) spos.line X.env = pure true) (hi : DI X g tg iter T) (ok : BlkOk X.N X.env.scope scope own)
    (hg : ∀ (s : Shared) (H : Hp) (C : Addr) (cl : List (Str × Addr)) (fp : List Addr) (g' : Gh), DG (X.blk s H scope (compEnvC scope cl C X.env) fp) g' tg is t) (ht : ∀ (s : Shared) (H : Hp) (C : Addr) (cl : List (Str × Addr)) (fp : List Addr) (g' : Gh), DTs (X.blk s H scope (compEnvC scope cl C X.env) fp) g' ifs tt)
    (he : ∀ (s : Shared) (H : Hp) (C : Addr) (cl : List (Str × Addr)) (fp : List Addr) (g' : Gh), DE (X.blk s H scope (compEnvC scope cl C X.env) fp) g' elt te) (his : ∀ i ∈ is, i ∈ own.map (·.2) := by decide) (hs : ∀ x, foldedSetIterable iter X.env x = pure x := by intro _; rfl) :
    DS X g (.Assign [.Name y py] (.ListComp elt [⟨tg, iter, ifs, 0⟩] scope pos) spos) (sSet i (dCompM T t tt te (own.map (·.2)))) :=
  PSm (ps_setLc hc hN hy hyl hsw hi ok (fun s H C cl fp => PG.ex (hg s H C cl fp)) (fun s H C cl fp => PTs.ex (ht s H C cl fp)) (fun s H C cl fp => PE.ex (he s H C cl fp)) hs) fun D σ H h => by
    obtain ⟨E, M, R, A, De, ok, h, k1, _⟩ := h
    exact lift_compM (g := g) his ⟨E, M, R, A, _, ok, h, fun v M1 x H1 R1 A1 q1 ok1 s1 x1 r1 => k1 _ _ _ _ _ _ q1 (ok1.setSlot r1 i) s1 x1⟩
end
end
end DL

end
section
set_option maxRecDepth 10000
/-! Dict comprehensions; defs and their calls over data. -/
namespace DL
open PySem L2 PyProof.Rows
/-- around a body nothing is let out -/
theorem takes0N {X : Cx} : L2N.Takes X (fun _ _ _ _ => False) := fun _ _ ⟨_, _, _, _, _, _, _, _, _, _, _, _, _, _, _, _, z⟩ => z.elim
theorem Fun.okN {P : Program} {w : World} {K : PySem.W.Frag} {mg : Str → Option Value} {base : Heap} {x qual : Str} {st : Stmt} {f : Addr} {fd : FuncData} {N ps : List Str} {k : Nat} {sp : Sp} (F : L2.Fun K x qual st f fd) (S : FnScope N ps (defScope st)) (len : ∀ vs H Q E, sp vs H Q E → vs.length = ps.length)
    (hb : ∀ (cdv : Value) (A : Around) (outer : List Env) (s : Shared) (H : Hp) (vs : List V) (Q : VK) (E : XK), Room k (A.deeper (envOfC qual (defScope st) s.heap.objs.size f cdv)) → sp vs H Q E →
      ∃ t, PSs (cxOf (L2N.CX P w) P w K mg base N qual (defScope st) f cdv A outer s H E) (defBody st) t ∧ t { nx := fun _ H' => Q .non H', rt := Q } (start N vs) H) : FnOk P w K mg base (L2N.CX P w) (k + 1) f fd ps sp := by
  obtain ⟨oc, od, kV, doc, pm, an, cdv, ct, osl, rfl, lk, hcd⟩ := F.ex
  exact fn_of lk hcd S len fun A outer s H vs Q E hr h => hb cdv A outer s H vs Q E hr h
theorem pe_frz {X : Cx} {e : Expr} {t : TE} (h : PE X e t) : PE X e (fun σ H Q => t σ H fun x H' => ∃ d u, x = .ref d ∧ H' d = some u ∧ Mut (some u) ∧ ∀ od, Q x (upd H' d (.frz od u))) := by
  refine ⟨fun pins s σ H Q I hw => ?_⟩
  refine thn (h.run pins s σ H _ I hw) fun v s1 ⟨x, H1, I1, r, d, u, e, hd, mu, q⟩ => ?_
  obtain ⟨od, I2⟩ := I1.lock hd mu
  exact ⟨x, _, I2, r, q od⟩
def onK (Y : Key → List DO → Prop) : Val → List DO → Prop := fun v M => match v with | .d x => oq (keyD x) fun k => Y k M | _ => False
theorem onK_elim {Y : Key → List DO → Prop} {v : Val} {M : List DO} (h : onK Y v M) : ∃ x k, v = .d x ∧ keyD x = some k ∧ Y k M := by
  cases v with
  | d x =>
    obtain ⟨k, e, q⟩ := oq_elim (show oq (keyD x) fun k => Y k M from h)
    exact ⟨x, k, rfl, e, q⟩
  | mu j => exact h.elim
  | tp vs => exact h.elim
def dDC (Kp : List DO → Prop) (t : TDG) (tt : TDT) (tk tv : TD) (E : Sl) (Q : List (Key × D) → List DO → Prop) : List D → List (Key × D) → List DO → Prop
  | [], acc, M => Kp M ∧ Q acc M
  | d :: ds, acc, M => Kp M ∧ t (.d d) E M fun E1 M1 => tt E1 M1 fun b M2 => br b (tk E1 M2 (onK fun key M3 => tv E1 M3 (onD fun x M4 => acc.length < sizeLine ∧ dDC Kp t tt tk tv E Q ds (putD acc key x) M4))) (dDC Kp t tt tk tv E Q ds acc M2)
def dDict (T : TDI) (t : TDG) (tt : TDT) (tk tv : TD) (vs : List Nat) : TD := fun E M Q => T E M fun ds Kp M1 => dDC Kp t tt tk tv (wE E vs) (fun acc M2 => Q (.d (.dk acc)) M2) ds [] M1
def dDictM (T : TDI) (t : TDG) (tt : TDT) (tk tv : TD) (vs : List Nat) : TD := fun E M Q => T E M fun ds Kp M1 => dDC Kp t tt tk tv (wE E vs) (fun acc M2 => Q (.mu M2.length) (M2 ++ [.dk acc])) ds [] M1
section
variable {X : Cx} {g : Gh} {pos : Pos}
theorem lift_dc {T : TDI} {t : TDG} {tt : TDT} {tk tv : TD} {is vs : List Nat} (hs : ∀ i ∈ is, i ∈ vs) {K : PySem.W.Frag} {σ : L2.St} {H : Hp} {Q : VK} {E : Sl} {M : List DO} {R : Hp} {A : List (List Addr)} {Qd : List (Key × D) → List DO → Prop}
    (ok : Ok K g E M σ H R A) (h : T E M fun ds Kp M1 => dDC Kp t tt tk tv (wE E vs) Qd ds [] M1)
    (k : ∀ acc M' D xs H' R' A', Qd acc M' → Ok K g E M' σ H' R' A' → Sub R R' → ExtA A A' → H' D = some (.dK xs) → RepK K R' acc xs → g.H0 D = none → R' D = none → (∀ l ∈ A', D ∉ l) → Q (.ref D) H') :
    tDc (liftI K g T) (exG fun g' => liftG K g' is t) (exT fun g' => liftT K g' tt) (exE fun g' => lift K g' tk) (exE fun g' => lift K g' tv) vs σ H Q := by
  refine ⟨E, M, R, A, _, ok, h, fun ds Kp M1 H1 R1 A1 J q1 ok1 s1 x1 wk => fun D hD => ?_⟩
  have hD0 := ok1.fr hD
  have hRD := ok1.nR hD
  have hAD := ok1.nA hD
  refine ⟨fun i m Hx => m = ds.length - i ∧ i ≤ ds.length ∧ ∃ M' R' A' acc xs, Ok K g E M' σ Hx R' A' ∧ Sub R1 R' ∧ ExtA A1 A' ∧ Hx D = some (.dK xs) ∧ RepK K R' acc xs ∧ R' D = none ∧ (∀ l ∈ A', D ∉ l) ∧ dDC Kp t tt tk tv (wE E vs) Qd (ds.drop i) acc M',
    ⟨_, rfl, Nat.zero_le _, M1, R1, A1, [], [], ok1.extra hD, Sub.refl _, ExtA.refl _, upd_same, rfl, hRD, hAD, q1⟩, ?_⟩
  rintro i m Hx ⟨rfl, hi, M', R', A', acc, xs, ok', s', x', eD, ra, rD, aD, q'⟩
  by_cases hlt : i < ds.length
  · have e : ds[i]? = some ds[i] := List.getElem?_eq_getElem hlt
    rw [List.drop_eq_getElem_cons hlt] at q'
    obtain ⟨kp, q'⟩ := q'
    obtain ⟨w1, w2⟩ := wk.go i _ ok' s' x' kp e
    refine .inr ⟨w1, fun Hn => ∃ M' R' A' acc xs, Ok K g E M' σ Hn R' A' ∧ Sub R1 R' ∧ ExtA A1 A' ∧ Hn D = some (.dK xs) ∧ RepK K R' acc xs ∧ R' D = none ∧ (∀ l ∈ A', D ∉ l) ∧ dDC Kp t tt tk tv (wE E vs) Qd (ds.drop (i + 1)) acc M', fun Hn n => ⟨_, by omega, rfl, hlt, n⟩, fun x H2 y => ?_⟩
    obtain ⟨R2, st, r2⟩ := w2 x H2 y
    obtain ⟨ok2, s2⟩ := ok'.stepR st
    have eD2 : H2 D = some (.dK xs) ∧ R2 D = none := by
      rcases st with ⟨e1, e2⟩ | ⟨p, o, hp, e1, e2⟩ | ⟨e1, q, ws, hq, e2⟩
      · subst e1 e2; exact ⟨eD, rD⟩
      · subst e1 e2
        have : D ≠ p := ne_of_none eD hp
        exact ⟨by rw [upd_ne this]; exact eD, by rw [upd_ne this]; exact rD⟩
      · subst e1 e2
        have : D ≠ q := ne_of eD hq (fun z => nomatch z)
        exact ⟨eD, by rw [upd_ne this]; exact rD⟩
    have okh := ok2.here
    have okw : Ok K ⟨H2, R2, A'⟩ (wE E vs) M' (L2.wipe σ vs) H2 R2 A' := okh.slotsTo (okh.slots.wipe vs)
    refine ⟨⟨H2, R2, A'⟩, wE E vs, M', R2, A', _, .d ds[i], okw, r2, q', fun E3 M3 σ3 H3 R3 A3 q3 so ok3 s3 x3 => ⟨so.wipe hs, ⟨H2, R2, A'⟩, E3, M3, R3, A3, _, ok3, q3, fun b M4 H4 R4 A4 q4 ok4 s4 x4 => ?_⟩⟩
    cases b with
    | true =>
      refine ⟨⟨H2, R2, A'⟩, E3, M4, R4, A4, _, ok4, q4.t rfl, fun kv M5 y H5 R5 A5 q5 ok5 s5 x5 r5 => ?_⟩
      · obtain ⟨kd, key, ekv, ek, q5'⟩ := onK_elim q5
        subst ekv
        refine ⟨⟨H2, R2, A'⟩, E3, M5, R5, A5, _, ok5, q5', fun v M6 z H6 R6 A6 q6 ok6 s6 x6 r6 => ?_⟩
        obtain ⟨zd, ez, hlen, q7⟩ := onD_elim q6
        subst ez
        obtain ⟨k1, k2, k3⟩ := ok6.kept1 eD2.1 aD eD2.2 (fun xs z => nomatch z)
        have s26 : Sub R2 R6 := ((s3.trans s4).trans s5).trans s6
        have x26 : ExtA A' A6 := ((x3.trans x4).trans x5).trans x6
        refine ⟨xs, key, keyD_rep ek r5, k1, by rw [← ra.length]; exact hlen, M6, R6, A6, putD acc key zd, putK xs key z, ?_, (s'.trans s2).trans s26, x'.trans x26, upd_same, ?_, k2, k3, q7⟩
        · exact ((ok2.back ok6).exUpd hD0 k2 k3).slotsTo (ok2.slots.mono s26 x26)
        · exact (RepK.mono (s2.trans s26) _ ra).put r6
    | false =>
      obtain ⟨k1, k2, k3⟩ := ok4.kept1 eD2.1 aD eD2.2 (fun xs z => nomatch z)
      have s24 : Sub R2 R4 := s3.trans s4
      exact ⟨M4, R4, A4, acc, xs, (ok2.back ok4).slotsTo (ok2.slots.mono s24 (x3.trans x4)), (s'.trans s2).trans s24, x'.trans (x3.trans x4), k1, RepK.mono (s2.trans s24) _ ra, k2, k3, q4.f rfl⟩
  · have e : i = ds.length := by omega
    subst e
    rw [List.drop_length] at q'
    exact .inl ⟨wk.stop ok' s' x' q'.1, k _ _ _ _ _ _ _ q'.2 ok' (s1.trans s') (x1.trans x') eD ra hD0 rD aD⟩
/-- a dict that stood loose is locked for good -/
theorem Ok.adoptF {K : PySem.W.Frag} {E : Sl} {M : List DO} {σ : L2.St} {H R : Hp} {A : List (List Addr)} {p : Addr} {u : HO} {od : Obj} (x : Ok K g E M σ H R A) (h0 : g.H0 p = none) (hR : R p = none) (hA : ∀ l ∈ A, p ∉ l) : Ok K g E M σ (upd H p (.frz od u)) (upd R p (.frz od u)) A :=
  (x.exUpd h0 hR hA).adopt h0 hR hA upd_same
section
variable {kx vx tg iter : Expr} {ifs : List Expr} {scope : Scope} {own : List (Str × Nat)} {T : TDI} {t : TDG} {tt : TDT} {tk tv : TD} {is : List Nat}
theorem de_dc (hc : X.calm = true) (hN : X.N.Nodup) (hi : DI X g tg iter T) (ok : BlkOk X.N X.env.scope scope own)
    (hg : ∀ (s : Shared) (H : Hp) (C : Addr) (cl : List (Str × Addr)) (fp : List Addr) (g' : Gh), DG (X.blk s H scope (compEnvC scope cl C X.env) fp) g' tg is t) (ht : ∀ (s : Shared) (H : Hp) (C : Addr) (cl : List (Str × Addr)) (fp : List Addr) (g' : Gh), DTs (X.blk s H scope (compEnvC scope cl C X.env) fp) g' ifs tt)
    (hk : ∀ (s : Shared) (H : Hp) (C : Addr) (cl : List (Str × Addr)) (fp : List Addr) (g' : Gh), DE (X.blk s H scope (compEnvC scope cl C X.env) fp) g' kx tk)
    (he : ∀ (s : Shared) (H : Hp) (C : Addr) (cl : List (Str × Addr)) (fp : List Addr) (g' : Gh), DE (X.blk s H scope (compEnvC scope cl C X.env) fp) g' vx tv) (his : ∀ i ∈ is, i ∈ own.map (·.2) := by decide) (hs : ∀ x, foldedSetIterable iter X.env x = pure x := by intro _; rfl) :
    DE X g (.DictComp kx vx [⟨tg, iter, ifs, 0⟩] scope pos) (dDict T t tt tk tv (own.map (·.2))) :=
  PEm (pe_frz (pe_dc hc hN hi ok (fun s H C cl fp => PG.ex (hg s H C cl fp)) (fun s H C cl fp => PTs.ex (ht s H C cl fp)) (fun s H C cl fp => PE.ex (hk s H C cl fp)) (fun s H C cl fp => PE.ex (he s H C cl fp)) hs)) fun σ H Q ⟨E, M, R, A, Qd, ok, h, k⟩ =>
    lift_dc his ok h fun acc M' D xs H' R' A' q ok' s' x' eD ra h0 rD aD => ⟨D, _, rfl, eD, True.intro, fun od => k _ _ _ _ _ _ q (ok'.adoptF h0 rD aD) (s'.trans (Sub.upd rD)) x' ⟨D, xs, od, rfl, upd_same, RepK.mono (Sub.upd rD) _ ra⟩⟩
theorem de_dcM (hc : X.calm = true) (hN : X.N.Nodup) (hi : DI X g tg iter T) (ok : BlkOk X.N X.env.scope scope own)
    (hg : ∀ (s : Shared) (H : Hp) (C : Addr) (cl : List (Str × Addr)) (fp : List Addr) (g' : Gh), DG (X.blk s H scope (compEnvC scope cl C X.env) fp) g' tg is t) (ht : ∀ (s : Shared) (H : Hp) (C : Addr) (cl : List (Str × Addr)) (fp : List Addr) (g' : Gh), DTs (X.blk s H scope (compEnvC scope cl C X.env) fp) g' ifs tt)
    (hk : ∀ (s : Shared) (H : Hp) (C : Addr) (cl : List (Str × Addr)) (fp : List Addr) (g' : Gh), DE (X.blk s H scope (compEnvC scope cl C X.env) fp) g' kx tk)
    (he : ∀ (s : Shared) (H : Hp) (C : Addr) (cl : List (Str × Addr)) (fp : List Addr) (g' : Gh), DE (X.blk s H scope (compEnvC scope cl C X.env) fp) g' vx tv) (his : ∀ i ∈ is, i ∈ own.map (·.2) := by decide) (hs : ∀ x, foldedSetIterable iter X.env x = pure x := by intro _; rfl) :
    DE X g (.DictComp kx vx [⟨tg, iter, ifs, 0⟩] scope pos) (dDictM T t tt tk tv (own.map (·.2))) :=
  PEm (pe_dc hc hN hi ok (fun s H C cl fp => PG.ex (hg s H C cl fp)) (fun s H C cl fp => PTs.ex (ht s H C cl fp)) (fun s H C cl fp => PE.ex (hk s H C cl fp)) (fun s H C cl fp => PE.ex (he s H C cl fp)) hs) fun σ H Q ⟨E, M, R, A, Qd, ok, h, k⟩ =>
    lift_dc his ok h fun acc M' D xs H' R' A' q ok' s' x' eD ra h0 rD aD => k _ _ _ _ _ _ q (ok'.adoptM h0 rD aD ⟨D, xs, rfl, eD, ra⟩) s' (x'.trans (ExtA.app _ _)) ⟨D, [], ok'.at_len _, rfl⟩
end
end

/-! ### defs -/
/-- what a def promises over data: the arguments, the objects handed in that may change; what is wanted of the value, of a refusal (by its class's name) -/
abbrev FSp := List Val → List DO → (Val → List DO → Prop) → (Str → List DO → Prop) → Prop
structure GOk (K : PySem.W.Frag) (R : Hp) (A : List (List Addr)) (M : List DO) (H : Hp) : Prop where
  sub : Sub R H
  nd : A.flatten.Nodup
  nr : ∀ l ∈ A, ∀ a ∈ l, R a = none
  obj : OwnL K R H A M
structure ExtW (R H : Hp) (A : List (List Addr)) (R' H' : Hp) : Prop where
  keep : ∀ a o, H a = some o → (∀ l ∈ A, a ∉ l) → H' a = some o
  sub0 : Sub R R'
  sub : Sub R' H'
  fresh : ∀ a o, R' a = some o → R a = some o ∨ H a = none ∨ ∃ xs, o = .tup xs
/-- the objects behind: those that were handed in, and new ones -/
structure NewA (H R' : Hp) (A A' : List (List Addr)) : Prop where
  pre : A'.take A.length = A
  new : ∀ l ∈ A'.drop A.length, ∀ a ∈ l, H a = none
  nd : A'.flatten.Nodup
  nr : ∀ l ∈ A', ∀ a ∈ l, R' a = none
def spG (K : PySem.W.Frag) (xa : Str → Addr) (F : FSp) : Sp := fun vs H Q E => ∃ R A M args Qd Ed, GOk K R A M H ∧ RepVs K R A args vs ∧ F args M Qd Ed ∧
  (∀ v M' x H' R' A', Qd v M' → ExtW R H A R' H' → NewA H R' A A' → OwnL K R' H' A' M' → RepV K R' A' v x → Q x H') ∧
  (∀ n M' H' R', Ed n M' → ExtW R H A R' H' → OwnL K R' H' A M' → E (.ref (xa n)) none H')
/-- what is wished of a refusal, at the slots -/
def wishD (K : PySem.W.Frag) (g : Gh) (xa : Str → Addr) (Wd : Str → List DO → Prop) : WX := fun cls d σ H => ∃ n E M R A, cls = .ref (xa n) ∧ d = none ∧ Ok K g E M σ H R A ∧ Wd n M
abbrev TakesD (X : Cx) (g : Gh) (xa : Str → Addr) (Wd : Str → List DO → Prop) : Prop := L2N.Takes X (wishD X.K g xa Wd)
theorem OwnL.take {K : PySem.W.Frag} {R H : Hp} : ∀ {A : List (List Addr)} {M : List DO} (n : Nat), OwnL K R H A M → OwnL K R H (A.take n) (M.take n)
  | [], M, n, h => by have e : M = [] := h; subst e; simp [OwnL]
  | l :: A, M, 0, h => by simp [OwnL]
  | l :: A, M, n + 1, h => by
    obtain ⟨o, r, e, h1, h2⟩ := h
    subst e
    exact ⟨o, r.take n, rfl, h1, OwnL.take n h2⟩
theorem Ok.out {K : PySem.W.Frag} {H0 R0 : Hp} {A0 : List (List Addr)} {E : Sl} {M : List DO} {σ : L2.St} {H R : Hp} {A : List (List Addr)} (x : Ok K ⟨H0, R0, A0⟩ E M σ H R A) : ExtW R0 H0 A0 R H ∧ OwnL K R H A0 (M.take A0.length) := by
  refine ⟨⟨x.keep, x.sub0, x.sub, x.fresh⟩, ?_⟩
  have e : A.take A0.length = A0 := x.pre
  have := x.obj.take A0.length
  rw [e] at this
  exact this
/-- what is handed back: data, or a list made here, or a dict made and locked here -/
def retV (n : Nat) (Q : Val → List DO → Prop) : Val → List DO → Prop := fun v M => match v with
  | .d d => Q (.d d) (M.take n)
  | .mu j => n ≤ j ∧ (match M[j]? with | some (.lst ds) => Q (.d (.lst ds)) (M.take n) | some (.lk kvs _) => Q (.d (.dk kvs)) (M.take n) | _ => False)
  | .tp _ => False
/-- an object made here, handed back to be changed there; or in a pair -/
def retN (n : Nat) (Q : Val → List DO → Prop) : Val → List DO → Prop := fun v M => match v with
  | .mu j => n ≤ j ∧ oq M[j]? fun o => Q (.mu n) (M.take n ++ [o])
  | .tp [.mu j, .d x] => n ≤ j ∧ oq M[j]? fun o => Q (.tp [.mu n, .d x]) (M.take n ++ [o])
  | _ => False
structure RetOk (ret : Nat → (Val → List DO → Prop) → Val → List DO → Prop) : Prop where
  go : ∀ {K : PySem.W.Frag} {H0 R0 : Hp} {A0 : List (List Addr)} {E : Sl} {M' : List DO} {σ : L2.St} {H' R' : Hp} {A' : List (List Addr)} {v : Val} {y : V} {Qd : Val → List DO → Prop}, Ok K ⟨H0, R0, A0⟩ E M' σ H' R' A' → RepV K R' A' v y → ret A0.length Qd v M' →
    ∃ v2 M2 R2 A2, Qd v2 M2 ∧ ExtW R0 H0 A0 R2 H' ∧ NewA H0 R2 A0 A2 ∧ OwnL K R2 H' A2 M2 ∧ RepV K R2 A2 v2 y
section
variable {K : PySem.W.Frag} {H0 R0 : Hp} {A0 : List (List Addr)} {E : Sl} {M' : List DO} {σ : L2.St} {H' R' : Hp} {A' : List (List Addr)}
theorem flat_take {A : List (List Addr)} (h : A.flatten.Nodup) (n : Nat) : (A.take n).flatten.Nodup := by
  rw [← List.take_append_drop n A, List.flatten_append] at h
  exact (List.nodup_append.mp h).1
theorem Ok.same (ok' : Ok K ⟨H0, R0, A0⟩ E M' σ H' R' A') : NewA H0 R' A0 A0 := by
  have e : A'.take A0.length = A0 := ok'.pre
  refine ⟨List.take_length, fun l hl => by rw [List.drop_length] at hl; simp at hl, ?_, fun l hl => ok'.nr l (by rw [← e] at hl; exact List.mem_of_mem_take hl)⟩
  have := flat_take ok'.nd A0.length
  rwa [e] at this
/-- a thing made here, of its own at a, is read from now on -/
theorem Ok.outR (ok' : Ok K ⟨H0, R0, A0⟩ E M' σ H' R' A') {j : Nat} {a : Addr} {o : HO} (hj : A0.length ≤ j) (e1 : A'[j]? = some [a]) (h1 : H' a = some o) :
    ExtW R0 H0 A0 (upd R' a o) H' ∧ NewA H0 (upd R' a o) A0 A0 ∧ OwnL K (upd R' a o) H' A0 (M'.take A0.length) ∧ Sub R' (upd R' a o) := by
  have hRa := ok'.nr _ (List.mem_of_getElem? e1) a List.mem_cons_self
  have h0 : H0 a = none := ok'.newA [a] (by
    refine List.mem_of_getElem? (i := j - A0.length) ?_
    rw [List.getElem?_drop, show A0.length + (j - A0.length) = j by omega]
    exact e1) a List.mem_cons_self
  obtain ⟨o1, o2⟩ := ok'.out
  have sm := ok'.same
  refine ⟨⟨o1.keep, o1.sub0.trans (Sub.upd hRa), fun b u e => ?_, fun b u e => ?_⟩, ⟨sm.pre, sm.new, sm.nd, fun l hl b hb => ?_⟩, o2.mono (Sub.upd hRa) fun _ _ _ _ => rfl, Sub.upd hRa⟩
  · by_cases z : b = a
    · subst z; rw [upd_same] at e; rw [h1]; exact e
    · rw [upd_ne z] at e; exact o1.sub _ _ e
  · by_cases z : b = a
    · subst z; exact .inr (.inl h0)
    · rw [upd_ne z] at e; exact o1.fresh _ _ e
  · have : b ≠ a := fun z => by
      subst z
      obtain ⟨i, hi⟩ := List.getElem?_of_mem hl
      have e : A'.take A0.length = A0 := ok'.pre
      have hlt : i < A0.length := (List.getElem?_eq_some_iff.mp hi).1
      have hi' : A'[i]? = some l := by rw [← e, List.getElem?_take_of_lt hlt] at hi; exact hi
      have := flat_disj ok'.nd hi' e1 hb List.mem_cons_self
      omega
    rw [upd_ne this]
    exact sm.nr l hl b hb
theorem ret_V : RetOk retV := by
  refine ⟨fun {K H0 R0 A0 E M' σ H' R' A' v y Qd} ok' r' q => ?_⟩
  obtain ⟨o1, o2⟩ := ok'.out
  cases v with
  | d dd => exact ⟨_, _, _, _, q, o1, ok'.same, o2, r'⟩
  | tp vs => exact q.elim
  | mu j =>
    obtain ⟨hj, q⟩ := q
    split at q
    · rename_i ds e
      obtain ⟨l, e1, a, vs, e3, h1, h2⟩ := ok'.obj.get e
      subst e3
      obtain ⟨a', l', e4, e5⟩ := r'
      rw [e1] at e4
      have e4 := Option.some.inj e4
      injection e4 with e4 e6
      subst e4 e6 e5
      obtain ⟨w1, w2, w3, w4⟩ := ok'.outR hj e1 h1
      exact ⟨_, _, _, _, q, w1, w2, w3, ⟨a, vs, rfl, upd_same, RepL.mono w4 _ h2⟩⟩
    · rename_i ds tok e
      obtain ⟨l, e1, a, e3, h1, h2⟩ := ok'.obj.get e
      subst e3
      obtain ⟨a', l', e4, e5⟩ := r'
      rw [e1] at e4
      have e4 := Option.some.inj e4
      injection e4 with e4 e6
      subst e4 e6 e5
      obtain ⟨w1, w2, w3, w4⟩ := ok'.outR hj e1 h1
      exact ⟨_, _, _, _, q, w1, w2, w3, ⟨a, _, _, rfl, upd_same, RepK.mono w4 _ h2⟩⟩
    · exact q.elim
theorem Ok.outN (ok' : Ok K ⟨H0, R0, A0⟩ E M' σ H' R' A') {j : Nat} {l : List Addr} {o : DO} (hj : A0.length ≤ j) (e1 : A'[j]? = some l) (h1 : Own K R' H' l o) :
    NewA H0 R' A0 (A0 ++ [l]) ∧ OwnL K R' H' (A0 ++ [l]) (M'.take A0.length ++ [o]) := by
  obtain ⟨o1, o2⟩ := ok'.out
  have sm := ok'.same
  have hl : l ∈ A'.drop A0.length := by
    refine List.mem_of_getElem? (i := j - A0.length) ?_
    rw [List.getElem?_drop, show A0.length + (j - A0.length) = j by omega]
    exact e1
  refine ⟨⟨by simp, fun k hk => ?_, ?_, fun k hk => ?_⟩, o2.app ⟨o, [], rfl, h1, rfl⟩⟩
  · simp at hk; subst hk; exact ok'.newA _ hl
  · rw [List.flatten_append]
    have e : A'.take A0.length = A0 := ok'.pre
    have nd := ok'.nd
    rw [← List.take_append_drop A0.length A', List.flatten_append, e] at nd
    obtain ⟨n1, n2, n3⟩ := List.nodup_append.mp nd
    refine List.nodup_append.mpr ⟨n1, ?_, fun a ha b hb => n3 a ha b ?_⟩
    · rw [List.flatten_cons, List.flatten_nil, List.append_nil]
      exact n2.sublist (List.sublist_flatten_of_mem hl)
    · rw [List.flatten_cons, List.flatten_nil, List.append_nil] at hb
      exact List.mem_flatten.mpr ⟨l, hl, hb⟩
  · rcases List.mem_append.mp hk with q | q
    · exact sm.nr k q
    · simp at q; subst q; exact ok'.nr _ (List.mem_of_getElem? e1)
theorem ret_N : RetOk retN := by
  refine ⟨fun {K H0 R0 A0 E M' σ H' R' A' v y Qd} ok' r' q => ?_⟩
  obtain ⟨o1, o2⟩ := ok'.out
  unfold retN at q
  split at q
  · rename_i j
    obtain ⟨hj, q⟩ := q
    obtain ⟨o, e, q⟩ := oq_elim q
    obtain ⟨l, e1, h1⟩ := ok'.obj.get e
    obtain ⟨a, l', e4, e5⟩ := r'
    rw [e1] at e4
    have e4 := Option.some.inj e4
    obtain ⟨w1, w2⟩ := ok'.outN hj e1 h1
    exact ⟨_, _, _, _, q, o1, w1, w2, ⟨a, l', by simp [e4], e5⟩⟩
  · rename_i j x
    obtain ⟨hj, q⟩ := q
    obtain ⟨o, e, q⟩ := oq_elim q
    obtain ⟨l, e1, h1⟩ := ok'.obj.get e
    obtain ⟨p, us, ep, hp, y1, ys, ey, ⟨a, l', e4, e5⟩, y2, ys2, ey2, r2, r3⟩ := r'
    have r3 : ys2 = [] := r3
    subst ey ey2 r3
    rw [e1] at e4
    have e4 := Option.some.inj e4
    obtain ⟨w1, w2⟩ := ok'.outN hj e1 h1
    exact ⟨_, _, _, _, q, o1, w1, w2, ⟨p, _, ep, hp, _, _, rfl, ⟨a, l', by simp [e4], e5⟩, _, _, rfl, r2, rfl⟩⟩
  · exact q.elim
end
theorem start_slots {K : PySem.W.Frag} {R : Hp} {A : List (List Addr)} : ∀ {args : List Val} {vs : List V} (m : Nat), RepVs K R A args vs → SlL K R A (args.map some ++ List.replicate m none) (vs.map some ++ List.replicate m none)
  | [], vs, m, h => by
    have e : vs = [] := h
    subst e
    induction m with
    | zero => rfl
    | succ m ih => exact ⟨none, _, rfl, (fun w hw => by cases hw), ih⟩
  | v :: args, vs, m, h => by
    obtain ⟨x, r, e, h1, h2⟩ := h
    subst e
    exact ⟨some x, _, rfl, (fun w hw => by cases hw; exact ⟨x, rfl, h1⟩), start_slots m h2⟩
def startD (n : Nat) (args : List Val) : Sl := args.map some ++ List.replicate (n - args.length) none
theorem Fun.dl {P : Program} {w : World} {K : PySem.W.Frag} {mg : Str → Option Value} {base : Heap} {xa : Str → Addr} {x qual : Str} {st : Stmt} {f : Addr} {fd : FuncData} {N ps : List Str} {k : Nat} {F : FSp} {ret : Nat → (Val → List DO → Prop) → Val → List DO → Prop} (hret : RetOk ret) (Fn : L2.Fun K x qual st f fd) (S : FnScope N ps (defScope st))
    (len : ∀ args M Q E, F args M Q E → args.length = ps.length)
    (body : ∀ (cdv : Value) (A : Around) (outer : List Env) (s : Shared) (H : Hp) (E : XK) (g : Gh), Room k (A.deeper (envOfC qual (defScope st) s.heap.objs.size f cdv)) →
      ∃ T : (Str → List DO → Prop) → TDS, (∀ Wd, TakesD (cxOf (L2N.CX P w) P w K mg base N qual (defScope st) f cdv A outer s H E) g xa Wd → DSs (cxOf (L2N.CX P w) P w K mg base N qual (defScope st) f cdv A outer s H E) g (defBody st) (T Wd)) ∧
        ∀ args M Qd Ed, F args M Qd Ed → T (fun n M' => Ed n (M'.take M.length)) { nx := fun _ M' => Qd (.d .non) (M'.take M.length), rt := ret M.length Qd } (startD N.length args) M) : FnOk P w K mg base (L2N.CX P w) (k + 1) f fd ps (spG K xa F) := by
  refine Fun.okN Fn S (fun vs H Q E h => ?_) (fun cdv A outer s H vs Q E hr h => ?_)
  · obtain ⟨R, A, M, args, Qd, Ed, _, r, hF, _⟩ := h
    rw [← r.length]; exact len _ _ _ _ hF
  · obtain ⟨R, A0, M, args, Qd, Ed, gok, r, hF, kq, ke⟩ := h
    obtain ⟨T, hD, hT⟩ := body cdv A outer s H E ⟨H, R, A0⟩ hr
    have hl : A0.length = M.length := gok.obj.length
    refine ⟨_, hD (fun n M' => Ed n (M'.take M.length)) ?_, startD N.length args, M, R, A0, _, ?_, hT args M Qd Ed hF, fun E' M' σ' H' R' A' q ok' s' _ => ?_, fun v M' y E' σ' H' R' A' q ok' s' _ r' => ?_, fun _ _ _ _ _ _ q _ _ _ => (show False from q).elim, fun _ _ _ _ _ _ q _ _ _ => (show False from q).elim⟩
    · refine (L2N.takes_of rfl rfl rfl rfl).imp fun cls d σ' H' ⟨n, E', M', R', A', e1, e2, ok', q⟩ => ?_
      subst e1 e2
      obtain ⟨o1, o2⟩ := ok'.out
      rw [hl] at o2
      exact ke n _ H' R' q o1 o2
    · have rl := r.length
      refine ⟨fun a o e _ => e, Sub.refl _, gok.sub, fun a o e => .inl e, List.take_length, fun l hl => ?_, gok.nd, gok.nr, gok.obj, ?_⟩
      · rw [List.drop_length] at hl; simp at hl
      · unfold startD L2.start
        rw [rl]
        exact start_slots _ r
    · obtain ⟨o1, o2⟩ := ok'.out
      rw [hl] at o2
      exact kq _ _ _ _ _ _ q o1 ok'.same o2 rfl
    · have q : ret A0.length Qd v M' := by rw [hl]; exact q
      obtain ⟨v2, M2, R2, A2, q2, w1, w2, w3, w4⟩ := hret.go ok' r' q
      exact kq _ _ _ _ _ _ q2 w1 w2 w3 w4

/-! ### calls -/
/-- of data alone -/
abbrev PSp := List D → (D → Prop) → (Str → Prop) → Prop
def fP (F : PSp) : FSp := fun args M Q E => M = [] ∧ ∃ ds, args = ds.map Val.d ∧ F ds (fun d => Q (.d d) []) (fun n => E n [])
/-- of data behind the well -/
def fW (F : PSp) : FSp := fun args M Q E => M = [.well] ∧ ∃ ds, args = .mu 0 :: ds.map Val.d ∧ F ds (fun d => Q (.d d) [.well]) (fun n => E n [.well])
def dCall (F : PSp) (Wd : Str → List DO → Prop) (U : TDA) : TD := fun E M Q => U E M fun vs M1 => oq (dsV vs) fun ds => F ds (fun d => Q (.d d) M1) (fun n => Wd n M1)
def dCallW (F : PSp) (Wd : Str → List DO → Prop) (U : TDA) : TD := fun E M Q => U E M fun vs M1 => match vs with
  | .mu j :: r => M1[j]? = some .well ∧ oq (dsV r) fun ds => F ds (fun d => Q (.d d) M1) (fun n => Wd n M1) | _ => False
theorem repsD {K : PySem.W.Frag} {R : Hp} {A B : List (List Addr)} : ∀ {vs : List Val} {ds : List D} {xs : List V}, dsV vs = some ds → RepVs K R A vs xs → vs = ds.map Val.d ∧ RepVs K R B vs xs
  | [], ds, xs, h, r => by cases (show some [] = some ds from h); exact ⟨rfl, r⟩
  | .d x :: vs, ds, xs, h, r => by
    obtain ⟨y, r', e, h1, h2⟩ := r
    unfold dsV at h
    split at h
    · rename_i ds' e1
      cases h
      obtain ⟨i1, i2⟩ := repsD (B := B) e1 h2
      exact ⟨by rw [List.map_cons, ← i1], y, r', e, h1, i2⟩
    · cases h
  | .mu j :: vs, ds, xs, h, r => by cases h
/-- a def's new object, handed to us -/
def dCallN (F : FSp) (Wd : Str → List DO → Prop) (U : TDA) : TD := fun E M Q => U E M fun vs M1 => oq (dsV vs) fun ds => F (ds.map Val.d) [] (fun v M' => match v, M' with
  | .d x, [] => Q (.d x) M1
  | .mu 0, [o] => Q (.mu M1.length) (M1 ++ [o])
  | .tp [.mu 0, .d x], [o] => Q (.tp [.mu M1.length, .d x]) (M1 ++ [o])
  | _, _ => False) (fun n _ => Wd n M1)
section
variable {K : PySem.W.Frag} {g : Gh} {E : Sl} {M : List DO} {σ : L2.St} {H R H' R' : Hp} {A : List (List Addr)}
/-- behind a call that was handed the objects at A0 of ours -/
theorem Ok.after (x : Ok K g E M σ H R A) {A0 : List (List Addr)} (hA : ∀ l ∈ A0, l ∈ A) (w : ExtW R H A0 R' H') (ho : OwnL K R' H' A M) : Ok K g E M σ H' R' A := by
  refine ⟨fun a o e n => ?_, x.sub0.trans w.sub0, w.sub, fun a o e => ?_, x.pre, x.newA, x.nd, fun l hl a ha => ?_, ho, x.slots.mono w.sub0 (ExtA.refl _)⟩
  · exact w.keep a o (x.keep a o e n) fun l hl ha => x.g0 e n l (hA l hl) ha
  · rcases w.fresh a o e with q | q | q
    · exact x.fresh a o q
    · exact .inr (.inl (x.fr q))
    · exact .inr (.inr q)
  · cases e : R' a with
    | none => rfl
    | some o =>
      rcases w.fresh a o e with q | q | ⟨xs, q⟩
      · rw [x.nr l hl a ha] at q; cases q
      · exact absurd q (x.obj.ne l hl a ha)
      · subst q
        exact absurd (w.sub _ _ e) (ho.nt l hl a ha xs)
/-- and was handed a new one -/
theorem Ok.gain (x : Ok K g E M σ H R A) (n0 : ∀ l ∈ A, ∀ a ∈ l, H' a = H a) (w : ExtW R H [] R' H') {l : List Addr} {o : DO} (hn : NewA H R' [] [l]) (ho : Own K R' H' l o) : Ok K g E (M ++ [o]) σ H' R' (A ++ [l]) := by
  have y := x.after (A0 := []) (fun l hl => by simp at hl) w (x.obj.mono w.sub0 n0)
  have hl : g.A0.length ≤ A.length := by
    have e := congrArg List.length x.pre
    rw [List.length_take] at e
    omega
  have lnew : ∀ a ∈ l, H a = none := fun a ha => hn.new l (by simp) a ha
  refine ⟨y.keep, y.sub0, y.sub, y.fresh, ?_, fun k hk a ha => ?_, ?_, fun k hk a ha => ?_, y.obj.app ⟨o, [], rfl, ho, rfl⟩, y.slots.mono (Sub.refl _) (ExtA.app _ _)⟩
  · rw [List.take_append_of_le_length hl]; exact y.pre
  · rw [List.drop_append_of_le_length hl] at hk
    rcases List.mem_append.mp hk with q | q
    · exact y.newA k q a ha
    · simp at q; subst q; exact x.fr (lnew a ha)
  · rw [List.flatten_append]
    refine List.nodup_append.mpr ⟨y.nd, hn.nd, fun a ha b hb q => ?_⟩
    obtain ⟨k, hk, hak⟩ := List.mem_flatten.mp ha
    simp at hb
    subst q
    exact x.obj.ne k hk a hak (lnew a hb)
  · rcases List.mem_append.mp hk with q | q
    · exact y.nr k q a ha
    · simp at q; subst q; exact hn.nr k (by simp) a ha
theorem OwnL.well {A : List (List Addr)} {M : List DO} {j : Nat} (h : OwnL K R H A M) (e : M[j]? = some .well) : ∃ a, A[j]? = some [a] ∧ Own K R H [a] .well := by
  obtain ⟨l, e1, e2⟩ := h.get e
  obtain ⟨a, vs, e3, h1, h2⟩ := e2
  subst e3
  exact ⟨a, e1, a, vs, rfl, h1, h2⟩
theorem ExtW.same (w : ExtW R H [] R' H') {A : List (List Addr)} {M : List DO} (h : OwnL K R H A M) : ∀ l ∈ A, ∀ a ∈ l, H' a = H a := fun l hl a ha => by
  cases e5 : H a with
  | none => exact absurd e5 (h.ne l hl a ha)
  | some o => exact w.keep a o e5 (fun l hl => by simp at hl)
end
section
variable {X : Cx} {g : Gh} {k : Nat} {f : Addr} {fd : FuncData} {ps : List Str} {xa : Str → Addr} {F : PSp} {G : FSp} {Wd : Str → List DO → Prop} {x : Str} {p pos : Pos} {e : Expr} {es : List Expr} {U : TDA}
theorem lift_callN {σ : L2.St} {H : Hp} {Q : VK} (h : lift X.K g (dCallN G Wd U) σ H Q) : tCallS (spG X.K xa G) (WE (wishD X.K g xa Wd)) (liftA X.K g U) σ H Q := by
  obtain ⟨E, M, R, A, Qd, ok, h, kk⟩ := h
  refine ⟨E, M, R, A, _, ok, h, fun vs M1 xs H1 R1 A1 q1 ok1 s1 x1 r1 => ?_⟩
  obtain ⟨ds, e1, q⟩ := oq_elim q1
  obtain ⟨e2, r2⟩ := repsD (B := []) e1 r1
  refine ⟨R1, [], [], vs, _, _, ⟨ok1.sub, by simp, (fun l hl => by simp at hl), rfl⟩, r2, by rw [e2]; exact q, ?_, ?_⟩
  · intro v M' y H' R' A' q3 w na ho r'
    split at q3
    · have ok' := ok1.after (A0 := []) (fun l hl => by simp at hl) w (ok1.obj.mono w.sub0 (w.same ok1.obj))
      exact kk _ _ _ _ _ _ q3 ok' (s1.trans w.sub0) x1 r'
    · rename_i o
      cases A' with
      | nil => cases ho
      | cons l A' =>
        obtain ⟨o', r, e3, h1, h2⟩ := ho
        cases e3
        cases A' with
        | cons _ _ => obtain ⟨_, _, e4, _⟩ := h2; cases e4
        | nil =>
          have ok' := ok1.gain (w.same ok1.obj) w na h1
          obtain ⟨a, l', e6, e7⟩ := r'
          refine kk _ _ _ _ _ _ q3 ok' (s1.trans w.sub0) (x1.trans (ExtA.app _ _)) ⟨a, l', ?_, e7⟩
          simp at e6
          rw [← e6]
          exact ok1.at_len _
    · rename_i x' o
      cases A' with
      | nil => cases ho
      | cons l A' =>
        obtain ⟨o', r, e3, h1, h2⟩ := ho
        cases e3
        cases A' with
        | cons _ _ => obtain ⟨_, _, e4, _⟩ := h2; cases e4
        | nil =>
          have ok' := ok1.gain (w.same ok1.obj) w na h1
          obtain ⟨p', us, ep, hp, y1, ys, ey, ⟨a, l', e6, e7⟩, r7⟩ := r'
          refine kk _ _ _ _ _ _ q3 ok' (s1.trans w.sub0) (x1.trans (ExtA.app _ _)) ⟨p', us, ep, hp, y1, ys, ey, ⟨a, l', ?_, e7⟩, r7⟩
          simp at e6
          rw [← e6]
          exact ok1.at_len _
    · exact q3.elim
  · intro n M' H' R' qd w _
    have ok' := ok1.after (A0 := []) (fun l hl => by simp at hl) w (ok1.obj.mono w.sub0 (w.same ok1.obj))
    exact ⟨n, E, M1, R', A1, rfl, rfl, ok', qd⟩
theorem de_callN (Fn : FnOk X.prog X.w X.K X.mg X.base (L2N.CX X.prog X.w) k f fd ps (spG X.K xa G)) (hr : Room k X.A) (hg : Gl X x) (hm : X.mg x = some (.ref f)) (hk : PySem.W.keepIn X.K (.ref f) = true) (hb : Binds X.K fd ps []) (tk : TakesD X g xa Wd)
    (ha : DA X g (e :: es) U) (hdb : (x == ("__debug__" : Str)) = false := by decide) (he : starEach (e :: es) X.env = (false, eval e X.env) :: starEach es X.env := by rfl) (hpl : (backTo pos (starEach es X.env)).any (·.1) = false := by rfl) :
    DE X g (.Call (.Name x p) (e :: es) [] pos) (dCallN G Wd U) :=
  PEm (pe_callS Fn hr hg hm hk hb (fun σ => L2N.passAt tk σ) ha hdb he hpl) fun _ _ _ h => lift_callN h
theorem lift_call {σ : L2.St} {H : Hp} {Q : VK} (h : lift X.K g (dCall F Wd U) σ H Q) : tCallS (spG X.K xa (fP F)) (WE (wishD X.K g xa Wd)) (liftA X.K g U) σ H Q := by
  obtain ⟨E, M, R, A, Qd, ok, h, kk⟩ := h
  refine ⟨E, M, R, A, _, ok, h, fun vs M1 xs H1 R1 A1 q1 ok1 s1 x1 r1 => ?_⟩
  obtain ⟨ds, e1, q⟩ := oq_elim q1
  obtain ⟨e2, r2⟩ := repsD (B := []) e1 r1
  refine ⟨R1, [], [], vs, fun v M' => M' = [] ∧ ∃ d, v = .d d ∧ Qd (.d d) M1, fun n M' => M' = [] ∧ Wd n M1, ⟨ok1.sub, by simp, (fun l hl => by simp at hl), rfl⟩, r2, ⟨rfl, ds, e2, ?_⟩, ?_, ?_⟩
  · have : (fun d => (([] : List DO) = [] ∧ ∃ d', Val.d d = .d d' ∧ Qd (.d d') M1)) = fun d => Qd (.d d) M1 := by
      funext d
      exact propext ⟨fun ⟨_, d', e, q⟩ => by cases e; exact q, fun q => ⟨rfl, d, rfl, q⟩⟩
    rw [this]
    have : (fun n => (([] : List DO) = [] ∧ Wd n M1)) = fun n => Wd n M1 := by
      funext n
      exact propext ⟨fun q => q.2, fun q => ⟨rfl, q⟩⟩
    rw [this]
    exact q
  · rintro v M' y H' R' A' ⟨e3, d, e4, qd⟩ w _ _ r'
    subst e4
    have ok' := ok1.after (A0 := []) (fun l hl => by simp at hl) w (ok1.obj.mono w.sub0 fun l hl a ha => by
      cases e5 : H1 a with
      | none => exact absurd e5 (ok1.obj.ne l hl a ha)
      | some o => exact w.keep a o e5 (fun l hl => by simp at hl))
    exact kk _ _ _ _ _ _ qd ok' (s1.trans w.sub0) x1 r'
  · rintro n M' H' R' ⟨e3, qd⟩ w _
    have ok' := ok1.after (A0 := []) (fun l hl => by simp at hl) w (ok1.obj.mono w.sub0 fun l hl a ha => by
      cases e5 : H1 a with
      | none => exact absurd e5 (ok1.obj.ne l hl a ha)
      | some o => exact w.keep a o e5 (fun l hl => by simp at hl))
    exact ⟨n, E, M1, R', A1, rfl, rfl, ok', qd⟩
theorem de_call (Fn : FnOk X.prog X.w X.K X.mg X.base (L2N.CX X.prog X.w) k f fd ps (spG X.K xa (fP F))) (hr : Room k X.A) (hg : Gl X x) (hm : X.mg x = some (.ref f)) (hk : PySem.W.keepIn X.K (.ref f) = true) (hb : Binds X.K fd ps []) (tk : TakesD X g xa Wd)
    (ha : DA X g (e :: es) U) (hdb : (x == ("__debug__" : Str)) = false := by decide) (he : starEach (e :: es) X.env = (false, eval e X.env) :: starEach es X.env := by rfl) (hpl : (backTo pos (starEach es X.env)).any (·.1) = false := by rfl) :
    DE X g (.Call (.Name x p) (e :: es) [] pos) (dCall F Wd U) :=
  PEm (pe_callS Fn hr hg hm hk hb (fun σ => L2N.passAt tk σ) ha hdb he hpl) fun _ _ _ h => lift_call h
theorem lift_callW {σ : L2.St} {H : Hp} {Q : VK} (h : lift X.K g (dCallW F Wd U) σ H Q) : tCallS (spG X.K xa (fW F)) (WE (wishD X.K g xa Wd)) (liftA X.K g U) σ H Q := by
  obtain ⟨E, M, R, A, Qd, ok, h, kk⟩ := h
  refine ⟨E, M, R, A, _, ok, h, fun vs M1 xs H1 R1 A1 q1 ok1 s1 x1 r1 => ?_⟩
  split at q1
  · rename_i j r
    obtain ⟨ew, q1⟩ := q1
    obtain ⟨ds, e1, q⟩ := oq_elim q1
    obtain ⟨a, ea, oa⟩ := ok1.obj.well ew
    obtain ⟨y, ys, ey, ⟨a', l', e6, e7⟩, r1'⟩ := r1
    rw [ea] at e6
    have e6 := Option.some.inj e6
    injection e6 with e6 e8
    subst e6 e8 e7 ey
    obtain ⟨e2, r2⟩ := repsD (B := [[a]]) e1 r1'
    have own' : ∀ {H' R'}, ExtW R1 H1 [[a]] R' H' → OwnL X.K R' H' [[a]] [.well] → OwnL X.K R' H' A1 M1 := fun {H' R'} w ho => by
      obtain ⟨o, r, e9, h9, _⟩ := ho
      cases e9
      have := ok1.obj.put (o' := .well) (l' := [a]) (H' := H') w.sub0 ea h9 fun i k hi hk b hb => by
        cases e5 : H1 b with
        | none => exact absurd e5 (ok1.obj.ne k (List.mem_of_getElem? hk) b hb)
        | some o => exact w.keep b o e5 (fun l hl hbl => by
            simp at hl; subst hl
            exact hi (flat_disj ok1.nd hk ea hb hbl))
      rw [set_same ea, set_same ew] at this
      exact this
    have memA : ∀ l ∈ [[a]], l ∈ A1 := fun l hl => by simp at hl; subst hl; exact List.mem_of_getElem? ea
    refine ⟨R1, [[a]], [.well], .mu 0 :: r, fun v M' => M' = [.well] ∧ ∃ d, v = .d d ∧ Qd (.d d) M1, fun n M' => M' = [.well] ∧ Wd n M1, ⟨ok1.sub, by simp, fun l hl b hb => ok1.nr l (memA l hl) b hb, ⟨_, _, rfl, oa, rfl⟩⟩, ⟨_, _, rfl, ⟨a, [], rfl, rfl⟩, r2⟩, ⟨rfl, ds, by rw [e2], ?_⟩, ?_, ?_⟩
    · have : (fun d => (([.well] : List DO) = [.well] ∧ ∃ d', Val.d d = .d d' ∧ Qd (.d d') M1)) = fun d => Qd (.d d) M1 := by
        funext d
        exact propext ⟨fun ⟨_, d', e, q⟩ => by cases e; exact q, fun q => ⟨rfl, d, rfl, q⟩⟩
      rw [this]
      have : (fun n => (([.well] : List DO) = [.well] ∧ Wd n M1)) = fun n => Wd n M1 := by
        funext n
        exact propext ⟨fun q => q.2, fun q => ⟨rfl, q⟩⟩
      rw [this]
      exact q
    · rintro v M' y H' R' A' ⟨e3, d, e4, qd⟩ w na ho r'
      subst e4 e3
      have eA : A' = [[a]] := by
        have h1 := na.pre
        have h2 := ho.length
        simp at h1 h2
        rw [List.take_of_length_le (by omega)] at h1
        exact h1
      subst eA
      have ok' := ok1.after memA w (own' w ho)
      exact kk _ _ _ _ _ _ qd ok' (s1.trans w.sub0) x1 r'
    · rintro n M' H' R' ⟨e3, qd⟩ w ho
      subst e3
      have ok' := ok1.after memA w (own' w ho)
      exact ⟨n, E, M1, R', A1, rfl, rfl, ok', qd⟩
  · exact q1.elim
theorem de_callW (Fn : FnOk X.prog X.w X.K X.mg X.base (L2N.CX X.prog X.w) k f fd ps (spG X.K xa (fW F))) (hr : Room k X.A) (hg : Gl X x) (hm : X.mg x = some (.ref f)) (hk : PySem.W.keepIn X.K (.ref f) = true) (hb : Binds X.K fd ps []) (tk : TakesD X g xa Wd)
    (ha : DA X g (e :: es) U) (hdb : (x == ("__debug__" : Str)) = false := by decide) (he : starEach (e :: es) X.env = (false, eval e X.env) :: starEach es X.env := by rfl) (hpl : (backTo pos (starEach es X.env)).any (·.1) = false := by rfl) :
    DE X g (.Call (.Name x p) (e :: es) [] pos) (dCallW F Wd U) :=
  PEm (pe_callS Fn hr hg hm hk hb (fun σ => L2N.passAt tk σ) ha hdb he hpl) fun _ _ _ h => lift_callW h
/-- where nothing is let out -/
theorem takesN : TakesD X g xa (fun _ _ => False) := takes0N.imp fun _ _ _ _ ⟨_, _, _, _, _, _, _, _, h⟩ => h.elim
/-- raise C('..') -/
def sRaise (Wd : Str → List DO → Prop) (n : Str) : TDS := fun _ _ M => Wd n M
theorem ds_raise {n : Str} {e : Expr} {t : L2.St → Hp → XK → Prop} (hc : X.calm = true) (tk : TakesD X g xa Wd) (hm : L2N.PMk X e t) (ht : ∀ σ H Q, Q (.ref (xa n)) none H → t σ H Q) : DS X g (.Raise (some e) none pos) (sRaise Wd n) :=
  PSm (L2N.ps_raise hc tk hm) fun D σ H ⟨E, M, R, A, De, ok, h, _⟩ => ht σ H _ ⟨n, E, M, R, A, rfl, rfl, ok, h⟩
end
end DL

end
section
set_option maxRecDepth 10000
/-! Defs by name. -/
namespace DL
open PySem L2 PyProof.Rows
/-- a def as the top has left it -/
structure DefAt (K : PySem.W.Frag) (mg : Str → Option Value) (x : Str) (st : Stmt) (ps : List Str) : Prop where
  ex : ∃ (f : Addr) (fd : FuncData), mg x = some (.ref f) ∧ L2.Fun K x x st f fd ∧ Binds K fd ps []
/-- it keeps its promise -/
structure DefOk (P : Program) (w : World) (K : PySem.W.Frag) (mg : Str → Option Value) (base : Heap) (xa : Str → Addr) (x : Str) (k : Nat) (ps : List Str) (F : FSp) : Prop where
  ex : ∃ (f : Addr) (fd : FuncData), mg x = some (.ref f) ∧ PySem.W.keepIn K (.ref f) = true ∧ Binds K fd ps [] ∧ FnOk P w K mg base (L2N.CX P w) k f fd ps (spG K xa F) ∧ ∃ o, K.lookup f = some o ∧ o.data = .func fd
abbrev cxD (P : Program) (w : World) (K : PySem.W.Frag) (mg : Str → Option Value) (base : Heap) (N : List Str) (x : Str) (st : Stmt) (f : Addr) (cdv : Value) (A : Around) (outer : List Env) (s : Shared) (H : Hp) (E : XK) : Cx :=
  cxOf (L2N.CX P w) P w K mg base N x (defScope st) f cdv A outer s H E
section
variable {P : Program} {w : World} {K : PySem.W.Frag} {mg : Str → Option Value} {base : Heap} {xa : Str → Addr} {x : Str} {st : Stmt} {N ps : List Str} {k : Nat} {F : FSp}
theorem DefAt.dl {ret : Nat → (Val → List DO → Prop) → Val → List DO → Prop} (h : DefAt K mg x st ps) (hret : RetOk ret) (S : FnScope N ps (defScope st)) (len : ∀ args M Q E, F args M Q E → args.length = ps.length)
    (body : ∀ (f : Addr) (cdv : Value) (A : Around) (outer : List Env) (s : Shared) (H : Hp) (E : XK) (g : Gh), Room k (cxD P w K mg base N x st f cdv A outer s H E).A →
      ∃ T : (Str → List DO → Prop) → TDS, (∀ Wd, TakesD (cxD P w K mg base N x st f cdv A outer s H E) g xa Wd → DSs (cxD P w K mg base N x st f cdv A outer s H E) g (defBody st) (T Wd)) ∧
        ∀ args M Qd Ed, F args M Qd Ed → T (fun n M' => Ed n (M'.take M.length)) { nx := fun _ M' => Qd (.d .non) (M'.take M.length), rt := ret M.length Qd } (startD N.length args) M) : DefOk P w K mg base xa x (k + 1) ps F := by
  obtain ⟨f, fd, h1, h2, h3⟩ := h.ex
  exact ⟨f, fd, h1, h2.kp, h3, Fun.dl hret h2 S len fun cdv A outer s H E g hr => body f cdv A outer s H E g hr, by
    obtain ⟨oc, od, kV, doc, pm, an, cdv, ct, osl, e, lk, _⟩ := h2.ex
    exact ⟨_, lk, by rw [e]⟩⟩
theorem DefOk.mono {j : Nat} (h : DefOk P w K mg base xa x j ps F) (hj : j ≤ k) : DefOk P w K mg base xa x k ps F := by
  obtain ⟨f, fd, h1, h2, h3, h4, h5⟩ := h.ex
  exact ⟨f, fd, h1, h2, h3, h4.mono hj, h5⟩
end
section
variable {X : Cx} {g : Gh} {k j : Nat} {ps : List Str} {xa : Str → Addr} {F : PSp} {Wd : Str → List DO → Prop} {x : Str} {p pos : Pos} {e : Expr} {es : List Expr} {U : TDA}
theorem dcall (D : DefOk X.prog X.w X.K X.mg X.base xa x j ps (fP F)) (hr : Room k X.A) (hj : j ≤ k) (tk : TakesD X g xa Wd) (ha : DA X g (e :: es) U) (hg : Gl X x := by rfl) (hdb : (x == ("__debug__" : Str)) = false := by decide)
    (he : starEach (e :: es) X.env = (false, eval e X.env) :: starEach es X.env := by rfl) (hpl : (backTo pos (starEach es X.env)).any (·.1) = false := by rfl) :
    DE X g (.Call (.Name x p) (e :: es) [] pos) (dCall F Wd U) := by
  obtain ⟨f, fd, h1, h2, h3, h4, _⟩ := D.ex
  exact de_call h4 (hr.mono hj) hg h1 h2 h3 tk ha hdb he hpl
theorem dcallW (D : DefOk X.prog X.w X.K X.mg X.base xa x j ps (fW F)) (hr : Room k X.A) (hj : j ≤ k) (tk : TakesD X g xa Wd) (ha : DA X g (e :: es) U) (hg : Gl X x := by rfl) (hdb : (x == ("__debug__" : Str)) = false := by decide)
    (he : starEach (e :: es) X.env = (false, eval e X.env) :: starEach es X.env := by rfl) (hpl : (backTo pos (starEach es X.env)).any (·.1) = false := by rfl) :
    DE X g (.Call (.Name x p) (e :: es) [] pos) (dCallW F Wd U) := by
  obtain ⟨f, fd, h1, h2, h3, h4, _⟩ := D.ex
  exact de_callW h4 (hr.mono hj) hg h1 h2 h3 tk ha hdb he hpl
theorem dcallN {G : FSp} (D : DefOk X.prog X.w X.K X.mg X.base xa x j ps G) (hr : Room k X.A) (hj : j ≤ k) (tk : TakesD X g xa Wd) (ha : DA X g (e :: es) U) (hg : Gl X x := by rfl) (hdb : (x == ("__debug__" : Str)) = false := by decide)
    (he : starEach (e :: es) X.env = (false, eval e X.env) :: starEach es X.env := by rfl) (hpl : (backTo pos (starEach es X.env)).any (·.1) = false := by rfl) :
    DE X g (.Call (.Name x p) (e :: es) [] pos) (dCallN G Wd U) := by
  obtain ⟨f, fd, h1, h2, h3, h4, _⟩ := D.ex
  exact de_callN h4 (hr.mono hj) hg h1 h2 h3 tk ha hdb he hpl
theorem dv (i : Nat) {x : Str} {pos : Pos} (hN : X.N[i]? = some x := by rfl) (hv : Vis X.env.scope x := by first | exact Or.inl rfl | exact Or.inr (Or.inl rfl) | exact Or.inr (Or.inr rfl)) (hd : (x == ("__debug__" : Str)) = false := by decide)
    (hcd : (x == ("__classdict__" : Str)) = false := by decide) : DE X g (.Name x pos) (dVar i) := de_var hN hv hd hcd
end
end DL

end
section
set_option maxRecDepth 10000
/-! Objects that change: methods, stores. -/
namespace DL
open PySem L2 PyProof.Rows
/-! ### methods that change an object -/
abbrev RDM := DO → List D → (D → DO → Prop) → Prop
structure RM (K : PySem.W.Frag) (r : V → List V → Hp → VK → Prop) (dr : RDM) : Prop where
  run : ∀ {g : Gh} {E : Sl} {M : List DO} {σ : L2.St} {H R : Hp} {A : List (List Addr)} {j : Nat} {a : Addr} {l : List Addr} {o : DO} {ds : List D} {xs : List V} {Qd : D → DO → Prop} {Q : VK}, Ok K g E M σ H R A → A[j]? = some (a :: l) → Own K R H (a :: l) o → RepL K R ds xs → dr o ds Qd →
    (∀ d o' z H' R', Qd d o' → Ok K g E (M.set j o') σ H' R' A → Sub R R' → Rep K R' d z → Q z H') → r (.ref a) xs H Q
def isLst : DO → Bool | .lst _ => true | _ => false
def isDic : DO → Bool | .dk _ => true | .dt _ => true | _ => false
def dMeth (ty : DO → Bool) (dr : RDM) (T : TD) (U : TDA) : TD := fun E M Q => T E M fun v M1 => match v with
  | .mu j => (oq M1[j]? fun o => ty o = true) ∧ U E M1 fun vs M2 => oq M2[j]? fun o => oq (dsV vs) fun ds => dr o ds fun d o' => Q (.d d) (M2.set j o')
  | _ => False
section
variable {X : Cx} {g : Gh} {o e : Expr} {es : List Expr} {T : TD} {U : TDA} {r : V → List V → Hp → VK → Prop} {dr : RDM} {ty : DO → Bool} {tn : String} {pos : Pos}
theorem lift_meth (rm : RM X.K r dr) (hty : ∀ {H R : Hp} {a : Addr} {l : List Addr} {o : DO}, Own X.K R H (a :: l) o → ty o = true → tyV X.K tn (.ref a) H) {σ : L2.St} {H : Hp} {Q : VK} (h : lift X.K g (dMeth ty dr T U) σ H Q) :
    tBM X.K tn r (lift X.K g T) (liftA X.K g U) σ H Q := by
  obtain ⟨E, M, R, A, Qd, ok, h, kk⟩ := h
  refine ⟨E, M, R, A, _, ok, h, fun v M1 x H1 R1 A1 q1 ok1 s1 x1 r1 => ?_⟩
  split at q1
  · rename_i j
    obtain ⟨q0, q1⟩ := q1
    obtain ⟨o1, e1, t1⟩ := oq_elim q0
    obtain ⟨a, l, ea, ex⟩ := r1
    subst ex
    obtain ⟨l', e2, w2⟩ := ok1.obj.get e1
    rw [ea] at e2
    have e2 := Option.some.inj e2
    subst e2
    refine ⟨hty w2 t1, E, M1, R1, A1, _, ok1, q1, fun vs M2 xs H2 R2 A2 q2 ok2 s2 x2 r2 => ?_⟩
    obtain ⟨o2, e3, q2⟩ := oq_elim q2
    obtain ⟨ds, e4, q2⟩ := oq_elim q2
    obtain ⟨l3, e5, w3⟩ := ok2.obj.get e3
    have ea2 := x2 _ _ ea
    rw [ea2] at e5
    have e5 := Option.some.inj e5
    subst e5
    exact rm.run ok2 ea2 w3 (dsV_rep e4 r2) q2 fun d o' z H' R' qd ok' s' r' => kk _ _ _ _ _ _ qd ok' ((s1.trans s2).trans s') (x1.trans x2) r'
  · exact q1.elim
theorem lst_ty {K : PySem.W.Frag} {H R : Hp} {a : Addr} {l : List Addr} {o : DO} (w : Own K R H (a :: l) o) (h : isLst o = true) : tyV K "list" (.ref a) H := by
  cases o <;> simp [isLst] at h
  obtain ⟨b, vs, e, h1, _⟩ := w
  injection e with e1 e2
  subst e1
  exact .inl ⟨rfl, vs, .of h1⟩
theorem dic_ty {K : PySem.W.Frag} {H R : Hp} {a : Addr} {l : List Addr} {o : DO} (w : Own K R H (a :: l) o) (h : isDic o = true) : tyV K "dict" (.ref a) H := by
  cases o <;> simp [isDic] at h
  · obtain ⟨b, vs, e, h1, _⟩ := w
    injection e with e1 e2
    subst e1
    exact .inr (.inr (.inl ⟨rfl, .inl ⟨vs, h1⟩⟩))
  · obtain ⟨b, vs, e, h1, _⟩ := w
    injection e with e1 e2
    subst e1
    exact .inr (.inr (.inl ⟨rfl, .inr ⟨vs, h1⟩⟩))
end
def rAppendD : RDM := fun o ds Q => match o, ds with | .lst xs, [y] => xs.length < sizeLine ∧ Q .non (.lst (xs ++ [y])) | _, _ => False
def rPopD : RDM := fun o ds Q => match o, ds with | .lst xs, [.int i] => -(2 ^ 63) ≤ i ∧ i < 2 ^ 63 ∧ oq (ixN xs.length i) fun k => oq xs[k]? fun y => Q y (.lst (xs.eraseIdx k)) | _, _ => False
def rInsD : RDM := fun o ds Q => match o, ds with | .lst xs, [.int i, y] => (xs.length < sizeLine ∧ 0 ≤ i ∧ i < 2 ^ 63) ∧ Q .non (.lst (xs.take i.toNat ++ [y] ++ xs.drop i.toNat)) | _, _ => False
def rExtD : RDM := fun o ds Q => match o, ds with | .lst xs, [.lst ys] => xs.length + ys.length ≤ sizeLine ∧ Q .non (.lst (xs ++ ys)) | _, _ => False
section
variable {K : PySem.W.Frag}
theorem rm_append : RM K rAppend rAppendD := by
  refine ⟨fun {g E M σ H R A j a l o ds xs Qd Q} ok hj w rs h k => ?_⟩
  unfold rAppendD at h
  split at h
  · rename_i us y
    obtain ⟨b, vs, e, h1, h2⟩ := w
    injection e with e1 e2
    subst e1 e2
    obtain ⟨v, r, e3, r1, r2⟩ := rs
    have r2 : r = [] := r2
    subst e3 r2
    exact ⟨a, vs, v, rfl, rfl, h1, by rw [← h2.length]; exact h.1, k _ _ _ _ R h.2 (ok.put hj List.mem_cons_self ⟨a, _, rfl, upd_same, h2.app ⟨v, [], rfl, r1, rfl⟩⟩) (Sub.refl _) rfl⟩
  · exact h.elim
theorem rm_pop : RM K rPopAt rPopD := by
  refine ⟨fun {g E M σ H R A j a l o ds xs Qd Q} ok hj w rs h k => ?_⟩
  unfold rPopD at h
  split at h
  · rename_i us i
    obtain ⟨b, vs, e, h1, h2⟩ := w
    injection e with e1 e2
    subst e1 e2
    obtain ⟨v, r, e3, r1, r2⟩ := rs
    have r2 : r = [] := r2
    have r1 : v = .int i := r1
    subst e3 r2 r1
    obtain ⟨i1, i2, h⟩ := h
    obtain ⟨n, en, h⟩ := oq_elim h
    obtain ⟨y, ey, h⟩ := oq_elim h
    obtain ⟨z, ez, rz⟩ := h2.get ey
    exact ⟨a, vs, i, n, z, rfl, rfl, h1, i1, i2, by rw [← h2.length]; exact (ixN_seq en).1, ez, k _ _ _ _ R h (ok.put hj List.mem_cons_self ⟨a, _, rfl, upd_same, h2.erase n⟩) (Sub.refl _) rz⟩
  · exact h.elim
theorem rm_insert : RM K (fun x vs H Q => ∃ (l : Addr) (xs : List V) (i : Int) (y : V), x = .ref l ∧ vs = [.int i, y] ∧ H l = some (.lst xs) ∧ xs.length < sizeLine ∧ 0 ≤ i ∧ i < 2 ^ 63 ∧ Q .non (upd H l (.lst (xs.take i.toNat ++ [y] ++ xs.drop i.toNat)))) rInsD := by
  refine ⟨fun {g E M σ H R A j a l o ds xs Qd Q} ok hj w rs h k => ?_⟩
  unfold rInsD at h
  split at h
  · rename_i us i y
    obtain ⟨b, vs, e, h1, h2⟩ := w
    injection e with e1 e2
    subst e1 e2
    obtain ⟨v, r, e3, r1, v2, r2, e4, r3, r4⟩ := rs
    have r4 : r2 = [] := r4
    have r1 : v = .int i := r1
    subst e3 e4 r4 r1
    exact ⟨a, vs, i, v2, rfl, rfl, h1, by rw [← h2.length]; exact h.1.1, h.1.2.1, h.1.2.2, k _ _ _ _ R h.2 (ok.put hj List.mem_cons_self ⟨a, _, rfl, upd_same, ((h2.take i.toNat).app (RepL.cons r3 RepL.nil)).app (h2.drop i.toNat)⟩) (Sub.refl _) rfl⟩
  · exact h.elim
theorem rm_extend : RM K rExtend rExtD := by
  refine ⟨fun {g E M σ H R A j a l o ds xs Qd Q} ok hj w rs h k => ?_⟩
  unfold rExtD at h
  split at h
  · rename_i us ys
    obtain ⟨b, vs, e, h1, h2⟩ := w
    injection e with e1 e2
    subst e1 e2
    obtain ⟨v, r, e3, ⟨p, ws, ep, hp, rp⟩, r2⟩ := rs
    have r2 : r = [] := r2
    subst e3 r2 ep
    exact ⟨a, p, vs, ws, rfl, rfl, h1, ok.sub _ _ hp, by rw [← h2.length, ← rp.length]; exact h.1, k _ _ _ _ R h.2 (ok.put hj List.mem_cons_self ⟨a, _, rfl, upd_same, h2.app rp⟩) (Sub.refl _) rfl⟩
  · exact h.elim
end
section
variable {X : Cx} {g : Gh} {o e : Expr} {es : List Expr} {T : TD} {U : TDA} {apos pos : Pos}
theorem de_append (ho : DE X g o T) (ha : DA X g (e :: es) U) (hbase : attributeBase o "append" X.env (eval o X.env) = eval o X.env := by rfl)
    (hfew : ((backTo pos (starEach (e :: es) X.env)).all (fun x => !x.1) && (backToKw pos (keywordEach [] X.env)).all (fun x => x.1.isSome)
      && decide ((e :: es).length + ([] : List Keyword).length + (if ([] : List Keyword).isEmpty then 0 else 1) < 30)) = true := by rfl)
    (hline : (apos.endLine == pos.line) = true := by rfl) (hs : starEach (e :: es) X.env = (false, eval e X.env) :: starEach es X.env := by rfl) (hplain : (backTo pos (starEach es X.env)).any (·.1) = false := by rfl) :
    DE X g (.Call (.Attribute o "append" apos) (e :: es) [] pos) (dMeth isLst rAppendD T U) :=
  PEm (pe_bm PySem.F.plainAttrs_list PySem.F.slot_list_append PySem.F.type_list_append mt_append ho ha hbase hfew hline hs hplain) fun σ H Q h => lift_meth rm_append lst_ty h
theorem de_pop (ho : DE X g o T) (ha : DA X g (e :: es) U) (hbase : attributeBase o "pop" X.env (eval o X.env) = eval o X.env := by rfl)
    (hfew : ((backTo pos (starEach (e :: es) X.env)).all (fun x => !x.1) && (backToKw pos (keywordEach [] X.env)).all (fun x => x.1.isSome)
      && decide ((e :: es).length + ([] : List Keyword).length + (if ([] : List Keyword).isEmpty then 0 else 1) < 30)) = true := by rfl)
    (hline : (apos.endLine == pos.line) = true := by rfl) (hs : starEach (e :: es) X.env = (false, eval e X.env) :: starEach es X.env := by rfl) (hplain : (backTo pos (starEach es X.env)).any (·.1) = false := by rfl) :
    DE X g (.Call (.Attribute o "pop" apos) (e :: es) [] pos) (dMeth isLst rPopD T U) :=
  PEm (pe_bm PySem.F.plainAttrs_list PySem.F.slot_list_pop PySem.F.type_list_pop mt_popAt ho ha hbase hfew hline hs hplain) fun σ H Q h => lift_meth rm_pop lst_ty h
theorem de_insert (ho : DE X g o T) (ha : DA X g (e :: es) U) (hbase : attributeBase o "insert" X.env (eval o X.env) = eval o X.env := by rfl)
    (hfew : ((backTo pos (starEach (e :: es) X.env)).all (fun x => !x.1) && (backToKw pos (keywordEach [] X.env)).all (fun x => x.1.isSome)
      && decide ((e :: es).length + ([] : List Keyword).length + (if ([] : List Keyword).isEmpty then 0 else 1) < 30)) = true := by rfl)
    (hline : (apos.endLine == pos.line) = true := by rfl) (hs : starEach (e :: es) X.env = (false, eval e X.env) :: starEach es X.env := by rfl) (hplain : (backTo pos (starEach es X.env)).any (·.1) = false := by rfl) :
    DE X g (.Call (.Attribute o "insert" apos) (e :: es) [] pos) (dMeth isLst rInsD T U) :=
  PEm (pe_bm PySem.F.plainAttrs_list PySem.F.slot_list_insert PySem.F.type_list_insert mt_insert ho ha hbase hfew hline hs hplain) fun σ H Q h => lift_meth rm_insert lst_ty h
theorem de_extend (ho : DE X g o T) (ha : DA X g (e :: es) U) (hbase : attributeBase o "extend" X.env (eval o X.env) = eval o X.env := by rfl)
    (hfew : ((backTo pos (starEach (e :: es) X.env)).all (fun x => !x.1) && (backToKw pos (keywordEach [] X.env)).all (fun x => x.1.isSome)
      && decide ((e :: es).length + ([] : List Keyword).length + (if ([] : List Keyword).isEmpty then 0 else 1) < 30)) = true := by rfl)
    (hline : (apos.endLine == pos.line) = true := by rfl) (hs : starEach (e :: es) X.env = (false, eval e X.env) :: starEach es X.env := by rfl) (hplain : (backTo pos (starEach es X.env)).any (·.1) = false := by rfl) :
    DE X g (.Call (.Attribute o "extend" apos) (e :: es) [] pos) (dMeth isLst rExtD T U) :=
  PEm (pe_bm PySem.F.plainAttrs_list PySem.F.slot_list_extend PySem.F.type_list_extend mt_extend ho ha hbase hfew hline hs hplain) fun σ H Q h => lift_meth rm_extend lst_ty h
end

/-! ### o[i] = v -/
def storeD : DO → D → D → Option DO
  | .lst xs, .int i, v => match ixN xs.length i with | some k => some (.lst (xs.set k v)) | none => none
  | .dk kvs, k, v => match keyD k with | some k => if kvs.length < sizeLine then some (.dk (putD kvs k v)) else none | none => none
  | .dt kvs, .tup ks, v => match keysD ks with | some k => if kvs.length < sizeLine then some (.dt (putD kvs k v)) else none | none => none
  | _, _, _ => none
def gStore (To Ti : TD) : TDG := fun v E M Q => To E M fun ov M1 => Ti E M1 fun iv M2 => match v, ov, iv with
  | .d v, .mu j, .d i => oq M2[j]? fun o => oq (storeD o i v) fun o' => Q E (M2.set j o')
  | _, _, _ => False
section
variable {X : Cx} {g : Gh} {o i : Expr} {To Ti : TD} {pos : Pos}
theorem set_all (hu : X.A.units + 64 < cLine) : PSet X (fun o i v H Q => rSetL o i v H Q ∨ rSetD o i v H Q) := by
  intro pins s σ H o i v ov iv u Q I ro ri rv h
  rcases h with h | h
  · exact set_list pins s σ H o i v ov iv u Q I ro ri rv h
  · exact set_dict (by omega) pins s σ H o i v ov iv u Q I ro ri rv h
theorem dg_store (hu : X.A.units + 64 < cLine) (ho : DE X g o To) (hi : DE X g i Ti)
    (ha : ∀ v, assign (.Subscript o i pos) X.env v = (do
      let ov ← holding [v] (eval o X.env)
      let iv ← holding [v, ov] (eval i X.env)
      standAt pos
      holding [v, ov, iv] (setItem ov iv v)
      release [v, ov, iv] []) := by intro _; rfl) : DG X g (.Subscript o i pos) [] (gStore To Ti) :=
  PGm (pg_sub ho hi (set_all hu) ha) fun x σ H Q ⟨E, M, R, A, Qd, v, ok, r, h, k⟩ => by
    refine ⟨E, M, R, A, _, ok, h, fun ov M1 y H1 R1 A1 q1 ok1 s1 x1 r1 => ⟨E, M1, R1, A1, _, ok1, q1, fun iv M2 z H2 R2 A2 q2 ok2 s2 x2 r2 => ?_⟩⟩
    split at q2
    · rename_i d j i
      obtain ⟨o, e1, q3⟩ := oq_elim q2
      obtain ⟨o', e2, q4⟩ := oq_elim q3
      obtain ⟨a, l, ea, ey⟩ := r1.mono s2 x2
      subst ey
      obtain ⟨l', e3, w⟩ := ok2.obj.get e1
      have e3' := Option.some.inj (ea.symm.trans e3)
      subst e3'
      have rv : Rep X.K R2 d x := (r.mono s1 x1).mono s2 x2
      have fin : ∀ {u : HO}, Own X.K R2 (upd H2 a u) (a :: l) o' → Q σ (upd H2 a u) := fun {u} w' => k _ _ _ _ _ _ q4 (SetOnly.refl _ _) (ok2.put ea List.mem_cons_self w') (s1.trans s2) (x1.trans x2)
      unfold storeD at e2
      split at e2
      · rename_i xs n
        obtain ⟨b, vs, e, h1, h2⟩ := w
        injection e with e4 e5
        subst e4 e5
        split at e2
        · rename_i kk ek
          cases e2
          exact .inl ⟨a, vs, n, kk, rfl, r2, h1, by rw [← h2.length]; exact ek, fin ⟨a, _, rfl, upd_same, h2.set rv kk⟩⟩
        · cases e2
      · rename_i kvs ix
        obtain ⟨b, vs, e, h1, h2⟩ := w
        injection e with e4 e5
        subst e4 e5
        split at e2
        · rename_i kk ek
          split at e2
          · rename_i hl
            cases e2
            have ez := keyD_rep ek r2
            subst ez
            exact .inr ⟨a, _, rfl, .k h1 (by rw [← h2.length]; exact hl), fin ⟨a, _, rfl, upd_same, h2.put rv⟩⟩
          · cases e2
        · cases e2
      · rename_i kvs ks
        obtain ⟨b, vs, e, h1, h2⟩ := w
        injection e with e4 e5
        subst e4 e5
        split at e2
        · rename_i kk ek
          split at e2
          · rename_i hl
            cases e2
            obtain ⟨p, us, ez, hp, rp⟩ := r2
            subst ez
            have := keysD_rep ek rp
            subst this
            exact .inr ⟨a, _, rfl, .t h1 (ok2.sub _ _ hp) (by rw [← h2.length]; exact hl), fin ⟨a, _, rfl, upd_same, h2.put rv⟩⟩
          · cases e2
        · cases e2
      · cases e2
    · exact q2.elim
end
end DL

end
section
set_option maxRecDepth 10000
/-! Tests, walks over dicts, locks. -/
namespace DL
open PySem L2 PyProof.Rows
section
variable {X : Cx} {g : Gh} {pos : Pos} {a e : Expr}
theorem dt_bool {T : TDT} (h : DW X g e T) : DT X g e T := ⟨fun pins s σ H Q I q => h.run (eval e X.env) pins s σ H Q I q⟩
/-- -e -/
def dNeg (T : TD) : TD := fun E M Q => T E M fun v M1 => match v with | .d (.int i) => Q (.d (.int (-i))) M1 | _ => False
theorem de_neg {T : TD} (h : DE X g a T) : DE X g (.UnaryOp .USub a pos) (dNeg T) :=
  PEm (pe_un un_neg h) fun σ H Q ⟨E, M, R, A, Qd, ok, h, k⟩ => by
    refine ⟨E, M, R, A, _, ok, h, fun v M1 x H1 R1 A1 q1 ok1 s1 x1 r1 => ?_⟩
    split at q1
    · rename_i i
      exact ⟨i, r1, k _ _ _ _ _ _ q1 ok1 s1 x1 rfl⟩
    · exact q1.elim
end
/-- is, is not of truths -/
def dIsB : RD2 := fun a b Q => match a, b with | .bl i, .bl j => Q (.bl (decide (i = j))) | _, _ => False
def dNotB : RD2 := fun a b Q => match a, b with | .bl i, .bl j => Q (.bl (!decide (i = j))) | _, _ => False
theorem ro_isB {K : PySem.W.Frag} : RO K (fun x y H Q => ∃ a b, x = .bl a ∧ y = .bl b ∧ Q (.bl (decide (a = b))) H) dIsB := by
  refine ⟨fun {g E M σ H R A a b x y Qd Q} ok ra rb h k => ?_⟩
  unfold dIsB at h
  split at h
  · exact ⟨_, _, ra, rb, fin_same ok (d := .bl _) rfl h k⟩
  · exact h.elim
theorem ro_notB {K : PySem.W.Frag} : RO K (fun x y H Q => ∃ a b, x = .bl a ∧ y = .bl b ∧ Q (.bl (!decide (a = b))) H) dNotB := by
  refine ⟨fun {g E M σ H R A a b x y Qd Q} ok ra rb h k => ?_⟩
  unfold dNotB at h
  split at h
  · exact ⟨_, _, ra, rb, fin_same ok (d := .bl _) rfl h k⟩
  · exact h.elim

/-! ### for k in d, d.keys(), d.values(), d.items() -/
def kD : Key → D | .inl i => .int i | .inr s => .str s
def kDs (k : List Key) : D := .tup (k.map kD)
theorem kD_rep {K : PySem.W.Frag} {R : Hp} (k : Key) : Rep K R (kD k) (kV k) := by cases k <;> rfl
theorem kDs_rep {K : PySem.W.Frag} {R : Hp} : ∀ k : List Key, RepL K R (k.map kD) (k.map kV)
  | [] => rfl
  | k :: ks => ⟨_, _, rfl, kD_rep k, kDs_rep ks⟩
theorem RepK.get {K : PySem.W.Frag} {R : Hp} : ∀ {ds : List (Key × D)} {vs : List (Key × V)} {i : Nat} {kd : Key × D}, RepK K R ds vs → ds[i]? = some kd → ∃ v, vs[i]? = some (kd.1, v) ∧ Rep K R kd.2 v
  | [], _, i, d, h, e => by simp at e
  | (k0, d0) :: ds, vs, 0, d, h, e => by
    obtain ⟨k, v, r, e', ⟨h0, h1⟩, h2⟩ := h
    subst e'
    simp at e
    subst e
    exact ⟨v, by rw [h0]; rfl, h1⟩
  | x :: ds, vs, i + 1, d, h, e => by
    obtain ⟨k, v, r, e', h1, h2⟩ := h
    subst e'
    obtain ⟨w, e1, e2⟩ := RepK.get h2 (by simpa using e)
    exact ⟨w, by simpa using e1, e2⟩
theorem RepT.get {K : PySem.W.Frag} {R : Hp} : ∀ {ds : List (List Key × D)} {vs : List (List Key × V)} {i : Nat} {kd : List Key × D}, RepT K R ds vs → ds[i]? = some kd → ∃ v, vs[i]? = some (kd.1, v) ∧ Rep K R kd.2 v
  | [], _, i, d, h, e => by simp at e
  | (k0, d0) :: ds, vs, 0, d, h, e => by
    obtain ⟨k, v, r, e', ⟨h0, h1⟩, h2⟩ := h
    subst e'
    simp at e
    subst e
    exact ⟨v, by rw [h0]; rfl, h1⟩
  | x :: ds, vs, i + 1, d, h, e => by
    obtain ⟨k, v, r, e', h1, h2⟩ := h
    subst e'
    obtain ⟨w, e1, e2⟩ := RepT.get h2 (by simpa using e)
    exact ⟨w, by simpa using e1, e2⟩
/-- a locked dict stands at p all along -/
structure LkK (K : PySem.W.Frag) (R : Hp) (A : List (List Addr)) (Kp : List DO → Prop) (p : Addr) (o : Obj) (vs : List (Key × V)) (kvs : List (Key × D)) : Prop where
  run : ∀ {g : Gh} {E : Sl} {M : List DO} {σ : L2.St} {Hx Rx : Hp} {Ax : List (List Addr)}, Ok K g E M σ Hx Rx Ax → Sub R Rx → ExtA A Ax → Kp M → Hx p = some (.frz o (.dK vs)) ∧ RepK K Rx kvs vs
structure LkT (K : PySem.W.Frag) (R : Hp) (A : List (List Addr)) (Kp : List DO → Prop) (p : Addr) (o : Obj) (vs : List (List Key × V)) (kvs : List (List Key × D)) : Prop where
  run : ∀ {g : Gh} {E : Sl} {M : List DO} {σ : L2.St} {Hx Rx : Hp} {Ax : List (List Addr)}, Ok K g E M σ Hx Rx Ax → Sub R Rx → ExtA A Ax → Kp M → Hx p = some (.frz o (.dT vs)) ∧ RepT K Rx kvs vs
section
variable {K : PySem.W.Frag} {R : Hp} {A : List (List Addr)} {Kp : List DO → Prop} {p : Addr} {l : List Addr} {o : Obj} {vs : List (Key × V)} {ws : List (List Key × V)} {kvs : List (Key × D)} {kts : List (List Key × D)}
theorem lkK_d (h : R p = some (.frz o (.dK vs))) (r : RepK K R kvs vs) : LkK K R A noK p o vs kvs := ⟨fun ok s _ _ => ⟨ok.sub _ _ (s _ _ h), RepK.mono s _ r⟩⟩
theorem lkT_d (h : R p = some (.frz o (.dT ws))) (r : RepT K R kts ws) : LkT K R A noK p o ws kts := ⟨fun ok s _ _ => ⟨ok.sub _ _ (s _ _ h), RepT.mono s _ r⟩⟩
theorem lkK_mu {j : Nat} {tok : Obj × List (Key × V)} (h : A[j]? = some (p :: l)) : LkK K R A (fun M => M[j]? = some (.lk kvs tok)) p tok.1 tok.2 kvs := ⟨fun ok s x kp => by
  obtain ⟨l', e2, b, e3, h1, r⟩ := ok.obj.get kp
  have e4 := Option.some.inj ((x _ _ h).symm.trans e2)
  rw [e3] at e4
  injection e4 with e4 _
  subst e4
  exact ⟨h1, r⟩⟩
theorem lkT_mu {j : Nat} {tok : Obj × List (List Key × V)} (h : A[j]? = some (p :: l)) : LkT K R A (fun M => M[j]? = some (.lt kts tok)) p tok.1 tok.2 kts := ⟨fun ok s x kp => by
  obtain ⟨l', e2, b, e3, h1, r⟩ := ok.obj.get kp
  have e4 := Option.some.inj ((x _ _ h).symm.trans e2)
  rw [e3] at e4
  injection e4 with e4 _
  subst e4
  exact ⟨h1, r⟩⟩
theorem walk_keys (k : LkK K R A Kp p o vs kvs) : WalkD K (Itk p o vs) R A Kp (kvs.map fun kv => kD kv.1) where
  go := fun i d ok s x kp e => by
    obtain ⟨h1, r⟩ := k.run ok s x kp
    rw [List.getElem?_map] at e
    cases q : kvs[i]? with
    | none => rw [q] at e; cases e
    | some kv =>
      rw [q] at e
      cases e
      obtain ⟨v, e1, r1⟩ := r.get q
      refine ⟨⟨h1, (List.getElem?_eq_some_iff.mp e1).1⟩, fun x H2 y => ⟨_, .inl ⟨y.1, rfl⟩, ?_⟩⟩
      obtain ⟨k', v', e3, e4⟩ := y.2
      rw [e1] at e3
      cases e3
      subst e4
      exact kD_rep _
  stop := fun ok s x kp => by
    obtain ⟨h1, r⟩ := k.run ok s x kp
    exact ⟨h1, by rw [List.length_map, r.length]; exact Nat.le_refl _⟩
theorem walk_keysT (k : LkT K R A Kp p o ws kts) : WalkD K (Itkt p o ws) R A Kp (kts.map fun kv => kDs kv.1) where
  go := fun i d ok s x kp e => by
    obtain ⟨h1, r⟩ := k.run ok s x kp
    rw [List.getElem?_map] at e
    cases q : kts[i]? with
    | none => rw [q] at e; cases e
    | some kv =>
      rw [q] at e
      cases e
      obtain ⟨v, e1, r1⟩ := r.get q
      refine ⟨⟨h1, (List.getElem?_eq_some_iff.mp e1).1⟩, fun x H2 y => ?_⟩
      obtain ⟨k', v', a, e3, e4, e5⟩ := y.2
      rw [e1] at e3
      cases e3
      subst e4
      refine ⟨_, .inr (.inr ⟨y.1, a, _, e5, rfl⟩), ⟨a, _, rfl, upd_same, kDs_rep _⟩⟩
  stop := fun ok s x kp => by
    obtain ⟨h1, r⟩ := k.run ok s x kp
    exact ⟨h1, by rw [List.length_map, r.length]; exact Nat.le_refl _⟩
theorem walk_vals (k : LkK K R A Kp p o vs kvs) : WalkD K (Itd p o vs) R A Kp (kvs.map fun kv => kv.2) where
  go := fun i d ok s x kp e => by
    obtain ⟨h1, r⟩ := k.run ok s x kp
    rw [List.getElem?_map] at e
    cases q : kvs[i]? with
    | none => rw [q] at e; cases e
    | some kv =>
      rw [q] at e
      cases e
      obtain ⟨v, e1, r1⟩ := r.get q
      refine ⟨⟨h1, (List.getElem?_eq_some_iff.mp e1).1⟩, fun x H2 y => ⟨_, .inl ⟨y.1, rfl⟩, ?_⟩⟩
      obtain ⟨k', e3⟩ := y.2
      rw [e1] at e3
      cases e3
      exact r1
  stop := fun ok s x kp => by
    obtain ⟨h1, r⟩ := k.run ok s x kp
    exact ⟨h1, by rw [List.length_map, r.length]; exact Nat.le_refl _⟩
theorem walk_items (k : LkK K R A Kp p o vs kvs) : WalkD K (Iti p o vs) R A Kp (kvs.map fun kv => .tup [kD kv.1, kv.2]) where
  go := fun i d ok s x kp e => by
    obtain ⟨h1, r⟩ := k.run ok s x kp
    rw [List.getElem?_map] at e
    cases q : kvs[i]? with
    | none => rw [q] at e; cases e
    | some kv =>
      rw [q] at e
      cases e
      obtain ⟨v, e1, r1⟩ := r.get q
      refine ⟨⟨h1, (List.getElem?_eq_some_iff.mp e1).1⟩, fun x H2 y => ?_⟩
      obtain ⟨T, k', v', e3, e4, e5, e6⟩ := y
      rw [e1] at e3
      cases e3
      subst e4 e6
      have hR := ok.nR e5
      refine ⟨_, .inr (.inl ⟨T, _, e5, rfl, rfl⟩), ⟨T, _, rfl, upd_same, _, _, rfl, kD_rep _, _, _, rfl, Rep.mono (Sub.upd hR) _ r1, rfl⟩⟩
  stop := fun ok s x kp => by
    obtain ⟨h1, r⟩ := k.run ok s x kp
    exact ⟨h1, by rw [List.length_map, r.length]; exact Nat.le_refl _⟩
end
def iKeysD (T : TD) : TDI := fun E M Q => T E M fun v M1 => match v with
  | .d (.dk kvs) => Q (kvs.map fun kv => kD kv.1) noK M1
  | .d (.dt kvs) => Q (kvs.map fun kv => kDs kv.1) noK M1
  | .mu j => (match M1[j]? with | some (.lk kvs tok) => Q (kvs.map fun kv => kD kv.1) (fun M => M[j]? = some (.lk kvs tok)) M1 | some (.lt kvs tok) => Q (kvs.map fun kv => kDs kv.1) (fun M => M[j]? = some (.lt kvs tok)) M1 | _ => False)
  | _ => False
def iValsD (T : TD) : TDI := fun E M Q => T E M fun v M1 => match v with
  | .d (.dk kvs) => Q (kvs.map fun kv => kv.2) noK M1
  | .mu j => (match M1[j]? with | some (.lk kvs tok) => Q (kvs.map fun kv => kv.2) (fun M => M[j]? = some (.lk kvs tok)) M1 | _ => False)
  | _ => False
def iItemsD (T : TD) : TDI := fun E M Q => T E M fun v M1 => match v with
  | .d (.dk kvs) => Q (kvs.map fun kv => .tup [kD kv.1, kv.2]) noK M1
  | .mu j => (match M1[j]? with | some (.lk kvs tok) => Q (kvs.map fun kv => .tup [kD kv.1, kv.2]) (fun M => M[j]? = some (.lk kvs tok)) M1 | _ => False)
  | _ => False
section
variable {X : Cx} {g : Gh} {tg e : Expr} {T : TD} {apos pos : Pos}
theorem lk_of {K : PySem.W.Frag} {E : Sl} {M : List DO} {σ : L2.St} {H R : Hp} {A : List (List Addr)} {j : Nat} {kvs : List (Key × D)} {tok : Obj × List (Key × V)} {x : V} (ok : Ok K g E M σ H R A) (r : RepV K R A (.mu j) x) (e : M[j]? = some (.lk kvs tok)) :
    ∃ p, x = .ref p ∧ H p = some (.frz tok.1 (.dK tok.2)) ∧ LkK K R A (fun M => M[j]? = some (.lk kvs tok)) p tok.1 tok.2 kvs := by
  obtain ⟨p, l, ea, ex⟩ := r
  have k := lkK_mu (K := K) (R := R) (kvs := kvs) (tok := tok) ea
  exact ⟨p, ex, (k.run ok (Sub.refl _) (ExtA.refl _) e).1, k⟩
theorem lt_of {K : PySem.W.Frag} {E : Sl} {M : List DO} {σ : L2.St} {H R : Hp} {A : List (List Addr)} {j : Nat} {kvs : List (List Key × D)} {tok : Obj × List (List Key × V)} {x : V} (ok : Ok K g E M σ H R A) (r : RepV K R A (.mu j) x) (e : M[j]? = some (.lt kvs tok)) :
    ∃ p, x = .ref p ∧ H p = some (.frz tok.1 (.dT tok.2)) ∧ LkT K R A (fun M => M[j]? = some (.lt kvs tok)) p tok.1 tok.2 kvs := by
  obtain ⟨p, l, ea, ex⟩ := r
  have k := lkT_mu (K := K) (R := R) (kts := kvs) (tok := tok) ea
  exact ⟨p, ex, (k.run ok (Sub.refl _) (ExtA.refl _) e).1, k⟩
theorem di_keys (h : DE X g e T) : DI X g tg e (iKeysD T) :=
  PIm (pi_keys h) fun σ H Q ⟨E, M, R, A, Qd, ok, h, k⟩ => by
    refine ⟨E, M, R, A, _, ok, h, fun v M1 x H1 R1 A1 q1 ok1 s1 x1 r1 => ?_⟩
    split at q1
    · obtain ⟨p, vs, o, ex, h1, h2⟩ := r1
      exact ⟨p, o, ex, .inl ⟨vs, ok1.sub _ _ h1, k _ _ _ _ _ _ _ q1 ok1 s1 x1 (walk_keys (lkK_d h1 h2))⟩⟩
    · obtain ⟨p, vs, o, ex, h1, h2⟩ := r1
      exact ⟨p, o, ex, .inr ⟨vs, ok1.sub _ _ h1, k _ _ _ _ _ _ _ q1 ok1 s1 x1 (walk_keysT (lkT_d h1 h2))⟩⟩
    · split at q1
      · rename_i e1
        obtain ⟨p, ex, h1, h2⟩ := lk_of ok1 r1 e1
        exact ⟨p, _, ex, .inl ⟨_, h1, k _ _ _ _ _ _ _ q1 ok1 s1 x1 (walk_keys h2)⟩⟩
      · rename_i e1
        obtain ⟨p, ex, h1, h2⟩ := lt_of ok1 r1 e1
        exact ⟨p, _, ex, .inr ⟨_, h1, k _ _ _ _ _ _ _ q1 ok1 s1 x1 (walk_keysT h2)⟩⟩
      · exact q1.elim
    · exact q1.elim
theorem di_vals (h : DE X g e T) (hbase : attributeBase e "values" X.env (eval e X.env) = eval e X.env := by rfl) (hline : (apos.endLine == pos.line) = true := by rfl) : DI X g tg (.Call (.Attribute e "values" apos) [] [] pos) (iValsD T) :=
  PIm (pi_values h hbase hline) fun σ H Q ⟨E, M, R, A, Qd, ok, h, k⟩ => by
    refine ⟨E, M, R, A, _, ok, h, fun v M1 x H1 R1 A1 q1 ok1 s1 x1 r1 => ?_⟩
    split at q1
    · obtain ⟨p, vs, o, ex, h1, h2⟩ := r1
      exact ⟨p, o, vs, ex, ok1.sub _ _ h1, k _ _ _ _ _ _ _ q1 ok1 s1 x1 (walk_vals (lkK_d h1 h2))⟩
    · split at q1
      · rename_i e1
        obtain ⟨p, ex, h1, h2⟩ := lk_of ok1 r1 e1
        exact ⟨p, _, _, ex, h1, k _ _ _ _ _ _ _ q1 ok1 s1 x1 (walk_vals h2)⟩
      · exact q1.elim
    · exact q1.elim
theorem di_items {elts : List Expr} {kk : Nat} {tpos : Pos} (h : DE X g e T) (hbase : attributeBase e "items" X.env (eval e X.env) = eval e X.env := by rfl) (hline : (apos.endLine == pos.line) = true := by rfl) : DI X g (.Tuple elts kk tpos) (.Call (.Attribute e "items" apos) [] [] pos) (iItemsD T) :=
  PIm (pi_items h hbase hline) fun σ H Q ⟨E, M, R, A, Qd, ok, h, k⟩ => by
    refine ⟨E, M, R, A, _, ok, h, fun v M1 x H1 R1 A1 q1 ok1 s1 x1 r1 => ?_⟩
    split at q1
    · obtain ⟨p, vs, o, ex, h1, h2⟩ := r1
      exact ⟨p, o, vs, ex, ok1.sub _ _ h1, k _ _ _ _ _ _ _ q1 ok1 s1 x1 (walk_items (lkK_d h1 h2))⟩
    · split at q1
      · rename_i e1
        obtain ⟨p, ex, h1, h2⟩ := lk_of ok1 r1 e1
        exact ⟨p, _, _, ex, h1, k _ _ _ _ _ _ _ q1 ok1 s1 x1 (walk_items h2)⟩
      · exact q1.elim
    · exact q1.elim
end

/-! ### a dict locked while an expression runs, or for good -/
def dLock (i : Nat) (T : TD) : TD := fun E M Q => match get E i with
  | some (.mu j) => (match M[j]? with
    | some (.dk kvs) => ∀ tok, T E (M.set j (.lk kvs tok)) fun v M' => M'[j]? = some (.lk kvs tok) ∧ Q v (M'.set j (.dk kvs))
    | some (.dt kvs) => ∀ tok, T E (M.set j (.lt kvs tok)) fun v M' => M'[j]? = some (.lt kvs tok) ∧ Q v (M'.set j (.dt kvs))
    | _ => False)
  | _ => False
/-- the dict is locked for good -/
def dLockR (T : TD) : TD := fun E M Q => T E M fun v M' => match v with
  | .mu j => (match M'[j]? with
    | some (.dk kvs) => ∀ tok, Q (.mu j) (M'.set j (.lk kvs tok))
    | _ => False)
  | _ => False
theorem Ok.mem_ne {K : PySem.W.Frag} {g : Gh} {E : Sl} {M : List DO} {σ : L2.St} {H R : Hp} {A : List (List Addr)} (x : Ok K g E M σ H R A) {j : Nat} {a : Addr} (h : A[j]? = some [a]) : R a = none := x.nr _ (List.mem_of_getElem? h) a List.mem_cons_self
section
variable {X : Cx} {g : Gh} {e : Expr} {T : TD}
theorem de_lock {i : Nat} (h : DE X g e T) : DE X g e (dLock i T) :=
  PEm (pe_lock h) fun σ H Q ⟨E, M, R, A, Qd, ok, h, k⟩ => by
    unfold dLock at h
    split at h
    · rename_i j ei
      split at h
      · rename_i kvs em
        obtain ⟨l, ea, a, vs, el, h1, h2⟩ := ok.obj.get em
        subst el
        refine ⟨a, _, h1, True.intro, fun od => ⟨E, _, R, A, _, ok.put (d := .lk kvs (od, vs)) ea List.mem_cons_self ⟨a, rfl, upd_same, h2⟩, h (od, vs), fun v M' x H' R' A' q ok' s' x' r' => ?_⟩⟩
        obtain ⟨l', e2, b, e3, h3, h4⟩ := ok'.obj.get q.1
        have e4 := Option.some.inj ((x' _ _ ea).symm.trans e2)
        rw [e3] at e4
        injection e4 with e4 _
        subst e4
        exact ⟨h3, k _ _ _ _ _ _ q.2 (ok'.put (d := .dk kvs) (x' _ _ ea) List.mem_cons_self ⟨a, vs, rfl, upd_same, h4⟩) s' x' r'⟩
      · rename_i kvs em
        obtain ⟨l, ea, a, vs, el, h1, h2⟩ := ok.obj.get em
        subst el
        refine ⟨a, _, h1, True.intro, fun od => ⟨E, _, R, A, _, ok.put (d := .lt kvs (od, vs)) ea List.mem_cons_self ⟨a, rfl, upd_same, h2⟩, h (od, vs), fun v M' x H' R' A' q ok' s' x' r' => ?_⟩⟩
        obtain ⟨l', e2, b, e3, h3, h4⟩ := ok'.obj.get q.1
        have e4 := Option.some.inj ((x' _ _ ea).symm.trans e2)
        rw [e3] at e4
        injection e4 with e4 _
        subst e4
        exact ⟨h3, k _ _ _ _ _ _ q.2 (ok'.put (d := .dt kvs) (x' _ _ ea) List.mem_cons_self ⟨a, vs, rfl, upd_same, h4⟩) s' x' r'⟩
      · exact h.elim
    · exact h.elim
theorem de_lockR (h : DE X g e T) : DE X g e (dLockR T) :=
  PEm (pe_frz h) fun σ H Q ⟨E, M, R, A, Qd, ok, h, k⟩ => by
    refine ⟨E, M, R, A, _, ok, h, fun v M1 x H1 R1 A1 q1 ok1 s1 x1 r1 => ?_⟩
    split at q1
    · rename_i j
      split at q1
      · rename_i kvs em
        obtain ⟨l, ea, a, vs, el, h1, h2⟩ := ok1.obj.get em
        subst el
        obtain ⟨b, l', e4, e5⟩ := r1
        have e6 := Option.some.inj (ea.symm.trans e4)
        injection e6 with e6 _
        subst e6 e5
        exact ⟨a, _, rfl, h1, True.intro, fun od => k _ _ _ _ _ _ (q1 (od, vs)) (ok1.put (d := .lk kvs (od, vs)) ea List.mem_cons_self ⟨a, rfl, upd_same, h2⟩) s1 x1 ⟨a, _, e4, rfl⟩⟩
      · exact q1.elim
    · exact q1.elim
end
end DL

end
section
set_option maxRecDepth 10000
/-! <; what is to be shown of a def. -/
namespace DL
open PySem L2 PyProof.Rows
/-- < of ints, of texts, of data that are alike -/
def dLtA : RD2 := fun a b Q => match a, b with
  | .int i, .int j => Q (.bl (decide (i < j)))
  | .str i, .str j => Q (.bl (decide (i.cps.toList < j.cps.toList)))
  | a, b => dLtD a b Q
def rLtA (K : PySem.W.Frag) : R2 := fun x y H Q => rI0 (fun i j => .bl (decide (i < j))) x y H Q ∨ ((∃ i j, x = .str i ∧ y = .str j ∧ Q (.bl (decide (i.cps.toList < j.cps.toList))) H) ∨ rLtD K x y H Q)
theorem op_ltA {X : Cx} (hu : X.A.units + 64 < cLine) : OpR X (compareOp .Lt) (rLtA X.K) := op_lt.or (op_lt_str.or (op_ltD hu))
theorem ro_ltA {K : PySem.W.Frag} : RO K (rLtA K) dLtA := by
  refine ⟨fun {g E M σ H R A a b x y Qd Q} ok ra rb h k => ?_⟩
  unfold dLtA at h
  split at h
  · exact .inl (ro_lt.run ok ra rb h k)
  · exact .inr (.inl (ro_ltS.run ok ra rb h k))
  · exact .inr (.inr (ro_ltD.run ok ra rb h k))

/-! ### a def's reading at its promise -/
/-- what a def of data alone hands back -/
def rv (Q : D → Prop) : Val → List DO → Prop := fun v M => match v with
  | .d x => Q x
  | .mu j => (match M[j]? with | some (.lst ds) => Q (.lst ds) | some (.lk kvs _) => Q (.dk kvs) | _ => False)
  | .tp _ => False
def WPP (n : Nat) (t : (Str → List DO → Prop) → TDS) (F : PSp) : Prop := ∀ ds Q E, F ds Q E → t (fun n _ => E n) { nx := fun _ _ => Q .non, rt := rv Q } (startD n (ds.map .d)) []
/-- of one behind the well -/
def WPW (n : Nat) (t : (Str → List DO → Prop) → TDS) (F : PSp) : Prop := ∀ ds (Qd : Val → List DO → Prop) (Ed : Str → List DO → Prop), F ds (fun d => Qd (.d d) [.well]) (fun n => Ed n [.well]) →
  t (fun n M => Ed n (M.take 1)) { nx := fun _ M => Qd (.d .non) (M.take 1), rt := retV 1 Qd } (startD n (.mu 0 :: ds.map .d)) [.well]
theorem WPW.use {n : Nat} {t : (Str → List DO → Prop) → TDS} {F : PSp} (h : WPW n t F) : ∀ args M Qd Ed, fW F args M Qd Ed → t (fun n M' => Ed n (M'.take M.length)) { nx := fun _ M' => Qd (.d .non) (M'.take M.length), rt := retV M.length Qd } (startD n args) M := by
  rintro args M Qd Ed ⟨rfl, ds, rfl, q⟩
  exact h ds _ _ q
theorem retV0 (Qd : Val → List DO → Prop) : retV 0 Qd = rv (fun d => Qd (.d d) []) := by
  funext v M
  cases v with
  | d x => rfl
  | tp vs => rfl
  | mu j =>
    refine propext ⟨fun h => ?_, fun h => ⟨Nat.zero_le _, ?_⟩⟩
    · obtain ⟨_, h⟩ := h
      dsimp only [rv]
      split <;> simp_all
    · dsimp only [rv] at h
      split <;> simp_all
theorem WPP.use {n : Nat} {t : (Str → List DO → Prop) → TDS} {F : PSp} (h : WPP n t F) : ∀ args M Qd Ed, fP F args M Qd Ed → t (fun n M' => Ed n (M'.take M.length)) { nx := fun _ M' => Qd (.d .non) (M'.take M.length), rt := retV M.length Qd } (startD n args) M := by
  rintro args M Qd Ed ⟨rfl, ds, rfl, q⟩
  have := h ds _ _ q
  rw [← retV0] at this
  exact this
theorem fP_len {F : PSp} {n : Nat} (h : ∀ ds Q E, F ds Q E → ds.length = n) : ∀ args M Q E, fP F args M Q E → args.length = n := by
  rintro args M Q E ⟨rfl, ds, rfl, q⟩
  rw [List.length_map]
  exact h _ _ _ q
theorem fW_len {F : PSp} {n : Nat} (h : ∀ ds Q E, F ds Q E → ds.length + 1 = n) : ∀ args M Q E, fW F args M Q E → args.length = n := by
  rintro args M Q E ⟨rfl, ds, rfl, q⟩
  rw [List.length_cons, List.length_map]
  exact h _ _ _ q
/-! ### comprehensions without a change -/
def oY {α : Type} (o : Option α) (Y : α → List DO → Prop) (N : List DO → Prop) (M : List DO) : Prop := match o with | some x => Y x M | none => N M
theorem dLC_of {α : Type} {Kp : List DO → Prop} {t : TDG} {tt : TDT} {te : TD} {E : Sl} {Q : List D → List DO → Prop} {M : List DO} (enc : α → D) (f : α → Option D) (hk : Kp M) : ∀ (xs : List α) (acc : List D), acc.length + xs.length ≤ sizeLine →
    (∀ x ∈ xs, ∀ (Y : D → List DO → Prop) (N : List DO → Prop), oY (f x) Y N M → t (.d (enc x)) E M fun E1 M1 => tt E1 M1 fun b M2 => br b (te E1 M2 (onD Y)) (N M2)) → Q (acc ++ xs.filterMap f) M → dLC Kp t tt te E Q (xs.map enc) acc M
  | [], acc, _, _, q => by
    rw [List.filterMap_nil, List.append_nil] at q
    exact ⟨hk, q⟩
  | x :: xs, acc, hl, st, q => by
    rw [List.length_cons] at hl
    refine ⟨hk, st x List.mem_cons_self _ _ ?_⟩
    rw [List.filterMap_cons] at q
    cases e : f x with
    | none =>
      rw [e] at q
      exact dLC_of enc f hk xs acc (by omega) (fun y hy => st y (List.mem_cons_of_mem _ hy)) q
    | some y =>
      rw [e] at q
      refine ⟨by omega, dLC_of enc f hk xs (acc ++ [y]) (by rw [List.length_append, List.length_singleton]; omega) (fun y hy => st y (List.mem_cons_of_mem _ hy)) ?_⟩
      rw [List.append_assoc]
      exact q
theorem fm_some {α β : Type} (f : α → β) : ∀ xs : List α, xs.filterMap (fun x => some (f x)) = xs.map f
  | [] => rfl
  | x :: xs => by rw [List.filterMap_cons, List.map_cons, fm_some f xs]
theorem dLC_map {α : Type} {Kp : List DO → Prop} {t : TDG} {tt : TDT} {te : TD} {E : Sl} {Q : List D → List DO → Prop} {M : List DO} (enc : α → D) (f : α → D) (hk : Kp M) (xs : List α) (hl : xs.length ≤ sizeLine)
    (st : ∀ x ∈ xs, ∀ (Y : D → List DO → Prop) (N : List DO → Prop), Y (f x) M → t (.d (enc x)) E M fun E1 M1 => tt E1 M1 fun b M2 => br b (te E1 M2 (onD Y)) (N M2)) (q : Q (xs.map f) M) : dLC Kp t tt te E Q (xs.map enc) [] M := by
  refine dLC_of enc (fun x => some (f x)) hk xs [] (by simpa using hl) (fun x hx Y N h => st x hx Y N h) ?_
  rw [fm_some]
  exact q
theorem dLC_self {Kp : List DO → Prop} {t : TDG} {tt : TDT} {te : TD} {E : Sl} {Q : List D → List DO → Prop} {M : List DO} (f : D → D) (hk : Kp M) (xs : List D) (hl : xs.length ≤ sizeLine)
    (st : ∀ x ∈ xs, ∀ (Y : D → List DO → Prop) (N : List DO → Prop), Y (f x) M → t (.d x) E M fun E1 M1 => tt E1 M1 fun b M2 => br b (te E1 M2 (onD Y)) (N M2)) (q : Q (xs.map f) M) : dLC Kp t tt te E Q xs [] M := by
  have := dLC_map (Kp := Kp) (t := t) (tt := tt) (te := te) (E := E) (Q := Q) (M := M) id f hk xs hl st q
  rwa [List.map_id] at this
theorem dDC_of {α : Type} {Kp : List DO → Prop} {t : TDG} {tt : TDT} {tk tv : TD} {E : Sl} {Q : List (Key × D) → List DO → Prop} {M : List DO} (enc : α → D) (fk : α → Key) (fv : α → D) (hk : Kp M) : ∀ (xs : List α) (acc : List (Key × D)), acc.length + xs.length ≤ sizeLine →
    (∀ x ∈ xs, ∀ (Y : Key → D → List DO → Prop) (N : List DO → Prop), Y (fk x) (fv x) M → t (.d (enc x)) E M fun E1 M1 => tt E1 M1 fun b M2 => br b (tk E1 M2 (onK fun key M3 => tv E1 M3 (onD fun d M4 => Y key d M4))) (N M2)) →
    Q (xs.foldl (fun a x => putD a (fk x) (fv x)) acc) M → dDC Kp t tt tk tv E Q (xs.map enc) acc M
  | [], acc, _, _, q => ⟨hk, q⟩
  | x :: xs, acc, hl, st, q => by
    rw [List.length_cons] at hl
    refine ⟨hk, st x List.mem_cons_self (fun key d M4 => acc.length < sizeLine ∧ dDC Kp t tt tk tv E Q (xs.map enc) (putD acc key d) M4) _ ⟨by omega, ?_⟩⟩
    have : (putD acc (fk x) (fv x)).length ≤ acc.length + 1 := by
      unfold putD
      split
      · rw [List.length_map]; omega
      · rw [List.length_append, List.length_singleton]
        omega
    exact dDC_of enc fk fv hk xs _ (by omega) (fun y hy => st y (List.mem_cons_of_mem _ hy)) q
theorem put_new {κ : Type} [DecidableEq κ] {acc : List (κ × D)} {k : κ} {v : D} (h : k ∉ acc.map (·.1)) : putD acc k v = acc ++ [(k, v)] := by
  unfold putD
  rw [if_neg]
  intro q
  obtain ⟨kv, h1, h2⟩ := List.any_eq_true.mp q
  exact h (List.mem_map.mpr ⟨kv, h1, of_decide_eq_true h2⟩)
theorem put_all {κ α : Type} [DecidableEq κ] (fk : α → κ) (fv : α → D) : ∀ (xs : List α) (acc : List (κ × D)), (acc.map (·.1) ++ xs.map fk).Nodup → xs.foldl (fun a x => putD a (fk x) (fv x)) acc = acc ++ xs.map fun x => (fk x, fv x)
  | [], acc, _ => by simp
  | x :: xs, acc, h => by
    rw [List.foldl_cons]
    have hx : fk x ∉ acc.map (·.1) := by
      rw [List.map_cons] at h
      obtain ⟨_, _, h3⟩ := List.nodup_append.mp h
      intro q
      exact h3 _ q _ List.mem_cons_self rfl
    rw [put_new hx, put_all fk fv xs]
    · simp
    · rw [List.map_append, List.append_assoc]
      simpa using h
theorem dDC_map {α : Type} {Kp : List DO → Prop} {t : TDG} {tt : TDT} {tk tv : TD} {E : Sl} {Q : List (Key × D) → List DO → Prop} {M : List DO} (enc : α → D) (fk : α → Key) (fv : α → D) (hk : Kp M) (xs : List α) (hl : xs.length ≤ sizeLine) (nd : (xs.map fk).Nodup)
    (st : ∀ x ∈ xs, ∀ (Y : Key → D → List DO → Prop) (N : List DO → Prop), Y (fk x) (fv x) M → t (.d (enc x)) E M fun E1 M1 => tt E1 M1 fun b M2 => br b (tk E1 M2 (onK fun key M3 => tv E1 M3 (onD fun d M4 => Y key d M4))) (N M2))
    (q : Q (xs.map fun x => (fk x, fv x)) M) : dDC Kp t tt tk tv E Q (xs.map enc) [] M := by
  refine dDC_of enc fk fv hk xs [] (by simpa using hl) st ?_
  rw [put_all fk fv xs [] (by simpa using nd)]
  exact q
theorem look_map {κ α : Type} [DecidableEq κ] (fk : α → κ) (fv : α → D) (k : κ) : ∀ xs : List α, look (xs.map fun x => (fk x, fv x)) k = (xs.find? fun x => decide (fk x = k)).map fv
  | [] => rfl
  | x :: xs => by
    have ih := look_map fk fv k xs
    unfold look at ih ⊢
    rw [List.map_cons, List.find?_cons, List.find?_cons]
    by_cases h : fk x = k
    · simp [h]
    · simp only [h, decide_false]
      exact ih
theorem inD_strs (c : Str) (xs : List Str) : inD (.str c) (xs.map .str) = decide (c ∈ xs) := by
  unfold inD
  rw [List.any_map]
  by_cases h : c ∈ xs
  · rw [decide_eq_true h, List.any_eq_true]
    exact ⟨c, h, by simp [eqF]⟩
  · rw [decide_eq_false h, List.any_eq_false]
    intro x hx
    simp only [Function.comp, eqF]
    intro q
    have := eq_of_beq q
    exact h (this ▸ hx)
theorem atI_nat {α : Type} (xs : List α) (k : Nat) : atI xs (k : Int) = xs[k]? := by
  unfold atI ixN
  by_cases h : k < xs.length
  · rw [if_pos (by omega), if_pos (by omega)]
    simp
  · rw [if_pos (by omega), if_neg (by omega)]
    simp
    omega
theorem flat_strs (xs : List Str) : (xs.map D.str).all flatD = true := by
  rw [List.all_map, List.all_eq_true]
  exact fun _ _ => rfl
end DL

end
section
set_option maxRecDepth 10000
/-! == of data, said plainly. -/
namespace DL
open PySem L2 PyProof.Rows
mutual
/-- what == takes -/
def lay : D → Bool
  | .non => true | .bl _ => true | .int _ => true | .str s => PyData.strOk s
  | .tup ds => lays ds | .lst ds => lays ds | _ => false
def lays : List D → Bool
  | [] => true
  | d :: ds => lay d && lays ds
end
mutual
def dep : D → Nat
  | .tup ds => deps ds + 1 | .lst ds => deps ds + 1 | _ => 0
def deps : List D → Nat
  | [] => 0
  | d :: ds => max (dep d) (deps ds)
end
mutual
/-- without truths -/
def nb : D → Bool
  | .non => true | .int _ => true | .str _ => true
  | .tup ds => nbs ds | .lst ds => nbs ds | _ => false
def nbs : List D → Bool
  | [] => true
  | d :: ds => nb d && nbs ds
end
mutual
theorem lay_py : ∀ d : D, lay d = true → (py d).canLay0 = true
  | .non, _ => rfl | .bl _, _ => rfl | .int _, _ => rfl
  | .str s, h => h
  | .tup ds, h => lays_py ds h
  | .lst ds, h => lays_py ds h
theorem lays_py : ∀ ds : List D, lays ds = true → PyData.canLayAll0 (pys ds) = true
  | [], _ => rfl
  | d :: ds, h => by
    rw [lays, Bool.and_eq_true] at h
    rw [pys, PyData.canLayAll0, lay_py d h.1, lays_py ds h.2]
    rfl
end
mutual
theorem dep_py : ∀ d : D, lay d = true → (py d).depth = dep d
  | .non, _ => rfl | .bl _, _ => rfl | .int _, _ => rfl
  | .str s, h => rfl
  | .tup ds, h => by rw [py, PyData.depth, deps_py ds h]; rfl
  | .lst ds, h => by rw [py, PyData.depth, deps_py ds h]; rfl
theorem deps_py : ∀ ds : List D, lays ds = true → PyData.depthAll (pys ds) = deps ds
  | [], _ => rfl
  | d :: ds, h => by
    rw [lays, Bool.and_eq_true] at h
    rw [pys, PyData.depthAll, dep_py d h.1, deps_py ds h.2]
    rfl
end
theorem okD_of {d : D} (h : lay d = true) (h2 : dep d ≤ 64) : okD d = true := by
  unfold okD SeqAt.shaped
  rw [lay_py d h, dep_py d h]
  simpa using h2
mutual
theorem eqD_eq : ∀ a b : D, nb a = true → nb b = true → (eqD a b = true ↔ a = b)
  | .non, b, ha, hb => by cases b <;> simp [nb] at hb <;> simp [eqD, py, PyData.eqv]
  | .int i, b, ha, hb => by cases b <;> simp [nb] at hb <;> simp [eqD, py, PyData.eqv]
  | .str i, b, ha, hb => by cases b <;> simp [nb] at hb <;> simp [eqD, py, PyData.eqv]
  | .tup xs, b, ha, hb => by
    cases b <;> simp [nb] at hb <;> simp [eqD, py, PyData.eqv]
    exact eqDs_eq xs _ ha hb
  | .lst xs, b, ha, hb => by
    cases b <;> simp [nb] at hb <;> simp [eqD, py, PyData.eqv]
    exact eqDs_eq xs _ ha hb
  | .bl _, b, ha, hb => by simp [nb] at ha
  | .dk _, b, ha, hb => by simp [nb] at ha
  | .dt _, b, ha, hb => by simp [nb] at ha
  | .scr _, b, ha, hb => by simp [nb] at ha
  | .ob _, b, ha, hb => by simp [nb] at ha
theorem eqDs_eq : ∀ a b : List D, nbs a = true → nbs b = true → (PyData.eqvAll (pys a) (pys b) = true ↔ a = b)
  | [], [], _, _ => by simp [pys, PyData.eqvAll]
  | [], y :: ys, _, _ => by simp [pys, PyData.eqvAll]
  | x :: xs, [], _, _ => by simp [pys, PyData.eqvAll]
  | x :: xs, y :: ys, ha, hb => by
    rw [nbs, Bool.and_eq_true] at ha hb
    have h1 := eqD_eq x y ha.1 hb.1
    have h2 := eqDs_eq xs ys ha.2 hb.2
    unfold eqD at h1
    simp [pys, PyData.eqvAll, h1, h2]
end
open Classical in
theorem eqD_dec {a b : D} (ha : nb a = true) (hb : nb b = true) : eqD a b = decide (a = b) := by
  by_cases h : a = b
  · rw [(eqD_eq a b ha hb).mpr h]; simp [h]
  · have := mt (eqD_eq a b ha hb).mp h
    simp [h]
    simpa using this
theorem eqD_int (a b : Int) : eqD (.int a) (.int b) = decide (a = b) := by
  by_cases h : a = b
  · simp [eqD, py, PyData.eqv, h]
  · simp [eqD, py, PyData.eqv, h]
theorem eqD_str (a b : Str) : eqD (.str a) (.str b) = decide (a = b) := by
  by_cases h : a = b
  · simp [eqD, py, PyData.eqv, h]
  · simp [eqD, py, PyData.eqv, h]
theorem okD_int (a : Int) : okD (.int a) = true := rfl
theorem okD_str {s : Str} (h : PyData.strOk s = true) : okD (.str s) = true := okD_of h (by show 0 ≤ 64; omega)
theorem lays_map {α : Type} (f : α → D) : ∀ xs : List α, (∀ x ∈ xs, lay (f x) = true) → lays (xs.map f) = true
  | [], _ => rfl
  | x :: xs, h => by rw [List.map_cons, lays, h x List.mem_cons_self, lays_map f xs fun y hy => h y (List.mem_cons_of_mem _ hy)]; rfl
theorem nbs_map {α : Type} (f : α → D) : ∀ xs : List α, (∀ x ∈ xs, nb (f x) = true) → nbs (xs.map f) = true
  | [], _ => rfl
  | x :: xs, h => by rw [List.map_cons, nbs, h x List.mem_cons_self, nbs_map f xs fun y hy => h y (List.mem_cons_of_mem _ hy)]; rfl
theorem deps_map {α : Type} (f : α → D) (n : Nat) : ∀ xs : List α, (∀ x ∈ xs, dep (f x) ≤ n) → deps (xs.map f) ≤ n
  | [], _ => Nat.zero_le _
  | x :: xs, h => by
    rw [List.map_cons, deps]
    have h1 := h x List.mem_cons_self
    have h2 := deps_map f n xs fun y hy => h y (List.mem_cons_of_mem _ hy)
    omega
theorem inj_map {α β : Type} {f : α → β} (hf : ∀ x y, f x = f y → x = y) : ∀ {xs ys : List α}, xs.map f = ys.map f → xs = ys
  | [], [], _ => rfl
  | [], _ :: _, h => by simp at h
  | _ :: _, [], h => by simp at h
  | x :: xs, y :: ys, h => by
    rw [List.map_cons, List.map_cons] at h
    injection h with h1 h2
    rw [hf _ _ h1, inj_map hf h2]
end DL

end
section

/-! The things of the program as data; what its defs promise. -/
namespace DL
open PySem L2 PyProof.Rows
abbrev c_LETTERS : D := .str "abcdefghijklmnopqrstuvwxyz"
abbrev c_HOME : D := .str "home"
abbrev c_MOST_LANES : D := .int 8
abbrev c_MOST_WIDE : D := .int 9
abbrev c_MOST_LONG : D := .int 20
abbrev c_MOST_FOLK : D := .int 10
abbrev c_MOST_TICK : D := .int 50
/-! ### any datum -/
def isWholeD (d : D) (a b : Int) : Bool := match d with | .int i => decide (a ≤ i) && decide (i ≤ b) | _ => false
def F_is_whole : PSp := fun ds Q _ => ∃ d a b, ds = [d, .int a, .int b] ∧ (tyN d).isSome = true ∧ Q (.bl (isWholeD d a b))
def letters : List Nat := (Str.cps "abcdefghijklmnopqrstuvwxyz").toList
def isNameS (s : Str) : Bool := decide (1 ≤ s.length) && decide (s.length ≤ 8) && s.cps.toList.all fun c => decide (c ∈ letters)
def isNameD (d : D) : Bool := match d with | .str s => isNameS s | _ => false
/-- data that may be asked -/
def small1 : D → Bool | .str s => decide (s.length ≤ 1000) | .tup xs => decide (xs.length ≤ 1000) | .lst xs => decide (xs.length ≤ 1000) | .dt _ => false | .scr _ => false | .ob _ => false | _ => true
def F_is_name : PSp := fun ds Q _ => ∃ d, ds = [d] ∧ small1 d = true ∧ Q (.bl (isNameD d))
def isLaneD (d : D) : Bool := match d with
  | .tup [n, t, w, l] => isNameD n && isNameD t && !(match n with | .str s => decide (s = "home") | _ => true) && isWholeD w 1 9 && isWholeD l 1 20
  | _ => false
def small2 : D → Bool | .tup xs => decide (xs.length ≤ 1000) && xs.all small1 | d => small1 d
def F_is_lane : PSp := fun ds Q _ => ∃ d, ds = [d] ∧ small2 d = true ∧ Q (.bl (isLaneD d))
/-! ### lanes -/
structure Ln where
  nm : Str
  to : Str
  wd : Int
  lg : Int
def encLn (l : Ln) : D := .tup [.str l.nm, .str l.to, .int l.wd, .int l.lg]
def encLs (L : List Ln) : D := .tup (L.map encLn)
def encTl (l : Ln) : D := .tup [.str l.to, .int l.wd, .int l.lg]
def lookL (L : List Ln) (c : Str) : Option Ln := L.find? fun l => decide (l.nm = c)
def tableL (L : List Ln) : List (Key × D) := L.map fun l => (.inr l.nm, encTl l)
/-- going on from c, what was found behind -/
def wayGo (L : List Ln) : Nat → Str → List Str → Option (List Str)
  | 0, _, _ => none
  | n + 1, c, found => if c = "home" then some found else match lookL L c with
    | none => none
    | some l => if c ∈ found then none else wayGo L n l.to (found ++ [c])
def wayOf (L : List Ln) (c : Str) : Option (List Str) := wayGo L (L.length + 1) c []
def strsD (xs : List Str) : D := .lst (xs.map .str)
def F_table_of : PSp := fun ds Q _ => ∃ L, ds = [encLs L] ∧ (L.map Ln.nm).Nodup ∧ L.length ≤ 1000 ∧ Q (.dk (tableL L))
def okS (s : Str) : Prop := s.length ≤ 1000 ∧ PyData.strOk s = true
def F_way_of : PSp := fun ds Q _ => ∃ L c, ds = [encLs L, .str c] ∧ (L.map Ln.nm).Nodup ∧ L.length ≤ 1000 ∧ okS c ∧ (∀ l ∈ L, okS l.to) ∧ Q (match wayOf L c with | some w => strsD w | none => .non)
def ltNm (a b : Option Ln) : Bool := match a, b with | some a, some b => decide (a.nm.cps.toList < b.nm.cps.toList) | _, _ => false
def sortedB (L : List Ln) : Bool := (List.range (L.length - 1)).all fun k => ltNm L[k]? L[k + 1]?
def lnD : D → Option Ln | .tup [.str n, .str t, .int w, .int l] => some ⟨n, t, w, l⟩ | _ => none
def lnsD : List D → Option (List Ln)
  | [] => some []
  | d :: ds => match lnD d, lnsD ds with | some l, some L => some (l :: L) | _, _ => none
def areLanesL (L : List Ln) : Bool := sortedB L && L.all fun l => (wayOf L l.nm).isSome
def areLanesD (d : D) : Bool := match d with
  | .tup xs => decide (1 ≤ xs.length) && decide (xs.length ≤ 8) && xs.all isLaneD && (match lnsD xs with | some L => areLanesL L | none => false)
  | _ => false
def small3 : D → Bool | .tup xs => decide (xs.length ≤ 1000) && xs.all small2 | d => small1 d
def F_are_lanes : PSp := fun ds Q _ => ∃ d, ds = [d] ∧ small3 d = true ∧ Q (.bl (areLanesD d))
def F_need_lanes : PSp := fun ds Q E => ∃ d, ds = [d] ∧ small3 d = true ∧ (areLanesD d = true → Q .non) ∧ (areLanesD d = false → E "NoLanes")
def isCrD (L : List Ln) (d : D) : Bool := match d with | .str s => (lookL L s).isSome | _ => false
def F_is_crossing : PSp := fun ds Q _ => ∃ L d, ds = [encLs L, d] ∧ (L.map Ln.nm).Nodup ∧ L.length ≤ 1000 ∧ (tyN d).isSome = true ∧ Q (.bl (isCrD L d))
end DL

end
section

namespace DL
open PySem L2 PyProof.Rows
/-- is_whole: thing low high -/
def t_is_whole (Wd : Str → List DO → Prop) : TDS :=
  sRet (dAndV (dIsi DL.isInt (dVar 0)) (dAndV (dNotV (dIsi DL.isBool (dVar 0))) (dChain dLe dLe (dVar 1) (dVar 0) (dVar 2))))
/-- is_name: thing sign -/
def t_is_name (Wd : Str → List DO → Prop) : TDS :=
  sRet (dAndV (dIsi DL.isStr (dVar 0)) (dAndV (dChain dLe dLe (dC (.int 1)) (dCB dLen (daCons (dVar 0) (daNil))) (dC (.int 8))) (dCB dAll (daCons (dComp (iSeq (dVar 0)) (gN 1) (dYes) (dOp dIn (dVar 1) (dC c_LETTERS)) [1]) (daNil)))))
/-- is_lane: thing -/
def t_is_lane (Wd : Str → List DO → Prop) : TDS :=
  sSeq (sIf (dOr (dNot (dB (dIsi DL.isTup (dVar 0)))) (dOr (dB (dOp dNe (dCB dLen (daCons (dVar 0) (daNil))) (dC (.int 4)))) (dOr (dNot (dB (dCall F_is_name Wd (daCons (dOp dIx (dVar 0) (dC (.int 0))) (daNil))))) (dNot (dB (dCall F_is_name Wd (daCons (dOp dIx (dVar 0) (dC (.int 1))) (daNil)))))))) (sRet (dC (.bl false))) (sNext)) (sRet (dAndV (dOp dNe (dOp dIx (dVar 0) (dC (.int 0))) (dC c_HOME)) (dAndV (dCall F_is_whole Wd (daCons (dOp dIx (dVar 0) (dC (.int 2))) (daCons (dC (.int 1)) (daCons (dC c_MOST_WIDE) (daNil))))) (dCall F_is_whole Wd (daCons (dOp dIx (dVar 0) (dC (.int 3))) (daCons (dC (.int 1)) (daCons (dC c_MOST_LONG) (daNil))))))))
/-- table_of: lanes lane -/
def t_table_of (Wd : Str → List DO → Prop) : TDS :=
  sRet (dDict (iSeq (dVar 0)) (gN 1) (dYes) (dOp dIx (dVar 1) (dC (.int 0))) (dSlice (dVar 1) (doSome (dC (.int 1))) doNone) [1])
/-- way_of: lanes crossing table found -/
def t_way_of (Wd : Str → List DO → Prop) : TDS :=
  sSeq (sPar 2 3 (daCons (dCall F_table_of Wd (daCons (dVar 0) (daNil))) (daCons (dLstM (daNil)) (daNil)))) (sSeq (sWhile (dB (dOp dNe (dVar 1) (dC c_HOME))) (sSeq (sIf (dOr (dB (dOp dNotIn (dVar 1) (dVar 2))) (dB (dOp dIn (dVar 1) (dVar 3)))) (sRet (dC .non)) (sNext)) (sSeq (sExpr (dMeth isLst rAppendD (dVar 3) (daCons (dVar 1) (daNil)))) (sSet 1 (dOp dIx (dOp dIx (dVar 2) (dVar 1)) (dC (.int 0))))))) (sRet (dVar 3)))
/-- are_lanes: thing lane k one -/
def t_are_lanes (Wd : Str → List DO → Prop) : TDS :=
  sSeq (sIf (dOr (dNot (dB (dIsi DL.isTup (dVar 0)))) (dOr (dNot (dB (dChain dLe dLe (dC (.int 1)) (dCB dLen (daCons (dVar 0) (daNil))) (dC c_MOST_LANES)))) (dNot (dB (dCB dAll (daCons (dComp (iSeq (dVar 0)) (gN 3) (dYes) (dCall F_is_lane (fun _ _ => False) (daCons (dVar 3) (daNil))) [3]) (daNil))))))) (sRet (dC (.bl false))) (sNext)) (sSeq (sIf (dNot (dB (dCB dAll (daCons (dComp (iRange1 (daCons (dOp dSub (dCB dLen (daCons (dVar 0) (daNil))) (dC (.int 1))) (daNil))) (gN 2) (dYes) (dOp dLtA (dOp dIx (dOp dIx (dVar 0) (dVar 2)) (dC (.int 0))) (dOp dIx (dOp dIx (dVar 0) (dOp dAdd (dVar 2) (dC (.int 1)))) (dC (.int 0)))) [2]) (daNil))))) (sRet (dC (.bl false))) (sNext)) (sRet (dCB dAll (daCons (dComp (iSeq (dVar 0)) (gN 1) (dYes) (dOp dNotN (dCall F_way_of (fun _ _ => False) (daCons (dVar 0) (daCons (dOp dIx (dVar 1) (dC (.int 0))) (daNil)))) (dC .non)) [1]) (daNil)))))
/-- need_lanes: lanes -/
def t_need_lanes (Wd : Str → List DO → Prop) : TDS :=
  sIf (dNot (dB (dCall F_are_lanes Wd (daCons (dVar 0) (daNil))))) (sRaise Wd "NoLanes") (sNext)
/-- is_crossing: lanes thing -/
def t_is_crossing (Wd : Str → List DO → Prop) : TDS :=
  sRet (dAndV (dIsi DL.isStr (dVar 1)) (dOp dIn (dVar 1) (dCall F_table_of Wd (daCons (dVar 0) (daNil)))))
end DL

end
section

namespace DL
open PySem L2 PyProof.Rows
local macro_rules | `(tactic| walk_at "w") => `(tactic| ((conv => whnf); repeat (first | (refine br_t rfl ?_; conv => whnf) | (refine br_f rfl ?_; conv => whnf))))
theorem w_is_whole : WPP 3 t_is_whole F_is_whole := by
  rintro _ Q E ⟨d, a, b, rfl, hd, q⟩
  have e : ∀ c : Bool, isWholeD d a b = c → Q (.bl c) := fun c h => h ▸ q
  walk_at "w"
  refine ⟨hd, br_of (fun h => ?_) (fun h => ?_)⟩ <;> walk_at "w"
  · refine ⟨hd, br_of (fun h2 => ?_) (fun h2 => ?_)⟩ <;> walk_at "w"
    · cases d <;> first | (cases h; done) | (cases h2; done) | skip
      rename_i i
      walk_at "w"
      refine br_of (fun h3 => ?_) (fun h3 => ?_) <;> walk_at "w" <;> refine e _ ?_
      · show (decide (a ≤ i) && decide (i ≤ b)) = _
        rw [h3, Bool.true_and]
      · show (decide (a ≤ i) && decide (i ≤ b)) = _
        rw [h3, Bool.false_and]
    · refine e _ ?_
      cases d <;> first | rfl | (cases h2; done) | (cases h; done)
  · refine e _ ?_
    cases d <;> first | rfl | (cases h; done)
theorem size_small {n : Nat} (h : n ≤ 1000) : n ≤ sizeLine := Nat.le_of_lt (small1000 (by omega))
theorem all_id_map {α : Type} (p : α → Bool) (xs : List α) : (xs.map p).all id = xs.all p := by
  rw [List.all_map]
  rfl
theorem dec_cast {a b : Nat} {c : Bool} (h : decide ((a : Int) ≤ (b : Int)) = c) : decide (a ≤ b) = c := by
  rw [← h]
  exact decide_eq_decide.mpr Int.ofNat_le.symm
theorem w_is_name : WPP 2 t_is_name F_is_name := by
  rintro _ Q E ⟨d, rfl, hd, q⟩
  have e : ∀ c : Bool, isNameD d = c → Q (.bl c) := fun c h => h ▸ q
  have ht : (tyN d).isSome = true := by cases d <;> first | rfl | (cases hd; done)
  walk_at "w"
  refine ⟨ht, br_of (fun h => ?_) (fun h => ?_)⟩ <;> walk_at "w"
  · cases d <;> first | (cases h; done) | skip
    rename_i s
    have hs : s.length ≤ 1000 := of_decide_eq_true hd
    walk_at "w"
    refine ⟨size_small hs, ?_⟩
    walk_at "w"
    refine br_of (fun h2 => ?_) (fun h2 => ?_) <;> walk_at "w"
    · refine br_of (fun h3 => ?_) (fun h3 => ?_) <;> walk_at "w"
      · refine dLC_map (fun c => .str ⟨#[c]⟩) (fun c => .bl (decide (c ∈ letters))) trivial _ ?_ (fun c hc Y N h => ?_) ?_
        · have : s.cps.toList.length = s.length := by simp [Str.length]
          rw [this]
          exact size_small hs
        · walk_at "w"
          exact ⟨c, rfl, h⟩
        · walk_at "w"
          rw [blsD_map]
          refine e _ ?_
          show isNameS s = _
          unfold isNameS
          rw [all_id_map, dec_cast (a := 1) h2, dec_cast (b := 8) h3]
          rfl
      · refine e _ ?_
        show isNameS s = _
        unfold isNameS
        rw [dec_cast (b := 8) h3]
        simp
    · refine e _ ?_
      show isNameS s = _
      unfold isNameS
      rw [dec_cast (a := 1) h2]
      simp
  · refine e _ ?_
    cases d <;> first | rfl | (cases h; done)

theorem len4 {α : Type} {xs : List α} (h : xs.length = 4) : ∃ a b c d, xs = [a, b, c, d] := by
  rcases xs with _ | ⟨a, _ | ⟨b, _ | ⟨c, _ | ⟨d, _ | ⟨e, r⟩⟩⟩⟩⟩ <;> first | exact ⟨_, _, _, _, rfl⟩ | (simp at h)
theorem len3 {α : Type} {xs : List α} (h : xs.length = 3) : ∃ a b c, xs = [a, b, c] := by
  rcases xs with _ | ⟨a, _ | ⟨b, _ | ⟨c, _ | ⟨e, r⟩⟩⟩⟩ <;> first | exact ⟨_, _, _, rfl⟩ | (simp at h)
theorem letters_ok : ∀ c ∈ letters, c < 0x110000 := by decide +kernel
theorem name_ok {s : Str} (h : isNameS s = true) : PyData.strOk s = true := by
  unfold isNameS at h
  rw [Bool.and_eq_true, List.all_eq_true] at h
  unfold PyData.strOk
  rw [← Array.all_toList, List.all_eq_true]
  exact fun c hc => decide_eq_true (letters_ok c (of_decide_eq_true (h.2 c hc)))
theorem name_len {s : Str} (h : isNameS s = true) : s.length ≤ 8 := by
  unfold isNameS at h
  rw [Bool.and_eq_true, Bool.and_eq_true] at h
  exact of_decide_eq_true h.1.2
theorem ok_home : PyData.strOk "home" = true := by decide +kernel
theorem ty_small {d : D} (h : small1 d = true) : (tyN d).isSome = true := by cases d <;> first | rfl | (cases h; done)
theorem w_is_lane : WPP 1 t_is_lane F_is_lane := by
  rintro _ Q E ⟨d, rfl, hd, q⟩
  have e : ∀ c : Bool, isLaneD d = c → Q (.bl c) := fun c h => h ▸ q
  cases d with
  | tup xs =>
    obtain ⟨hl, hs⟩ := Bool.and_eq_true_iff.mp hd
    walk_at "w"
    refine ⟨rfl, ?_⟩
    walk_at "w"
    refine ⟨rfl, rfl, ?_⟩
    walk_at "w"
    refine br_of (fun h => ?_) (fun h => ?_) <;> walk_at "w"
    · refine e _ ?_
      rw [eqD_int] at h
      have h' : ¬ (xs.length = 4) := by
        intro q
        rw [q] at h
        exact absurd h (by decide)
      rcases xs with _ | ⟨a, _ | ⟨b, _ | ⟨c, _ | ⟨d, _ | ⟨f, r⟩⟩⟩⟩⟩ <;> first | rfl | (exact absurd rfl h')
    · rw [eqD_int] at h
      have h' : xs.length = 4 := by
        have : (xs.length : Int) = 4 := by simpa using h
        omega
      obtain ⟨n, t, w, l, rfl⟩ := len4 h'
      simp only [List.all_cons, List.all_nil, Bool.and_true, Bool.and_eq_true] at hs
      obtain ⟨s1, s2, s3, s4⟩ := hs
      refine ⟨n, rfl, s1, ?_⟩
      walk_at "w"
      refine br_of (fun hn => ?_) (fun hn => ?_) <;> walk_at "w"
      · refine e _ ?_
        show (isNameD n && _ && _ && _ && _) = false
        have : isNameD n = false := by simpa using hn
        rw [this]
        rfl
      · have hn : isNameD n = true := by simpa using hn
        refine ⟨t, rfl, s2, ?_⟩
        walk_at "w"
        refine br_of (fun ht => ?_) (fun ht => ?_) <;> walk_at "w"
        · refine e _ ?_
          show (isNameD n && isNameD t && _ && _ && _) = false
          have : isNameD t = false := by simpa using ht
          rw [this, Bool.and_false]
          rfl
        · have ht : isNameD t = true := by simpa using ht
          cases n with
          | str s =>
            refine ⟨okD_str (name_ok hn), okD_str ok_home, ?_⟩
            rw [eqD_str]
            have ex : ∀ c, (!decide (s = "home") && isWholeD w 1 9 && isWholeD l 1 20) = c → Q (.bl c) := fun c hc => e c (by
              show (isNameS s && isNameD t && !decide (s = "home") && isWholeD w 1 9 && isWholeD l 1 20) = c
              rw [show isNameS s = true from hn, ht]
              exact hc)
            walk_at "w"
            refine br_of (fun hh => ?_) (fun hh => ?_) <;> walk_at "w"
            · refine ⟨w, 1, 9, rfl, ty_small s3, ?_⟩
              walk_at "w"
              refine br_of (fun hw => ?_) (fun hw => ?_) <;> walk_at "w"
              · refine ⟨l, 1, 20, rfl, ty_small s4, ?_⟩
                walk_at "w"
                refine ex _ ?_
                rw [hh, hw]
                rfl
              · refine ex _ ?_
                rw [hh, hw]
                rfl
            · refine ex _ ?_
              rw [hh]
              rfl
          | _ => cases hn
  | _ =>
    first
    | (cases hd; done)
    | (walk_at "w"
       refine ⟨rfl, ?_⟩
       walk_at "w"
       exact e _ rfl)
theorem small_len {n : Nat} (h : n ≤ 1000) : n ≤ sizeLine := size_small h
theorem nd_inr {xs : List Str} (h : xs.Nodup) : (xs.map (Sum.inr : Str → Key)).Nodup := h.map (Sum.inr : Str → Key) fun a b h e => h (Sum.inr.inj e)
theorem w_table_of : WPP 2 t_table_of F_table_of := by
  rintro _ Q E ⟨L, rfl, nd, hl, q⟩
  walk_at "w"
  refine dDC_map encLn (fun l => .inr l.nm) encTl trivial L (small_len hl) ?_ (fun l hl Y N h => ?_) ?_
  · have := nd_inr nd
    rwa [List.map_map] at this
  · walk_at "w"
    exact h
  · walk_at "w"
    exact q
theorem look_table (L : List Ln) (c : Str) : look (tableL L) (.inr c) = (lookL L c).map encTl := by
  unfold tableL lookL
  rw [look_map]
  congr 1
  congr 1
  funext l
  exact decide_eq_decide.mpr ⟨fun h => Sum.inr.inj h, fun h => congrArg _ h⟩
theorem dlook_table (L : List Ln) (c : Str) : dlook (.dk (tableL L)) (.str c) = some ((lookL L c).map encTl) := by
  show some (look (tableL L) (.inr c)) = _
  rw [look_table]
theorem lookL_some {L : List Ln} {c : Str} {l : Ln} (h : lookL L c = some l) : l ∈ L ∧ l.nm = c := by
  unfold lookL at h
  exact ⟨List.mem_of_find?_eq_some h, by simpa using List.find?_some h⟩
theorem nodup_le {α : Type} [DecidableEq α] : ∀ {xs ys : List α}, xs.Nodup → (∀ x ∈ xs, x ∈ ys) → xs.length ≤ ys.length
  | [], _, _, _ => Nat.zero_le _
  | x :: xs, ys, h, hs => by
    obtain ⟨h1, h2⟩ := List.nodup_cons.mp h
    have hx := hs x List.mem_cons_self
    have := nodup_le (ys := ys.erase x) h2 fun y hy => (List.mem_erase_of_ne (fun e => h1 (by rw [← e]; exact hy))).mpr (hs y (List.mem_cons_of_mem _ hy))
    rw [List.length_erase_of_mem hx] at this
    have := List.length_pos_of_mem hx
    rw [List.length_cons]
    omega
def WWay (L : List Ln) (r : Option (List Str)) : Nat → Sl → List DO → Prop := fun n E M => ∃ c found, E = [some (.d (encLs L)), some (.d (.str c)), some (.d (.dk (tableL L))), some (.mu 0)] ∧ M = [.lst (found.map .str)] ∧
  wayGo L n c found = r ∧ found.length + n = L.length + 1 ∧ found.Nodup ∧ (∀ x ∈ found, x ∈ L.map Ln.nm) ∧ PyData.strOk c = true
theorem w_way_of : WPP 4 t_way_of F_way_of := by
  rintro _ Q E ⟨L, c, rfl, nd, hl, hc, hto, q⟩
  walk_at "w"
  refine ⟨L, rfl, nd, hl, ?_⟩
  walk_at "w"
  refine ⟨Nat.zero_le _, ?_⟩
  walk_at "w"
  refine ⟨WWay L (wayOf L c), ⟨_, c, [], rfl, rfl, rfl, by simp, by simp, by simp, hc.2⟩, ?_⟩
  rintro n _ _ ⟨c', found, rfl, rfl, hg, hn, hnd, hsub, hok⟩
  walk_at "w"
  refine ⟨okD_str hok, okD_str ok_home, ?_⟩
  rw [eqD_str]
  walk_at "w"
  cases n with
  | zero =>
    have := nodup_le hnd hsub
    rw [List.length_map] at this
    omega
  | succ n =>
    rw [wayGo] at hg
    refine br_of (fun h => ?_) (fun h => ?_)
    · have h' : ¬ (c' = "home") := by simpa using h
      rw [if_neg h'] at hg
      walk_at "w"
      rw [look_table]
      cases hlk : lookL L c' with
      | none =>
        rw [hlk] at hg
        rw [← hg] at q
        walk_at "w"
        exact q
      | some l =>
        rw [hlk] at hg
        obtain ⟨lm, ln⟩ := lookL_some hlk
        walk_at "w"
        refine ⟨rfl, flat_strs _, ?_⟩
        rw [inD_strs]
        walk_at "w"
        refine br_of (fun h2 => ?_) (fun h2 => ?_)
        · have h3 : c' ∈ found := of_decide_eq_true h2
          dsimp only at hg
          rw [if_pos h3] at hg
          rw [← hg] at q
          walk_at "w"
          exact q
        · have h3 : c' ∉ found := of_decide_eq_false h2
          dsimp only at hg
          rw [if_neg h3] at hg
          walk_at "w"
          refine ⟨rfl, ?_⟩
          walk_at "w"
          have hfl : found.length ≤ L.length := by
            have := nodup_le hnd hsub
            rwa [List.length_map] at this
          refine ⟨?_, ?_⟩
          · rw [List.length_map]
            exact Nat.lt_of_le_of_lt hfl (Nat.lt_of_le_of_lt hl (by decide))
          · walk_at "w"
            rw [dlook_table, hlk]
            walk_at "w"
            refine ⟨n, Nat.lt_succ_self n, l.to, found ++ [c'], rfl, ?_, hg, ?_, ?_, ?_, (hto l lm).2⟩
            · show [DO.lst _] = _
              rw [List.map_append]
              rfl
            · rw [List.length_append, List.length_singleton]
              omega
            · refine List.nodup_append.mpr ⟨hnd, by simp, fun a ha b hb e => ?_⟩
              simp at hb
              subst hb e
              exact h3 ha
            · intro x hx
              rcases List.mem_append.mp hx with hx | hx
              · exact hsub x hx
              · simp at hx
                subst hx
                rw [← ln]
                exact List.mem_map.mpr ⟨l, lm, rfl⟩
    · have h' : c' = "home" := by simpa using h
      rw [if_pos h'] at hg
      rw [← hg] at q
      walk_at "w"
      exact q
theorem w_is_crossing : WPP 2 t_is_crossing F_is_crossing := by
  rintro _ Q E ⟨L, d, rfl, nd, hl, ht, q⟩
  have e : ∀ c : Bool, isCrD L d = c → Q (.bl c) := fun c h => h ▸ q
  walk_at "w"
  refine ⟨ht, br_of (fun h => ?_) (fun h => ?_)⟩ <;> walk_at "w"
  · cases d with
    | str s =>
      refine ⟨L, rfl, nd, hl, ?_⟩
      walk_at "w"
      rw [look_table]
      refine e _ ?_
      show (lookL L s).isSome = _
      rw [Option.isSome_map]
    | _ => cases h
  · refine e _ ?_
    cases d <;> first | rfl | (cases h; done)
theorem lane_of {d : D} (h : isLaneD d = true) : ∃ l : Ln, d = encLn l ∧ isNameS l.nm = true ∧ isNameS l.to = true ∧ l.nm ≠ "home" ∧ 1 ≤ l.wd ∧ l.wd ≤ 9 ∧ 1 ≤ l.lg ∧ l.lg ≤ 20 := by
  unfold isLaneD at h
  split at h
  · rename_i n t w l
    rw [Bool.and_eq_true, Bool.and_eq_true, Bool.and_eq_true, Bool.and_eq_true] at h
    obtain ⟨⟨⟨⟨h1, h2⟩, h3⟩, h4⟩, h5⟩ := h
    cases n <;> simp [isNameD] at h1
    cases t <;> simp [isNameD] at h2
    cases w <;> simp [isWholeD] at h4
    cases l <;> simp [isWholeD] at h5
    exact ⟨⟨_, _, _, _⟩, rfl, h1, h2, by simpa using h3, h4.1, h4.2, h5.1, h5.2⟩
  · cases h
def LaneV (l : Ln) : Prop := isNameS l.nm = true ∧ isNameS l.to = true ∧ l.nm ≠ "home" ∧ 1 ≤ l.wd ∧ l.wd ≤ 9 ∧ 1 ≤ l.lg ∧ l.lg ≤ 20
theorem lnD_enc (l : Ln) : lnD (encLn l) = some l := rfl
theorem lnsD_enc : ∀ L : List Ln, lnsD (L.map encLn) = some L
  | [] => rfl
  | l :: L => by rw [List.map_cons, lnsD, lnD_enc, lnsD_enc L]
theorem lanes_all : ∀ {xs : List D}, xs.all isLaneD = true → ∃ L : List Ln, xs = L.map encLn ∧ ∀ l ∈ L, LaneV l
  | [], _ => ⟨[], rfl, by simp⟩
  | x :: xs, h => by
    rw [List.all_cons, Bool.and_eq_true] at h
    obtain ⟨l, e, hv⟩ := lane_of h.1
    obtain ⟨L, e2, hL⟩ := lanes_all h.2
    refine ⟨l :: L, by rw [e, e2]; rfl, fun m hm => ?_⟩
    rcases List.mem_cons.mp hm with q | q
    · subst q; exact hv
    · exact hL m q
theorem encLn_lane {l : Ln} (h : LaneV l) : isLaneD (encLn l) = true := by
  obtain ⟨h1, h2, h3, h4, h5, h6, h7⟩ := h
  show (isNameS l.nm && isNameS l.to && !decide (l.nm = "home") && (decide (1 ≤ l.wd) && decide (l.wd ≤ 9)) && (decide (1 ≤ l.lg) && decide (l.lg ≤ 20))) = true
  simp [h1, h2, h3, h4, h5, h6, h7]
theorem sorted_get {L : List Ln} (h : sortedB L = true) {k : Nat} {a b : Ln} (ha : L[k]? = some a) (hb : L[k + 1]? = some b) : a.nm.cps.toList < b.nm.cps.toList := by
  unfold sortedB at h
  rw [List.all_eq_true] at h
  have := h k (by
    rw [List.mem_range]
    have := (List.getElem?_eq_some_iff.mp hb).1
    omega)
  rw [ha, hb] at this
  exact of_decide_eq_true this
theorem sorted_lt {L : List Ln} (h : sortedB L = true) : ∀ (d : Nat) {k : Nat} {a b : Ln}, L[k]? = some a → L[k + d + 1]? = some b → a.nm.cps.toList < b.nm.cps.toList
  | 0, k, a, b, ha, hb => sorted_get h ha hb
  | d + 1, k, a, b, ha, hb => by
    have hlt := (List.getElem?_eq_some_iff.mp hb).1
    have e : L[k + d + 1]? = some L[k + d + 1] := List.getElem?_eq_getElem (by omega)
    exact List.lt_trans (sorted_lt h d ha e) (sorted_get h e hb)
theorem sorted_nodup {L : List Ln} (h : sortedB L = true) : (L.map Ln.nm).Nodup := by
  refine List.pairwise_iff_getElem.mpr fun i j hi hj hij q => ?_
  rw [List.length_map] at hi hj
  rw [List.getElem_map, List.getElem_map] at q
  have hlt := sorted_lt h (j - i - 1) (k := i) (a := L[i]) (b := L[j]) (List.getElem?_eq_getElem (by omega)) (by
    rw [show i + (j - i - 1) + 1 = j by omega]
    exact List.getElem?_eq_getElem hj)
  rw [q] at hlt
  exact absurd hlt (List.lt_irrefl _)
theorem name_okS {s : Str} (h : isNameS s = true) : okS s := ⟨Nat.le_trans (name_len h) (by decide), name_ok h⟩
theorem atI_off {α : Type} (xs : List α) (k : Nat) (z : Int) (hz : z = (k : Int)) : atI xs z = xs[k]? := by rw [hz]; exact atI_nat xs k
theorem w_are_lanes : WPP 4 t_are_lanes F_are_lanes := by
  rintro _ Q E ⟨d, rfl, hd, q⟩
  have e : ∀ c : Bool, areLanesD d = c → Q (.bl c) := fun c h => h ▸ q
  cases d with
  | tup xs =>
    obtain ⟨hl, hs⟩ := Bool.and_eq_true_iff.mp hd
    have hl' : xs.length ≤ 1000 := of_decide_eq_true hl
    have hsm : ∀ x ∈ xs, small2 x = true := List.all_eq_true.mp hs
    walk_at "w"
    refine ⟨rfl, ?_⟩
    walk_at "w"
    have f1 : ∀ {c : Bool}, decide ((1 : Int) ≤ (xs.length : Int)) = c → decide (1 ≤ xs.length) = c := fun h => dec_cast (a := 1) h
    have f2 : ∀ {c : Bool}, decide ((xs.length : Int) ≤ 8) = c → decide (xs.length ≤ 8) = c := fun h => dec_cast (b := 8) h
    refine br_of (fun h1 => ?_) (fun h1 => ?_) <;> walk_at "w"
    · refine br_of (fun h2 => ?_) (fun h2 => ?_)
      · have h2 : decide ((xs.length : Int) ≤ 8) = false := by simpa using h2
        walk_at "w"
        refine e _ ?_
        show (decide (1 ≤ xs.length) && decide (xs.length ≤ 8) && _ && _) = false
        rw [f2 h2, Bool.and_false]
        rfl
      · have h2 : decide ((xs.length : Int) ≤ 8) = true := by simpa using h2
        walk_at "w"
        refine dLC_self (fun x => .bl (isLaneD x)) trivial _ (small_len hl') (fun x hx Y N hy => ?_) ?_
        · walk_at "w"
          exact ⟨x, rfl, hsm x hx, hy⟩
        walk_at "w"
        rw [blsD_map]
        walk_at "w"
        rw [all_id_map]
        have ea : ∀ c : Bool, (xs.all isLaneD && (match lnsD xs with | some L => areLanesL L | none => false)) = c → Q (.bl c) := fun c hc => e c (by
          show (decide (1 ≤ xs.length) && decide (xs.length ≤ 8) && xs.all isLaneD && (match lnsD xs with | some L => areLanesL L | none => false)) = c
          rw [f1 h1, f2 h2]
          exact hc)
        refine br_of (fun h3 => ?_) (fun h3 => ?_)
        · have h3 : xs.all isLaneD = false := by simpa using h3
          walk_at "w"
          refine ea _ ?_
          rw [h3]
          rfl
        · have h3 : xs.all isLaneD = true := by simpa using h3
          obtain ⟨L, rfl, hv⟩ := lanes_all h3
          rw [h3, lnsD_enc] at ea
          have hlL : L.length ≤ 1000 := by rwa [List.length_map] at hl'
          have h1L : 1 ≤ L.length := by simpa using f1 h1
          walk_at "w"
          refine ⟨?_, ?_, ?_⟩
          · rw [List.length_map]
            omega
          · rw [List.length_map]
            omega
          · have en : (((L.map encLn).length : Int) - 1).toNat = L.length - 1 := by rw [List.length_map]; omega
            rw [en]
            refine dLC_map (fun i : Nat => .int ((0 : Int) + (i : Nat))) (fun k => .bl (ltNm L[k]? L[k + 1]?)) trivial _ (by rw [List.length_range]; exact small_len (by omega)) (fun k hk Y N hy => ?_) ?_
            · have hk := List.mem_range.mp hk
              have ga : L[k]? = some L[k] := List.getElem?_eq_getElem (by omega)
              have gb : L[k + 1]? = some L[k + 1] := List.getElem?_eq_getElem (by omega)
              rw [ga, gb] at hy
              walk_at "w"
              rw [atI_off _ k _ (by omega), List.getElem?_map, ga]
              walk_at "w"
              rw [atI_off _ (k + 1) _ (by omega), List.getElem?_map, gb]
              walk_at "w"
              exact hy
            · walk_at "w"
              rw [blsD_map]
              walk_at "w"
              rw [all_id_map]
              refine br_of (fun h4 => ?_) (fun h4 => ?_)
              · have h4 : sortedB L = false := by
                  show (List.range (L.length - 1)).all _ = false
                  simpa using h4
                walk_at "w"
                refine ea _ ?_
                show areLanesL L = false
                unfold areLanesL
                rw [h4]
                rfl
              · have h4 : sortedB L = true := by
                  show (List.range (L.length - 1)).all _ = true
                  simpa using h4
                walk_at "w"
                refine dLC_map encLn (fun l => .bl (wayOf L l.nm).isSome) trivial L (small_len hlL) (fun l hl Y N hy => ?_) ?_
                · walk_at "w"
                  refine ⟨L, l.nm, rfl, sorted_nodup h4, hlL, name_okS (hv l hl).1, fun m hm => name_okS (hv m hm).2.1, ?_⟩
                  cases hw : wayOf L l.nm with
                  | none =>
                    rw [hw] at hy
                    walk_at "w"
                    exact hy
                  | some ws =>
                    rw [hw] at hy
                    walk_at "w"
                    exact hy
                · walk_at "w"
                  rw [blsD_map]
                  walk_at "w"
                  rw [all_id_map]
                  refine ea _ ?_
                  show areLanesL L = _
                  unfold areLanesL
                  rw [h4, Bool.true_and]
    · refine e _ ?_
      show (decide (1 ≤ xs.length) && decide (xs.length ≤ 8) && _ && _) = false
      rw [f1 h1]
      rfl
  | _ =>
    first
    | (cases hd; done)
    | (walk_at "w"
       refine ⟨rfl, ?_⟩
       walk_at "w"
       exact e _ rfl)
theorem w_need_lanes : WPP 1 t_need_lanes F_need_lanes := by
  rintro _ Q E ⟨d, rfl, hd, q1, q2⟩
  walk_at "w"
  refine ⟨d, rfl, hd, ?_⟩
  walk_at "w"
  refine br_of (fun h => ?_) (fun h => ?_)
  · exact q2 (by simpa using h)
  · exact q1 (by simpa using h)
end DL

end
section
set_option maxRecDepth 100000
/-! zip of lists and tuples, mixed. -/
namespace DL
open PySem L2 PyProof.Rows
/-! ### lists or tuples -/
def SqX (K : PySem.W.Frag) (b : Bool) (H : Hp) (a : Addr) (xs : List V) : Prop := match b with | true => SqT K H a xs | false => SqL K H a xs
def SeqX (b : Bool) (h : Heap) (a : Addr) (xs : Array Value) : Prop := match b with | true => h.IsTuple a xs | false => h.IsList a xs
def ItX (b : Bool) (h : Heap) (it a : Addr) (i : Nat) : Prop := match b with | true => h.IsTupleIter it a i | false => h.IsListIter it a i
def itO (b : Bool) (a : Addr) : Obj := match b with | true => { cls := .type "tuple_iterator", data := .fields #[.ref a, .int 0 0] } | false => { cls := .type "list_iterator", data := .fields #[.ref a, .int 0 0] }
theorem bgn (b : Bool) (a : Addr) (xs : Array Value) : Begins (.ref a) (itO b a) fun h => SeqX b h a xs := by
  cases b with
  | true => exact begins_tuple a xs
  | false => exact begins_list a xs
theorem itX_0 {b : Bool} {h : Heap} {it a : Addr} (e : h.get? it = some (itO b a)) : ItX b h it a 0 := by
  cases b with
  | true => exact ⟨_, e, rfl, rfl⟩
  | false => exact ⟨_, e, rfl, rfl⟩
theorem SeqX.at {b : Bool} {h h' : Heap} {a : Addr} {xs : Array Value} (x : SeqX b h a xs) (k : ∀ o, h.get? a = some o → h'.get? a = some o) : SeqX b h' a xs := by
  cases b with
  | true => exact (show h.IsTuple a xs from x).at fun o e => k o e
  | false => exact (show h.IsList a xs from x).at fun o e => k o e
theorem ItX.at {b : Bool} {h h' : Heap} {it a : Addr} {i : Nat} (x : ItX b h it a i) (k : ∀ o, h.get? it = some o → h'.get? it = some o) : ItX b h' it a i := by
  cases b with
  | true => exact (show h.IsTupleIter it a i from x).at fun o e => k o e
  | false => exact (show h.IsListIter it a i from x).at fun o e => k o e
theorem ItX.ob {b : Bool} {h : Heap} {it a : Addr} {i : Nat} (x : ItX b h it a i) : ∃ o, h.get? it = some o ∧ ∀ v, o.data ≠ .cell v := by
  cases b with
  | true => obtain ⟨o, e, _, d⟩ := (show h.IsTupleIter it a i from x); exact ⟨o, e, fun v q => by rw [d] at q; cases q⟩
  | false => obtain ⟨o, e, _, d⟩ := (show h.IsListIter it a i from x); exact ⟨o, e, fun v q => by rw [d] at q; cases q⟩
theorem SeqX.ob {b : Bool} {h : Heap} {a : Addr} {xs : Array Value} (x : SeqX b h a xs) : ∃ o, h.get? a = some o := by
  cases b with
  | true => obtain ⟨o, e, _⟩ := (show h.IsTuple a xs from x); exact ⟨o, e⟩
  | false => obtain ⟨o, e, _⟩ := (show h.IsList a xs from x); exact ⟨o, e⟩
theorem draws_x {prog : Program} {w : World} {A : Around} (hh : A.handled = none) (b : Bool) (it a : Addr) (hne : a ≠ it) (xs : Array Value) :
    Draws prog w A it [it, a] xs.size (fun i v => xs[i]? = some v) (fun i h => ItX b h it a i ∧ SeqX b h a xs) := by
  cases b with
  | true => exact Draws.tuple hh it a hne xs
  | false => exact Draws.list hh it a hne xs
theorem seq_x {X : Cx} {pins : List (Addr × Obj)} {σ : L2.St} {H : Hp} {s : Shared} {b : Bool} {a : Addr} {xs : List V} (I : Inv X pins σ H s) (h : SqX X.K b H a xs) : ∃ its, Vals xs its ∧ SeqX b s.heap a its.toArray ∧ xs.length = its.length := by
  cases b with
  | true =>
    obtain ⟨its, rv, p, _⟩ := I.tuple h
    exact ⟨its, rv, p, rv.length⟩
  | false =>
    obtain ⟨its, rv, p, _⟩ := I.list h
    exact ⟨its, rv, p.isList, rv.length⟩
theorem sqX_inj {X : Cx} {pins : List (Addr × Obj)} {σ : L2.St} {H : Hp} {s : Shared} {b : Bool} {a : Addr} {xs ys : List V} (I : Inv X pins σ H s) (h : SqX X.K b H a xs) (h' : SqX X.K b H a ys) : xs = ys := by
  cases b with
  | true => exact I.tuple_inj h h'
  | false => exact I.list_inj h h'
/-! ### the pairs -/
def Itz2 (K : PySem.W.Frag) (b1 b2 : Bool) (a b : Addr) : It :=
  ⟨fun i H => ∃ (xs ys : List V) (x y : V), SqX K b1 H a xs ∧ SqX K b2 H b ys ∧ xs[i]? = some x ∧ ys[i]? = some y,
    fun i H v H' => ∃ T x y, v = .ref T ∧ H T = none ∧ H' = upd H T (.tup [x, y]) ∧ (∀ xs, SqX K b1 H a xs → xs[i]? = some x) ∧ ∀ ys, SqX K b2 H b ys → ys[i]? = some y,
    fun i H => ∃ xs ys : List V, SqX K b1 H a xs ∧ SqX K b2 H b ys ∧ i ≤ xs.length ∧ i ≤ ys.length ∧ (xs.length = i ∨ ys.length = i)⟩
theorem zap_sep {z TI TO i1 i2 a b : Addr} (D : ZipApart z TI TO i1 i2 a b) : ZipSep2 z TI TO i1 i2 [i1, a] [i2, b] where
  TIz := D.TIz
  TOz := D.TOz
  TITO := D.TITO
  TIi1 := D.TIi1
  mem1 := by simp
  zf1 := by simp [D.i1z.symm, D.l1z.symm]
  Tf1 := by simp [D.TOi1, D.l1TO.symm]
  TIi2 := D.TIi2
  mem2 := by simp
  zf2 := by simp [D.i2z.symm, D.l2z.symm]
  Tf2 := by simp [D.TOi2, D.l2TO.symm]
  sep1_2 := by simp [D.i12, D.l2i1.symm]
  sep2_1 := by simp [D.i12.symm, D.l1i2.symm]
theorem turn_zip2 {P : Program} {w : World} {K : PySem.W.Frag} {elts : List Expr} {kk : Nat} {tpos : Pos} {b1 b2 : Bool} {a b z TI TO i1 i2 : Addr} (D : ZipApart z TI TO i1 i2 a b) :
    Turn P w K (.Tuple elts kk tpos) (Itz2 K b1 b2 a b) [z, TI, TO, i1, i2] z (fun i h => IsZip h z TI TO .none ∧ IsTupOf2 h TI (.ref i1) (.ref i2) ∧ (∃ x y, IsTupOf2 h TO x y) ∧ ItX b1 h i1 a i ∧ ItX b2 h i2 b i) where
  mem := by simp
  obj := fun i h st c hc => by
    obtain ⟨hz, hTI, ⟨x, y, hTO⟩, h1, h2⟩ := st
    have e' : c = z ∨ c = TI ∨ c = TO ∨ c = i1 ∨ c = i2 := by simpa using hc
    rcases e' with q | q | q | q | q
    · rw [q]; exact ⟨_, hz, fun v q => nomatch q⟩
    · rw [q]; exact ⟨_, hTI, fun v q => nomatch q⟩
    · rw [q]; exact ⟨_, hTO, fun v q => nomatch q⟩
    · rw [q]; exact h1.ob
    · rw [q]; exact h2.ob
  keep := fun i h h' st k => by
    obtain ⟨hz, hTI, ⟨x, y, hTO⟩, h1, h2⟩ := st
    exact ⟨k z (by simp) _ hz, k TI (by simp) _ hTI, ⟨x, y, k TO (by simp) _ hTO⟩, h1.at fun o q => k i1 (by simp) o q, h2.at fun o q => k i2 (by simp) o q⟩
  item := by
    intro X hP hw hK hc i pins s σ H E I hf st hg
    subst hP hw hK
    obtain ⟨hz, hTI, ⟨x0, y0, hTO⟩, h1, h2⟩ := st
    obtain ⟨xs, ys, x, y, hqx, hqy, hx, hy⟩ := hg
    obtain ⟨its, rv, p, l1⟩ := seq_x I hqx
    obtain ⟨its2, rv2, p2, l2⟩ := seq_x I hqy
    obtain ⟨u, hu, ru⟩ := rv.get hx
    obtain ⟨u2, hu2, ru2⟩ := rv2.get hy
    have hzl : z < s.heap.objs.size := Heap.lt_size hz
    have n1 : i < its.toArray.size := by rw [List.size_toArray]; exact (List.getElem?_eq_some_iff.mp hu).1
    have n2 : i < its2.toArray.size := by rw [List.size_toArray]; exact (List.getElem?_eq_some_iff.mp hu2).1
    have hh : X.A.handled = none := I.ok.hd hc
    refine wpAny_pyNext_zipD2_item (zap_sep D) (draws_x (A := X.A.in1) hh b1 i1 a D.l1i1 its.toArray) (draws_x (A := X.A.in1) hh b2 i2 b D.l2i2 its2.toArray) hz hTI hTO ⟨h1, p⟩ ⟨h2, p2⟩ n1 n2 fun v1 v2 h' tk e1 e2 z' TO' s1' s2' hT hsz hk => ?_
    have e1' : v1 = u := by
      have q : its[i]? = some v1 := by simpa using e1
      rw [hu] at q
      exact (Option.some.inj q).symm
    have e2' : v2 = u2 := by
      have q : its2[i]? = some v2 := by simpa using e2
      rw [hu2] at q
      exact (Option.some.inj q).symm
    subst e1' e2'
    refine ⟨_, rfl, wpAny_letOwnedTupleGo_zip (s := { s with heap := h', toks := tk }) z' fun h'' z'' sb => ?_⟩
    have hT2 : h''.get? s.heap.objs.size = some { cls := .type "tuple", data := .seq #[v1, v2] } := (sb.2 _ (Nat.ne_of_gt hzl)).trans hT
    have new : ObjOk X.prog X.w (upd H s.heap.objs.size (.tup [x, y])) h'' s.heap.objs.size (.tup [x, y]) :=
      ⟨by show 2 ≤ sizeLine; decide, [v1, v2], .cons ru (.cons ru2 .nil), ⟨_, hT2, rfl, _, rfl⟩⟩
    have I1 : Inv X pins σ (upd H s.heap.objs.size (.tup [x, y])) { s with heap := h'', toks := tk } :=
      I.turnedNew (t' := tk) (ch := [z, TI, TO, i1, i2]) (fun c o hb q => (sb.2 c (fun q' => hb (by simp [q']))).trans (hk c o (fun q' => hb (by simp [q'])) (fun q' => hb (by simp [q'])) (fun q' => hb (by simp [q'])) (fun q' => hb (by simp [q'])) q)) hf (Nat.le_refl _) new
    refine ⟨.ref s.heap.objs.size, _, I1, rfl, ⟨_, x, y, rfl, I.hok.fresh (Nat.le_refl _), rfl, fun l hl => by rw [sqX_inj I hl hqx]; exact hx, fun l hl => by rw [sqX_inj I hl hqy]; exact hy⟩, ⟨z'', ?_, ⟨v1, v2, ?_⟩, ?_, ?_⟩, fun c hcm => ?_⟩
    · exact (sb.2 _ D.TIz).trans (hk _ _ D.TIz D.TITO D.TIi1 D.TIi2 hTI)
    · exact (sb.2 _ D.TOz).trans TO'
    · exact s1'.1.at fun o q => (sb.2 _ D.i1z).trans q
    · exact s2'.1.at fun o q => (sb.2 _ D.i2z).trans q
    · have hlt : c < s.heap.objs.size := by
        have e' : c = z ∨ c = TI ∨ c = TO ∨ c = i1 ∨ c = i2 := by simpa using hcm
        rcases e' with q | q | q | q | q
        · rw [q]; exact hzl
        · rw [q]; exact Heap.lt_size hTI
        · rw [q]; exact Heap.lt_size hTO
        · rw [q]; obtain ⟨_, e1, _⟩ := h1.ob; exact Heap.lt_size e1
        · rw [q]; obtain ⟨_, e2, _⟩ := h2.ob; exact Heap.lt_size e2
      rw [upd_ne (Nat.ne_of_lt hlt)]
      exact (hf c hcm).1
  done := by
    intro X hP hw hK hc i pins s σ H E I hf st hg
    subst hP hw hK
    obtain ⟨hz, hTI, ⟨x0, y0, hTO⟩, h1, h2⟩ := st
    obtain ⟨xs, ys, hqx, hqy, le1, le2, hend⟩ := hg
    obtain ⟨its, rv, p, l1⟩ := seq_x I hqx
    obtain ⟨its2, rv2, p2, l2⟩ := seq_x I hqy
    have hh : X.A.handled = none := I.ok.hd hc
    refine wpAny_pyNext_zipD2_end (zap_sep D) (draws_x (A := X.A.in1) hh b1 i1 a D.l1i1 its.toArray) (draws_x (A := X.A.in1) hh b2 i2 b D.l2i2 its2.toArray) hz hTI hTO ⟨h1, p⟩ ⟨h2, p2⟩ (by rw [List.size_toArray]; omega) (by rw [List.size_toArray]; omega) (by rw [List.size_toArray, List.size_toArray]; omega) fun h' tk hk => ⟨rfl, I.turnedL (t' := tk) (ch := [z, TI, TO, i1, i2]) (fun c o hb q =>
      hk c o (fun q' => hb (by simp [q'])) (fun q' => hb (by simp [q'])) (fun q' => hb (by simp [q'])) (fun q' => hb (by simp [q'])) q) hf⟩
  self := fun A i s Q E st h => wpAny_pyIter_zip st.1 h
def iZipX (K : PySem.W.Frag) (ta : TA) : TI := fun σ H R => ta σ H fun vs H1 => ∃ b1 b2 a b xs ys, vs = [.ref a, .ref b] ∧ SqX K b1 H1 a xs ∧ SqX K b2 H1 b ys ∧ R (Itz2 K b1 b2 a b) H1
theorem pi_zipX {X : Cx} {e e2 : Expr} {ta : TA} {p pos tpos : Pos} {elts : List Expr} {kk : Nat} (hg : Gl X "zip") (hm : X.mg "zip" = none) (ha : PA X [e, e2] ta)
    (hs : starEach [e, e2] X.env = (false, eval e X.env) :: starEach [e2] X.env := by rfl) (hpl : (backTo pos (starEach [e2] X.env)).any (·.1) = false := by rfl) :
    PI X (.Tuple elts kk tpos) (.Call (.Name "zip" p) [e, e2] [] pos) (iZipX X.K ta) := by
  refine ⟨fun pins s σ H R I h => ?_⟩
  refine Call_ (ld_blt I hg hm PyProof.Rows.boot_zip (PyProof.Rows.callWith_type1 (thn (ha.run pos pins s σ H _ I h) fun us s1 ⟨vs, H1, I1, r1, q1⟩ => ?_) hs hpl))
  obtain ⟨b1, b2, a, b, xs, ys, ex, hqx, hqy, q⟩ := q1
  subst ex
  obtain ⟨u1, u2, eu, ra, rb⟩ := r1.two
  subst eu
  obtain rfl : u1 = Value.ref a := ra
  obtain rfl : u2 = Value.ref b := rb
  obtain ⟨its, rv, p1, _⟩ := seq_x I1 hqx
  obtain ⟨its2, rv2, p2, _⟩ := seq_x I1 hqy
  have fresh5 : ∀ c, c ∈ [s1.heap.objs.size + 4, s1.heap.objs.size + 2, s1.heap.objs.size + 3, s1.heap.objs.size, s1.heap.objs.size + 1] → FpOk X pins H1 c := fun c hcm => by
    have hle : s1.heap.objs.size ≤ c := by
      simp only [List.mem_cons, List.not_mem_nil, or_false] at hcm
      rcases hcm with z | z | z | z | z <;> rw [z] <;> first | exact Nat.le_add_right _ _ | exact Nat.le_refl _
    exact I1.fpOk hle (I1.hok.fresh hle)
  obtain ⟨o1, ho1⟩ := p1.ob
  obtain ⟨o2, ho2⟩ := p2.ob
  refine zip_begins2 (bgn b1 a its.toArray) (bgn b2 b its2.toArray) p1 p2 fun h' hz hTI hTO h1 h2 hsz hk => wpAny_pyIter_zip hz ?_
  have I2 : Inv X pins σ H1 { s1 with heap := h' } := I1.kept (t' := s1.toks) hk
  exact ⟨s1.heap.objs.size + 4, [s1.heap.objs.size + 4, s1.heap.objs.size + 2, s1.heap.objs.size + 3, s1.heap.objs.size, s1.heap.objs.size + 1], _, _, H1, rfl, I2, turn_zip2 (PySem.W.ktu_apart s1.heap.objs.size a b (Heap.lt_size ho1) (Heap.lt_size ho2)), ⟨hz, hTI, ⟨_, _, hTO⟩, itX_0 h1, itX_0 h2⟩, fresh5, q⟩
/-! over data -/
/-- the items of a value that is walked, and what must stay as it is -/
def seqOf (M : List DO) : Val → Option (List D × (List DO → Prop))
  | .d (.lst ds) => some (ds, noK)
  | .d (.tup ds) => some (ds, noK)
  | .mu j => (match M[j]? with | some (.lst ds) => some (ds, fun M => M[j]? = some (.lst ds)) | _ => none)
  | _ => none
/-- such a value, as it stands all along -/
structure SqAt (K : PySem.W.Frag) (R : Hp) (A : List (List Addr)) (Kp : List DO → Prop) (b : Bool) (p : Addr) (ds : List D) : Prop where
  run : ∀ {g : Gh} {E : Sl} {M : List DO} {σ : L2.St} {Hx Rx : Hp} {Ax : List (List Addr)}, Ok K g E M σ Hx Rx Ax → Sub R Rx → ExtA A Ax → Kp M → ∃ vs, SqX K b Hx p vs ∧ RepL K Rx ds vs
theorem seqOf_at {K : PySem.W.Frag} {g : Gh} {E : Sl} {M : List DO} {σ : L2.St} {H R : Hp} {A : List (List Addr)} {v : Val} {x : V} {ds : List D} {Kp : List DO → Prop} (ok : Ok K g E M σ H R A) (r : RepV K R A v x) (h : seqOf M v = some (ds, Kp)) : ∃ b p, x = .ref p ∧ SqAt K R A Kp b p ds ∧ Kp M := by
  unfold seqOf at h
  split at h
  · cases h
    obtain ⟨p, vs, e, h1, h2⟩ := r
    exact ⟨false, p, e, ⟨fun ok' s _ _ => ⟨vs, .of (ok'.sub _ _ (s _ _ h1)), RepL.mono s _ h2⟩⟩, trivial⟩
  · cases h
    obtain ⟨p, vs, e, h1, h2⟩ := r
    exact ⟨true, p, e, ⟨fun ok' s _ _ => ⟨vs, .of (ok'.sub _ _ (s _ _ h1)), RepL.mono s _ h2⟩⟩, trivial⟩
  · rename_i j
    split at h
    · rename_i ds' e1
      cases h
      obtain ⟨p, l, ea, ex⟩ := r
      refine ⟨false, p, ex, ⟨fun ok' s x' kp => ?_⟩, e1⟩
      obtain ⟨l', e2, b, vs, e3, h1, h2⟩ := ok'.obj.get kp
      have e4 := Option.some.inj ((x' _ _ ea).symm.trans e2)
      rw [e3] at e4
      injection e4 with e4 _
      subst e4
      exact ⟨vs, .of h1, h2⟩
    · cases h
  · cases h
theorem SqAt.mono {K : PySem.W.Frag} {R R' : Hp} {A A' : List (List Addr)} {Kp : List DO → Prop} {b : Bool} {p : Addr} {ds : List D} (h : SqAt K R A Kp b p ds) (s : Sub R R') (x : ExtA A A') : SqAt K R' A' Kp b p ds := ⟨fun ok s' x' k => h.run ok (s.trans s') (x.trans x') k⟩
def pair2 (xs ys : List D) : List D := List.zipWith (fun x y => .tup [x, y]) xs ys
theorem sqX_eq {K : PySem.W.Frag} {b : Bool} {H : Hp} {p : Addr} {vs ws : List V} (h : SqX K b H p vs) : True := trivial
theorem walk_zip2 {K : PySem.W.Frag} {R : Hp} {A : List (List Addr)} {Kp Kq : List DO → Prop} {b1 b2 : Bool} {p q : Addr} {xs ys : List D} (h1 : SqAt K R A Kp b1 p xs) (h2 : SqAt K R A Kq b2 q ys) :
    WalkD K (Itz2 K b1 b2 p q) R A (fun M => Kp M ∧ Kq M) (pair2 xs ys) where
  go := fun i d ok s x kp e => by
    obtain ⟨vs, a1, r1⟩ := h1.run ok s x kp.1
    obtain ⟨ws, a2, r2⟩ := h2.run ok s x kp.2
    unfold pair2 at e
    rw [List.getElem?_zipWith] at e
    cases ex : xs[i]? with
    | none => rw [ex] at e; cases e
    | some dx =>
      cases ey : ys[i]? with
      | none => rw [ex, ey] at e; cases e
      | some dy =>
        rw [ex, ey] at e
        cases e
        obtain ⟨v, ev, rv⟩ := r1.get ex
        obtain ⟨w, ew, rw'⟩ := r2.get ey
        refine ⟨⟨vs, ws, v, w, a1, a2, ev, ew⟩, fun z H2 yl => ?_⟩
        obtain ⟨T, v', w', e1, e2, e3, e4, e5⟩ := yl
        subst e1 e3
        have q1 := e4 vs a1
        have q2 := e5 ws a2
        rw [ev] at q1
        rw [ew] at q2
        cases q1
        cases q2
        have hR := ok.nR e2
        exact ⟨_, .inr (.inl ⟨T, _, e2, rfl, rfl⟩), ⟨T, _, rfl, upd_same, v, _, rfl, Rep.mono (Sub.upd hR) _ rv, w, _, rfl, Rep.mono (Sub.upd hR) _ rw', rfl⟩⟩
  stop := fun ok s x kp => by
    obtain ⟨vs, a1, r1⟩ := h1.run ok s x kp.1
    obtain ⟨ws, a2, r2⟩ := h2.run ok s x kp.2
    have l1 := r1.length
    have l2 := r2.length
    refine ⟨vs, ws, a1, a2, ?_, ?_, ?_⟩ <;> (unfold pair2; rw [List.length_zipWith]; omega)
def iZip2 (U : TDA) : TDI := fun E M Q => U E M fun vs M1 => match vs with
  | [v, w] => oq (seqOf M1 v) fun a => oq (seqOf M1 w) fun b => Q (pair2 a.1 b.1) (fun M => a.2 M ∧ b.2 M) M1
  | _ => False
theorem di_zip2 {X : Cx} {g : Gh} {e e2 : Expr} {U : TDA} {p pos tpos : Pos} {elts : List Expr} {kk : Nat} (hg : Gl X "zip") (hm : X.mg "zip" = none) (ha : DA X g [e, e2] U)
    (hs : starEach [e, e2] X.env = (false, eval e X.env) :: starEach [e2] X.env := by rfl) (hpl : (backTo pos (starEach [e2] X.env)).any (·.1) = false := by rfl) :
    DI X g (.Tuple elts kk tpos) (.Call (.Name "zip" p) [e, e2] [] pos) (iZip2 U) :=
  PIm (pi_zipX hg hm ha hs hpl) fun σ H Q ⟨E, M, R, A, Qd, ok, h, k⟩ => by
    refine ⟨E, M, R, A, _, ok, h, fun vs M1 xs H1 R1 A1 q1 ok1 s1 x1 r1 => ?_⟩
    split at q1
    · rename_i v w
      obtain ⟨⟨ds, Kp⟩, e1, q1⟩ := oq_elim q1
      obtain ⟨⟨es, Kq⟩, e3, q1⟩ := oq_elim q1
      obtain ⟨x, y, ex, r2, r3⟩ := r1.two
      obtain ⟨b1, p1, ep1, a1, k1⟩ := seqOf_at ok1 r2 e1
      obtain ⟨b2, p2, ep2, a2, k2⟩ := seqOf_at ok1 r3 e3
      obtain ⟨us, c1, _⟩ := a1.run ok1 (Sub.refl _) (ExtA.refl _) k1
      obtain ⟨ws, c2, _⟩ := a2.run ok1 (Sub.refl _) (ExtA.refl _) k2
      subst ep1 ep2
      exact ⟨b1, b2, p1, p2, us, ws, ex, c1, c2, k _ _ _ _ _ _ _ q1 ok1 s1 x1 (walk_zip2 a1 a2)⟩
    · exact q1.elim
end DL

end
section
set_option maxRecDepth 10000
/-! list(..) to be changed, dict(pairs), {}, get; dicts of lists that change. -/
namespace DL
open PySem L2 PyProof.Rows
/-! ### list(..), to be changed -/
def lstOf : D → Option (List D) | .lst xs => some xs | .tup xs => some xs | _ => none
def dListM (U : TDA) : TD := fun E M Q => U E M fun vs M1 => match vs with | [v] => oq (rd M1 v) fun d => oq (lstOf d) fun xs => Q (.mu M1.length) (M1 ++ [.lst xs]) | _ => False
section
variable {X : Cx} {g : Gh} {p pos : Pos} {e : Expr} {U : TDA}
theorem de_listM (hg : Gl X "list") (hm : X.mg "list" = none) (ha : DA X g [e] U) (he : starEach [e] X.env = (false, eval e X.env) :: starEach [] X.env := by rfl) (hpl : (backTo pos (starEach [] X.env)).any (·.1) = false := by rfl) :
    DE X g (.Call (.Name "list" p) [e] [] pos) (dListM U) :=
  PEm (pe_callTy call_list_of hg hm boot_list ha (by decide) (by decide) he hpl) fun σ H Q ⟨E, M, R, A, Qd, ok, h, k⟩ => by
    refine ⟨E, M, R, A, _, ok, h, fun vs M1 xs H1 R1 A1 q1 ok1 s1 x1 r1 => ?_⟩
    split at q1
    · rename_i v
      obtain ⟨d, e1, q1⟩ := oq_elim q1
      obtain ⟨ds, e2, q1⟩ := oq_elim q1
      obtain ⟨x, r, ex, h1, h2⟩ := r1
      have h2 : r = [] := h2
      subst ex h2
      have n := ok1.now h1 e1
      unfold lstOf at e2
      split at e2
      · cases e2
        obtain ⟨a, us, ea, h3, h4⟩ := n
        exact ⟨a, us, by rw [ea], .inl (.of h3), fun l hl => k _ _ _ _ _ _ q1 (ok1.new hl ⟨l, us, rfl, upd_same, h4⟩) s1 (x1.trans (ExtA.app _ _)) ⟨l, [], ok1.at_len _, rfl⟩⟩
      · cases e2
        obtain ⟨a, us, ea, h3, h4⟩ := n
        exact ⟨a, us, by rw [ea], .inr (.of (ok1.sub _ _ h3)), fun l hl => k _ _ _ _ _ _ q1 (ok1.new hl ⟨l, us, rfl, upd_same, h4⟩) s1 (x1.trans (ExtA.app _ _)) ⟨l, [], ok1.at_len _, rfl⟩⟩
      · cases e2
    · exact q1.elim
end
/-! ### {} -/
def dDictK : TD := fun _ M Q => Q (.mu M.length) (M ++ [.dk []])
def dDictT : TD := fun _ M Q => Q (.mu M.length) (M ++ [.dt []])
section
variable {X : Cx} {g : Gh} {pos : Pos}
theorem de_dictK : DE X g (.Dict [] [] pos) dDictK :=
  PEm pe_dnewK fun σ H Q ⟨E, M, R, A, Qd, ok, h, k⟩ => fun p hp => k _ _ _ _ _ _ h (ok.new hp ⟨p, [], rfl, upd_same, rfl⟩) (Sub.refl _) (ExtA.app _ _) ⟨p, [], ok.at_len _, rfl⟩
theorem de_dictT : DE X g (.Dict [] [] pos) dDictT :=
  PEm pe_dnewT fun σ H Q ⟨E, M, R, A, Qd, ok, h, k⟩ => fun p hp => k _ _ _ _ _ _ h (ok.new hp ⟨p, [], rfl, upd_same, rfl⟩) (Sub.refl _) (ExtA.app _ _) ⟨p, [], ok.at_len _, rfl⟩
end
/-! ### dict(a list of pairs) -/
def pairsD : List D → Option (List (Key × D))
  | [] => some []
  | .tup [k, v] :: r => match keyD k, pairsD r with | some k, some r => some ((k, v) :: r) | _, _ => none
  | _ :: _ => none
def mergeD (kvs more : List (Key × D)) : List (Key × D) := more.foldl (fun acc kv => putD acc kv.1 kv.2) kvs
theorem RepK.merge {K : PySem.W.Frag} {R : Hp} : ∀ {more : List (Key × D)} {vs : List (Key × V)} {kvs : List (Key × D)} {us : List (Key × V)}, RepK K R more vs → RepK K R kvs us → RepK K R (mergeD kvs more) (mergeK us vs)
  | [], vs, kvs, us, h, h' => by have e : vs = [] := h; subst e; exact h'
  | (k0, d) :: more, vs, kvs, us, h, h' => by
    obtain ⟨k, v, r, e, ⟨h0, h1⟩, h2⟩ := h
    subst e h0
    show RepK K R (mergeD (putD kvs k d) more) (mergeK (putK us k v) r)
    exact RepK.merge h2 (h'.put h1)
theorem pairs_rep {K : PySem.W.Frag} {R H : Hp} (s : Sub R H) : ∀ {ds : List D} {kds : List (Key × D)} {vs : List V}, pairsD ds = some kds → RepL K R ds vs → ∃ (ps : List Addr) (kvs : List (Key × V)), vs = ps.map V.ref ∧ Paired (fun p kv => SqT K H p [kV kv.1, kv.2]) ps kvs ∧ RepK K R kds kvs
  | [], kds, vs, h, r => by
    have e : vs = [] := r
    cases (show some [] = some kds from h)
    exact ⟨[], [], e, .nil, rfl⟩
  | d :: ds, kds, vs, h, r => by
    obtain ⟨v, r', e, h1, h2⟩ := r
    unfold pairsD at h
    split at h
    · rename_i q; cases q
    · rename_i k x ds' q
      injection q with q1 q2
      subst q1 q2
      split at h
      · rename_i k' r'' e1 e2
        cases h
        obtain ⟨ps, kvs, e3, e4, e5⟩ := pairs_rep s e2 h2
        obtain ⟨a, us, ea, hA, x1, u1, eu, rk, x2, u2, eu2, rv, eu3⟩ := h1
        have eu3 : u2 = [] := eu3
        subst e e3 ea eu eu2 eu3
        have := keyD_rep e1 rk
        subst this
        exact ⟨a :: ps, (k', x2) :: kvs, rfl, .cons (.of (s _ _ hA)) e4, k', x2, kvs, rfl, ⟨rfl, rv⟩, e5⟩
      · cases h
    · cases h
def dDictPM (U : TDA) : TD := fun E M Q => U E M fun vs M1 => match vs with | [.d (.lst ps)] => oq (pairsD ps) fun kvs => Q (.mu M1.length) (M1 ++ [.dk (mergeD [] kvs)]) | _ => False
def dDictP (U : TDA) : TD := fun E M Q => U E M fun vs M1 => match vs with | [.d (.lst ps)] => oq (pairsD ps) fun kvs => Q (.d (.dk (mergeD [] kvs))) M1 | _ => False
section
variable {X : Cx} {g : Gh} {p pos : Pos} {e : Expr} {U : TDA}
theorem de_dictPM (hc : X.calm = true) (hg : Gl X "dict") (hm : X.mg "dict" = none) (ha : DA X g [e] U) (he : starEach [e] X.env = (false, eval e X.env) :: starEach [] X.env := by rfl) (hpl : (backTo pos (starEach [] X.env)).any (·.1) = false := by rfl) :
    DE X g (.Call (.Name "dict" p) [e] [] pos) (dDictPM U) :=
  PEm (pe_callTy (call_dictP hc) hg hm boot_dict ha (by decide) (by decide) he hpl) fun σ H Q ⟨E, M, R, A, Qd, ok, h, k⟩ => by
    refine ⟨E, M, R, A, _, ok, h, fun vs M1 xs H1 R1 A1 q1 ok1 s1 x1 r1 => ?_⟩
    split at q1
    · obtain ⟨kds, e1, q1⟩ := oq_elim q1
      obtain ⟨x, r, ex, ⟨a, us, ea, h3, h4⟩, h2⟩ := r1
      have h2 : r = [] := h2
      subst ex h2
      obtain ⟨ps, kvs, e2, e3, e4⟩ := pairs_rep ok1.sub e1 h4
      subst e2
      exact ⟨a, ps, kvs, by rw [ea], .of (ok1.sub _ _ h3), e3, fun l hl => k _ _ _ _ _ _ q1 (ok1.new hl ⟨l, _, rfl, upd_same, e4.merge (show RepK X.K R1 [] [] from rfl)⟩) s1 (x1.trans (ExtA.app _ _)) ⟨l, [], ok1.at_len _, rfl⟩⟩
    · exact q1.elim
theorem de_dictP (hc : X.calm = true) (hg : Gl X "dict") (hm : X.mg "dict" = none) (ha : DA X g [e] U) (he : starEach [e] X.env = (false, eval e X.env) :: starEach [] X.env := by rfl) (hpl : (backTo pos (starEach [] X.env)).any (·.1) = false := by rfl) :
    DE X g (.Call (.Name "dict" p) [e] [] pos) (dDictP U) :=
  PEm (pe_frz (pe_callTy (call_dictP hc) hg hm boot_dict ha (by decide) (by decide) he hpl)) fun σ H Q ⟨E, M, R, A, Qd, ok, h, k⟩ => by
    refine ⟨E, M, R, A, _, ok, h, fun vs M1 xs H1 R1 A1 q1 ok1 s1 x1 r1 => ?_⟩
    split at q1
    · obtain ⟨kds, e1, q1⟩ := oq_elim q1
      obtain ⟨x, r, ex, ⟨a, us, ea, h3, h4⟩, h2⟩ := r1
      have h2 : r = [] := h2
      subst ex h2
      obtain ⟨ps, kvs, e2, e3, e4⟩ := pairs_rep ok1.sub e1 h4
      subst e2
      refine ⟨a, ps, kvs, by rw [ea], .of (ok1.sub _ _ h3), e3, fun l hl => ⟨l, _, rfl, upd_same, True.intro, fun od => ?_⟩⟩
      rw [upd_upd]
      have hR := ok1.nR hl
      exact k _ _ _ _ _ _ q1 (ok1.ro hl) (s1.trans (Sub.upd hR)) x1 ⟨l, _, od, rfl, upd_same, RepK.mono (Sub.upd hR) _ (e4.merge (show RepK X.K R1 [] [] from rfl))⟩
    · exact q1.elim
end
/-! ### d.get(k, x) -/
def dicD : D → Bool | .dk _ => true | .dt _ => true | _ => false
theorem dic_at {K : PySem.W.Frag} {H R : Hp} {d : D} {x : V} (h : dicD d = true) (r : Now K H R d x) : ∃ a, x = .ref a ∧ IsD H a := by
  cases d <;> simp [dicD] at h
  · obtain ⟨a, vs, e, h1, _⟩ := r
    exact ⟨a, e, .inl ⟨vs, h1⟩⟩
  · obtain ⟨a, vs, e, h1, _⟩ := r
    exact ⟨a, e, .inr ⟨vs, h1⟩⟩
def dGet2 (T Tk Tx : TD) : TD := fun E M Q => T E M fun v M1 => (oq (rd M1 v) fun a => dicD a = true) ∧ Tk E M1 fun k M2 => Tx E M2 fun x M3 => match k, x with
  | .d kd, .d xd => oq (rd M3 v) fun a => oq (dlook a kd) fun o => Q (.d (o.getD xd)) M3
  | _, _ => False
section
variable {X : Cx} {g : Gh} {o e f : Expr} {apos pos : Pos} {T Tk Tx : TD}
theorem de_get2 (hu : X.A.units + 64 < cLine) (ho : DE X g o T) (hk : DE X g e Tk) (hx : DE X g f Tx) (m : M2 X o "get" apos e f pos := by exact ⟨rfl, rfl, rfl, rfl⟩) : DE X g (.Call (.Attribute o "get" apos) [e, f] [] pos) (dGet2 T Tk Tx) :=
  PEm (pe_dget2 (by omega) ho hk hx m) fun σ H Q ⟨E, M, R, A, Qd, ok, h, k⟩ => by
    refine ⟨E, M, R, A, _, ok, h, fun v M1 x H1 R1 A1 q1 ok1 s1 x1 r1 => ?_⟩
    obtain ⟨q0, q1⟩ := q1
    obtain ⟨d0, e0, d1⟩ := oq_elim q0
    obtain ⟨a, ex, hd⟩ := dic_at d1 (ok1.now r1 e0)
    refine ⟨a, ex, hd, E, M1, R1, A1, _, ok1, q1, fun kv M2 y H2 R2 A2 q2 ok2 s2 x2 r2 => ⟨E, M2, R2, A2, _, ok2, q2, fun xv M3 z H3 R3 A3 q3 ok3 s3 x3 r3 => ?_⟩⟩
    split at q3
    · rename_i kd xd
      obtain ⟨d2, e2, q4⟩ := oq_elim q3
      obtain ⟨o, e3, q5⟩ := oq_elim q4
      obtain ⟨p, w, ep, gg, rl⟩ := dget_of ok3.sub e3 (ok3.now ((r1.mono s2 x2).mono s3 x3) e2) (Rep.now ok3.sub (Rep.mono s3 _ r2))
      rw [ex] at ep
      cases ep
      refine ⟨w, gg, ?_⟩
      cases o with
      | none =>
        have rl : w = none := rl
        subst rl
        exact k _ _ _ _ _ _ q5 ok3 ((s1.trans s2).trans s3) ((x1.trans x2).trans x3) r3
      | some dd =>
        obtain ⟨zz, e4, r4⟩ := rl
        subst e4
        exact k _ _ _ _ _ _ q5 ok3 ((s1.trans s2).trans s3) ((x1.trans x2).trans x3) r4
    · exact q3.elim
end
/-! ### dicts of lists that change -/
def lookDl : List (Key × List D) → Key → Option (List D)
  | [], _ => none
  | (k', ds) :: r, k => if k' = k then some ds else lookDl r k
def appD : List (Key × List D) → Key → D → List (Key × List D)
  | [], _, _ => []
  | (k', ds) :: r, k, y => if k' = k then (k', ds ++ [y]) :: r else (k', ds) :: appD r k y
theorem RepLs.find {K : PySem.W.Frag} {R H : Hp} : ∀ {as : List Addr} {kvs : List (Key × List D)} {vs : List (Key × V)} {k : Key} {ds : List D}, RepLs K R H as kvs vs → lookDl kvs k = some ds → ∃ b ∈ as, valV vs k = some (.ref b) ∧ ∃ xs, H b = some (.lst xs) ∧ RepL K R ds xs
  | [], [], vs, k, ds, h, e => by cases e
  | a :: as, (k0, d0) :: kvs, vs, k, ds, h, e => by
    obtain ⟨r', ev, ⟨xs, h1, h2⟩, h3⟩ := h
    subst ev
    unfold lookDl at e
    by_cases q : k0 = k
    · rw [if_pos q] at e
      cases e
      exact ⟨a, List.mem_cons_self, valV_pos q, xs, h1, h2⟩
    · rw [if_neg q] at e
      obtain ⟨b, hb, e1, e2⟩ := RepLs.find h3 e
      exact ⟨b, List.mem_cons_of_mem _ hb, by rw [valV_neg q]; exact e1, e2⟩
  | [], _ :: _, _, _, _, h, _ => h.elim
  | _ :: _, [], _, _, _, h, _ => h.elim
theorem RepLs.upd {K : PySem.W.Frag} {R H : Hp} {b : Addr} {y : D} {z : V} {xs : List V} (rz : Rep K R y z) (hb : H b = some (.lst xs)) : ∀ {as : List Addr} {kvs : List (Key × List D)} {vs : List (Key × V)} {k : Key}, as.Nodup → RepLs K R H as kvs vs → valV vs k = some (.ref b) → (lookDl kvs k).isSome = true →
    RepLs K R (upd H b (.lst (xs ++ [z]))) as (appD kvs k y) vs
  | [], [], vs, k, _, h, _, e => by cases e
  | a :: as, (k0, d0) :: kvs, vs, k, nd, h, ev, e => by
    obtain ⟨r', e1, ⟨ws, h1, h2⟩, h3⟩ := h
    subst e1
    obtain ⟨n1, n2⟩ := List.nodup_cons.mp nd
    unfold lookDl at e
    unfold appD
    by_cases q : k0 = k
    · rw [if_pos q]
      rw [valV_pos q] at ev
      have ev := V.ref.inj (Option.some.inj ev)
      subst ev
      rw [h1] at hb
      cases hb
      exact ⟨r', rfl, ⟨_, upd_same, h2.app ⟨z, [], rfl, rz, rfl⟩⟩, h3.mono (Sub.refl _) fun c hc => upd_ne fun w => n1 (w ▸ hc)⟩
    · rw [if_neg q] at e
      rw [if_neg q]
      rw [valV_neg q] at ev
      have ih := RepLs.upd rz hb n2 h3 ev e
      have nb : a ≠ b := fun w => by
        subst w
        obtain ⟨ds', hds⟩ := Option.isSome_iff_exists.mp e
        obtain ⟨b', hb', e2, _⟩ := RepLs.find h3 hds
        rw [ev] at e2
        cases e2
        exact n1 hb'
      exact ⟨r', rfl, ⟨ws, by rw [upd_ne nb]; exact h1, h2⟩, ih⟩
  | [], _ :: _, _, _, _, h, _, _ => h.elim
  | _ :: _, [], _, _, _, h, _, _ => h.elim
theorem RepLs.same_at {K : PySem.W.Frag} {R H R' H' : Hp} : ∀ {as : List Addr} {kvs : List (Key × List D)} {vs ws : List (Key × V)} {k : Key} {ds : List D}, RepLs K R H as kvs vs → RepLs K R' H' as kvs ws → lookDl kvs k = some ds → valV vs k = valV ws k
  | [], [], vs, ws, k, ds, h, h', e => by cases e
  | a :: as, (k0, d0) :: kvs, vs, ws, k, ds, h, h', e => by
    obtain ⟨r, ev, _, h3⟩ := h
    obtain ⟨r', ev', _, h3'⟩ := h'
    subst ev ev'
    unfold lookDl at e
    by_cases q : k0 = k
    · rw [valV_pos q, valV_pos q]
    · rw [if_neg q] at e
      rw [valV_neg q, valV_neg q]
      exact RepLs.same_at h3 h3' e
  | [], _ :: _, _, _, _, _, h, _, _ => h.elim
  | _ :: _, [], _, _, _, _, h, _, _ => h.elim
/-- d[k].append(x) -/
def dAppL (T Tk : TD) (U : TDA) : TD := fun E M Q => T E M fun v M1 => Tk E M1 fun k M2 => match v, k with
  | .mu j, .d kd => oq (keyD kd) fun k => (match M2[j]? with
    | some (.dl kvs) => (lookDl kvs k).isSome = true ∧ U E M2 fun xs M3 => M3[j]? = some (.dl kvs) ∧ oq (dsV xs) fun ds => (match ds with
      | [y] => oq (lookDl kvs k) fun es => es.length < sizeLine ∧ Q (.d .non) (M3.set j (.dl (appD kvs k y)))
      | _ => False)
    | _ => False)
  | _, _ => False
/-- tuple(d[k]) -/
def dTupL (T Tk : TD) : TD := fun E M Q => T E M fun v M1 => Tk E M1 fun k M2 => match v, k with
  | .mu j, .d kd => oq (keyD kd) fun k => (match M2[j]? with
    | some (.dl kvs) => oq (lookDl kvs k) fun ds => Q (.d (.tup ds)) M2
    | _ => False)
  | _, _ => False
section
variable {X : Cx} {g : Gh} {o i e : Expr} {es : List Expr} {T Tk : TD} {U : TDA} {p p1 apos pos : Pos}
theorem Ok.dl_at {K : PySem.W.Frag} {E : Sl} {M : List DO} {σ : L2.St} {H R : Hp} {A : List (List Addr)} {j : Nat} {kvs : List (Key × List D)} {k : Key} {ds : List D} {a : Addr} {l : List Addr} (ok : Ok K g E M σ H R A) (ea : A[j]? = some (a :: l)) (em : M[j]? = some (.dl kvs)) (e : lookDl kvs k = some ds) :
    ∃ vs b xs, H a = some (.dK vs) ∧ b ∈ l ∧ valV vs k = some (.ref b) ∧ H b = some (.lst xs) ∧ RepL K R ds xs ∧ RepLs K R H l kvs vs := by
  obtain ⟨l', e1, a', as, vs, e2, h1, h2⟩ := ok.obj.get em
  have e3 := Option.some.inj (ea.symm.trans e1)
  rw [e2] at e3
  injection e3 with e3 e4
  subst e3 e4
  obtain ⟨b, hb, ev, xs, hx, rx⟩ := h2.find e
  exact ⟨vs, b, xs, h1, hb, ev, hx, rx, h2⟩
theorem de_appL (hu : X.A.units + 64 < cLine) (ho : DE X g o T) (hi : DE X g i Tk) (ha : DA X g (e :: es) U) (hs : PlainIx i := by exact fun _ _ => rfl) (hbase : attributeBase (.Subscript o i p1) "append" X.env (eval (.Subscript o i p1) X.env) = eval (.Subscript o i p1) X.env := by rfl)
    (hfew : ((backTo pos (starEach (e :: es) X.env)).all (fun x => !x.1) && (backToKw pos (keywordEach [] X.env)).all (fun x => x.1.isSome)
      && decide ((e :: es).length + ([] : List Keyword).length + (if ([] : List Keyword).isEmpty then 0 else 1) < 30)) = true := by rfl)
    (hline : (apos.endLine == pos.line) = true := by rfl) (hst : starEach (e :: es) X.env = (false, eval e X.env) :: starEach es X.env := by rfl) (hplain : (backTo pos (starEach es X.env)).any (·.1) = false := by rfl) :
    DE X g (.Call (.Attribute (.Subscript o i p1) "append" apos) (e :: es) [] pos) (dAppL T Tk U) :=
  PEm (pe_bm PySem.F.plainAttrs_list PySem.F.slot_list_append PySem.F.type_list_append mt_append (pe_ix (ix_dict hu) ho hi hs) ha hbase hfew hline hst hplain) fun σ H Q ⟨E, M, R, A, Qd, ok, h, kk⟩ => by
    refine ⟨E, M, R, A, _, ok, h, fun v M1 x H1 R1 A1 q1 ok1 s1 x1 r1 => ⟨E, M1, R1, A1, _, ok1, q1, fun kv M2 y H2 R2 A2 q2 ok2 s2 x2 r2 => ?_⟩⟩
    split at q2
    · rename_i j kd
      obtain ⟨k, ek, q3⟩ := oq_elim q2
      split at q3
      · rename_i kvs em
        obtain ⟨qs, q3⟩ := q3
        obtain ⟨ds, eds⟩ := Option.isSome_iff_exists.mp qs
        obtain ⟨a, l, ea, ex⟩ := r1
        subst ex
        have ea2 := x2 _ _ ea
        obtain ⟨vs, b, xs, h1, hb, ev, hx, rx, rl⟩ := ok2.dl_at ea2 em eds
        have ey := keyD_rep ek r2
        subst ey
        refine ⟨a, .ref b, rfl, by rw [← ev]; exact .k h1, .inl ⟨rfl, xs, .of hx⟩, E, M2, R2, A2, _, ok2, q3, fun us M3 zs H3 R3 A3 q4 ok3 s3 x3 r3 => ?_⟩
        obtain ⟨em3, q4⟩ := q4
        obtain ⟨ys, ey2, q5⟩ := oq_elim q4
        split at q5
        · rename_i yd
          obtain ⟨es', ee, hlen, q6⟩ := oq_elim q5
          rw [eds] at ee
          cases ee
          have ea3 := x3 _ _ ea2
          obtain ⟨vs3, b3, xs3, h13, hb3, ev3, hx3, rx3, rl3⟩ := ok3.dl_at ea3 em3 eds
          have eb : b3 = b := by
            have m1 := rl.same_at rl3 eds
            rw [ev, ev3] at m1
            cases m1
            rfl
          subst eb
          obtain ⟨z, rz', ez, rz, e0⟩ := dsV_rep ey2 r3
          have e0 : rz' = [] := e0
          subst ez e0
          refine ⟨b3, xs3, z, rfl, rfl, hx3, by rw [← rx3.length]; exact hlen, ?_⟩
          have nd : (a :: l).Nodup := ok3.nd.sublist (List.sublist_flatten_of_mem (List.mem_of_getElem? ea3))
          obtain ⟨na, nl⟩ := List.nodup_cons.mp nd
          have nab : a ≠ b3 := fun w => na (w ▸ hb3)
          refine kk _ _ _ _ _ _ q6 (ok3.put (d := .dl (appD kvs k yd)) ea3 (List.mem_cons_of_mem _ hb3) ⟨a, l, vs3, rfl, by rw [upd_ne nab]; exact h13, rl3.upd rz hx3 nl ev3 (by rw [eds]; rfl)⟩) (((s1.trans s2).trans s3)) ((x1.trans x2).trans x3) rfl
        · exact q5.elim
      · exact q3.elim
    · exact q2.elim
theorem de_tupL (hu : X.A.units + 64 < cLine) (hg : Gl X "tuple") (hm : X.mg "tuple" = none) (ho : DE X g o T) (hi : DE X g i Tk) (hs : PlainIx i := by exact fun _ _ => rfl)
    (he : starEach [.Subscript o i p1] X.env = (false, eval (.Subscript o i p1) X.env) :: starEach [] X.env := by rfl) (hpl : (backTo pos (starEach [] X.env)).any (·.1) = false := by rfl) :
    DE X g (.Call (.Name "tuple" p) [.Subscript o i p1] [] pos) (dTupL T Tk) :=
  PEm (pe_callTy call_tuple_of hg hm boot_tuple (pa_cons (pe_ix (ix_dict hu) ho hi hs) pa_nil he) (by decide) (by decide) he hpl) fun σ H Q ⟨E, M, R, A, Qd, ok, h, kk⟩ => by
    refine ⟨E, M, R, A, _, ok, h, fun v M1 x H1 R1 A1 q1 ok1 s1 x1 r1 => ⟨E, M1, R1, A1, _, ok1, q1, fun kv M2 y H2 R2 A2 q2 ok2 s2 x2 r2 => ?_⟩⟩
    split at q2
    · rename_i j kd
      obtain ⟨k, ek, q3⟩ := oq_elim q2
      split at q3
      · rename_i kvs em
        obtain ⟨ds, eds, q4⟩ := oq_elim q3
        obtain ⟨a, l, ea, ex⟩ := r1
        subst ex
        have ea2 := x2 _ _ ea
        obtain ⟨vs, b, xs, h1, hb, ev, hx, rx, rl⟩ := ok2.dl_at ea2 em eds
        have ey := keyD_rep ek r2
        subst ey
        refine ⟨a, .ref b, rfl, by rw [← ev]; exact .k h1, b, xs, rfl, .inl ⟨.of hx, ?_⟩⟩
        exact fin_tup (Qd := fun d => Qd (.d d) M2) ok2 rx q4 fun d z H' R' qd ok' s' r' => kk _ _ _ _ _ _ qd ok' ((s1.trans s2).trans s') (x1.trans x2) r'
      · exact q3.elim
    · exact q2.elim
end
end DL

end
section
set_option maxRecDepth 10000
/-! Dicts of new lists. -/
namespace DL
open PySem L2 PyProof.Rows
/-- things made here that nothing else knows -/
structure Loose (g : Gh) (R : Hp) (A : List (List Addr)) (bs : List Addr) : Prop where
  nd : bs.Nodup
  h0 : ∀ b ∈ bs, g.H0 b = none
  r : ∀ b ∈ bs, R b = none
  a : ∀ b ∈ bs, ∀ l ∈ A, b ∉ l
section
variable {K : PySem.W.Frag} {g : Gh} {E E' : Sl} {M M' : List DO} {σ σ' : L2.St} {H R H' R' : Hp} {A A' : List (List Addr)} {bs : List Addr} {p : Addr}
theorem Ok.adoptMs (x : Ok K g E M σ H R A) {l0 : List Addr} (z : Loose g R A l0) {d : DO} (ho : Own K R H l0 d) : Ok K g E (M ++ [d]) σ H R (A ++ [l0]) := by
  have hl : g.A0.length ≤ A.length := by
    have e := congrArg List.length x.pre
    rw [List.length_take] at e
    omega
  refine ⟨x.keep, x.sub0, x.sub, x.fresh, ?_, fun l hl' a ha => ?_, ?_, fun l hl a ha => ?_, x.obj.app ⟨d, [], rfl, ho, rfl⟩, x.slots.mono (Sub.refl _) (ExtA.app _ _)⟩
  · rw [List.take_append_of_le_length hl]; exact x.pre
  · rw [List.drop_append_of_le_length hl] at hl'
    rcases List.mem_append.mp hl' with q | q
    · exact x.newA l q a ha
    · simp at q; subst q; exact z.h0 a ha
  · rw [List.flatten_append]
    refine List.nodup_append.mpr ⟨x.nd, by simpa using z.nd, fun a ha b hb q => ?_⟩
    obtain ⟨l, hl, hal⟩ := List.mem_flatten.mp ha
    simp at hb
    subst q
    exact z.a a hb l hl hal
  · rcases List.mem_append.mp hl with q | q
    · exact x.nr l q a ha
    · simp at q; subst q; exact z.r a ha
/-- through a run that began here -/
theorem Loose.run (z : Loose g R A bs) (y : Ok K ⟨H, R, A⟩ E' M' σ' H' R' A') (hb : ∀ b ∈ bs, ∃ o, H b = some o ∧ ∀ xs, o ≠ .tup xs) : Loose g R' A' bs ∧ ∀ b ∈ bs, H' b = H b := by
  have k : ∀ b ∈ bs, H' b = H b ∧ R' b = none ∧ ∀ l ∈ A', b ∉ l := fun b h => by
    obtain ⟨o, e, nt⟩ := hb b h
    obtain ⟨k1, k2, k3⟩ := y.kept1 e (z.a b h) (z.r b h) nt
    exact ⟨by rw [k1, e], k2, k3⟩
  exact ⟨⟨z.nd, z.h0, fun b h => (k b h).2.1, fun b h => (k b h).2.2⟩, fun b h => (k b h).1⟩
theorem Loose.stepR (z : Loose g R A bs) (hb : ∀ b ∈ bs, ∃ o, H b = some o ∧ ∀ xs, o ≠ .tup xs) (s : StepR H R H' R') : Loose g R' A bs ∧ ∀ b ∈ bs, H' b = H b := by
  rcases s with ⟨e1, e2⟩ | ⟨p, o, hp, e1, e2⟩ | ⟨e1, q, ws, hq, e2⟩
  · subst e1 e2; exact ⟨z, fun _ _ => rfl⟩
  · subst e1 e2
    have ne : ∀ b ∈ bs, b ≠ p := fun b h => by
      obtain ⟨o, e, _⟩ := hb b h
      exact ne_of_none e hp
    exact ⟨⟨z.nd, z.h0, fun b h => by rw [upd_ne (ne b h)]; exact z.r b h, z.a⟩, fun b h => upd_ne (ne b h)⟩
  · subst e1 e2
    have ne : ∀ b ∈ bs, b ≠ q := fun b h w => by
      obtain ⟨o, e, nt⟩ := hb b h
      subst w
      rw [hq] at e
      cases e
      exact nt _ rfl
    exact ⟨⟨z.nd, z.h0, fun b h => by rw [upd_ne (ne b h)]; exact z.r b h, z.a⟩, fun _ _ => rfl⟩
theorem Loose.cons (z : Loose g R A bs) (ok : Ok K g E M σ H R A) (hp : H p = none) (hn : p ∉ bs) : Loose g R A (bs ++ [p]) := by
  have hR := ok.nR hp
  refine ⟨List.nodup_append.mpr ⟨z.nd, by simp, fun a ha b hb q => ?_⟩, fun b h => ?_, fun b h => ?_, fun b h => ?_⟩
  · simp at hb
    subst hb q
    exact hn ha
  · rcases List.mem_append.mp h with q | q
    · exact z.h0 b q
    · simp at q; subst q; exact ok.fr hp
  · rcases List.mem_append.mp h with q | q
    · exact z.r b q
    · simp at q; subst q; exact hR
  · rcases List.mem_append.mp h with q | q
    · exact z.a b q
    · simp at q; subst q; exact ok.nA hp
end
theorem RepLs.ob {K : PySem.W.Frag} {R H : Hp} : ∀ {as : List Addr} {ds : List (Key × List D)} {vs : List (Key × V)}, RepLs K R H as ds vs → ∀ b ∈ as, ∃ o, H b = some o ∧ ∀ xs, o ≠ .tup xs
  | a :: as, (k, d) :: ds, vs, h, b, hb => by
    obtain ⟨r', e, ⟨xs, h1, h2⟩, h3⟩ := h
    rcases List.mem_cons.mp hb with q | q
    · subst q; exact ⟨_, h1, fun xs z => nomatch z⟩
    · exact RepLs.ob h3 b q
  | [], _, _, _, b, hb => absurd hb (by simp)
  | _ :: _, [], _, h, _, _ => h.elim
theorem RepLs.len {K : PySem.W.Frag} {R H : Hp} : ∀ {as : List Addr} {ds : List (Key × List D)} {vs : List (Key × V)}, RepLs K R H as ds vs → as.length = ds.length ∧ vs.map (·.1) = ds.map (·.1)
  | [], [], vs, h => by have e : vs = [] := h; subst e; exact ⟨rfl, rfl⟩
  | a :: as, (k, d) :: ds, vs, h => by
    obtain ⟨r', e, _, h3⟩ := h
    subst e
    obtain ⟨i1, i2⟩ := RepLs.len h3
    exact ⟨by rw [List.length_cons, List.length_cons, i1], by rw [List.map_cons, List.map_cons, i2]⟩
  | [], _ :: _, _, h => h.elim
  | _ :: _, [], _, h => h.elim
theorem RepLs.app1 {K : PySem.W.Frag} {R H : Hp} {p : Addr} {k : Key} (hp : H p = some (.lst [])) : ∀ {as : List Addr} {ds : List (Key × List D)} {vs : List (Key × V)}, RepLs K R H as ds vs → RepLs K R H (as ++ [p]) (ds ++ [(k, [])]) (vs ++ [(k, .ref p)])
  | [], [], vs, h => by have e : vs = [] := h; subst e; exact ⟨[], rfl, ⟨[], hp, rfl⟩, rfl⟩
  | a :: as, (k0, d) :: ds, vs, h => by
    obtain ⟨r', e, h2, h3⟩ := h
    subst e
    exact ⟨_, rfl, h2, RepLs.app1 hp h3⟩
  | [], _ :: _, _, h => h.elim
  | _ :: _, [], _, h => h.elim
def dDL (Kp : List DO → Prop) (t : TDG) (tk : TD) (E : Sl) (Q : List Key → List DO → Prop) : List D → List Key → List DO → Prop
  | [], acc, M => Kp M ∧ Q acc M
  | d :: ds, acc, M => Kp M ∧ t (.d d) E M fun E1 M1 => tk E1 M1 (onK fun key M2 => acc.length < sizeLine ∧ key ∉ acc ∧ dDL Kp t tk E Q ds (acc ++ [key]) M2)
def dDictL (T : TDI) (t : TDG) (tk : TD) (vs : List Nat) : TD := fun E M Q => T E M fun ds Kp M1 => dDL Kp t tk (wE E vs) (fun acc M2 => Q (.mu M2.length) (M2 ++ [.dl (acc.map fun k => (k, []))])) ds [] M1
theorem putK_new {vs : List (Key × V)} {k : Key} {v : V} (h : k ∉ vs.map (·.1)) : putK vs k v = vs ++ [(k, v)] := by
  unfold putK
  rw [if_neg]
  intro q
  obtain ⟨kv, h1, h2⟩ := List.any_eq_true.mp q
  exact h (List.mem_map.mpr ⟨kv, h1, of_decide_eq_true h2⟩)
theorem if_yes {P Q : Prop} (h : P) : if true = true then P else Q := by rw [if_pos rfl]; exact h
section
variable {X : Cx} {g : Gh} {pos : Pos}
theorem lift_dcL {T : TDI} {t : TDG} {tk : TD} {is vs : List Nat} (hs : ∀ i ∈ is, i ∈ vs) {K : PySem.W.Frag} {σ : L2.St} {H : Hp} {Q : VK} (h : lift K g (dDictL T t tk vs) σ H Q) :
    tDc (liftI K g T) (exG fun g' => liftG K g' is t) tYes (exE fun g' => lift K g' tk) (fun σ H Q => (0 : Nat) ≤ sizeLine ∧ ∀ p, H p = none → Q (.ref p) (upd H p (.lst []))) vs σ H Q := by
  obtain ⟨E, M, R, A, Qd, ok, h, k⟩ := h
  refine ⟨E, M, R, A, _, ok, h, fun ds Kp M1 H1 R1 A1 J q1 ok1 s1 x1 wk => fun D hD => ?_⟩
  refine ⟨fun i m Hx => m = ds.length - i ∧ i ≤ ds.length ∧ ∃ M' R' A' ks as xs, Ok K g E M' σ Hx R' A' ∧ Sub R1 R' ∧ ExtA A1 A' ∧ Hx D = some (.dK xs) ∧ RepLs K R' Hx as (ks.map fun k => (k, [])) xs ∧ Loose g R' A' (D :: as) ∧
      dDL Kp t tk (wE E vs) (fun acc M2 => Qd (.mu M2.length) (M2 ++ [.dl (acc.map fun k => (k, []))])) (ds.drop i) ks M',
    ⟨_, rfl, Nat.zero_le _, M1, R1, A1, [], [], [], ok1.extra hD, Sub.refl _, ExtA.refl _, upd_same, (show RepLs K R1 _ [] [] [] from rfl), ⟨by simp, by simpa using ok1.fr hD, by simpa using ok1.nR hD, by simpa using ok1.nA hD⟩, q1⟩, ?_⟩
  rintro i m Hx ⟨rfl, hi, M', R', A', ks, as, xs, ok', s', x', eD, rl, lo, q'⟩
  have obs : ∀ b ∈ D :: as, ∃ o, Hx b = some o ∧ ∀ xs, o ≠ .tup xs := fun b hb => by
    rcases List.mem_cons.mp hb with q | q
    · subst q; exact ⟨_, eD, fun xs z => nomatch z⟩
    · exact rl.ob b q
  by_cases hlt : i < ds.length
  · have e : ds[i]? = some ds[i] := List.getElem?_eq_getElem hlt
    rw [List.drop_eq_getElem_cons hlt] at q'
    obtain ⟨kp, q'⟩ := q'
    obtain ⟨w1, w2⟩ := wk.go i _ ok' s' x' kp e
    refine .inr ⟨w1, fun Hn => ∃ M' R' A' ks as xs, Ok K g E M' σ Hn R' A' ∧ Sub R1 R' ∧ ExtA A1 A' ∧ Hn D = some (.dK xs) ∧ RepLs K R' Hn as (ks.map fun k => (k, [])) xs ∧ Loose g R' A' (D :: as) ∧
      dDL Kp t tk (wE E vs) (fun acc M2 => Qd (.mu M2.length) (M2 ++ [.dl (acc.map fun k => (k, []))])) (ds.drop (i + 1)) ks M', fun Hn n => ⟨_, by omega, rfl, hlt, n⟩, fun x H2 y => ?_⟩
    obtain ⟨R2, st, r2⟩ := w2 x H2 y
    obtain ⟨ok2, s2⟩ := ok'.stepR st
    obtain ⟨lo2, same2⟩ := lo.stepR obs st
    have obs2 : ∀ b ∈ D :: as, ∃ o, H2 b = some o ∧ ∀ xs, o ≠ .tup xs := fun b hb => by rw [same2 b hb]; exact obs b hb
    have okh := ok2.here
    have okw : Ok K ⟨H2, R2, A'⟩ (wE E vs) M' (L2.wipe σ vs) H2 R2 A' := okh.slotsTo (okh.slots.wipe vs)
    refine ⟨⟨H2, R2, A'⟩, wE E vs, M', R2, A', _, .d ds[i], okw, r2, q', fun E3 M3 σ3 H3 R3 A3 q3 so ok3 s3 x3 => ⟨so.wipe hs, ?_⟩⟩
    refine ⟨⟨H2, R2, A'⟩, E3, M3, R3, A3, _, ok3, q3, fun kv M5 y H5 R5 A5 q5 ok5 s5 x5 r5 => ⟨Nat.zero_le _, fun p hp => ?_⟩⟩
    obtain ⟨kd, key, ekv, ek, hlen, hnew, q6⟩ := onK_elim q5
    subst ekv
    obtain ⟨lo5, same5⟩ := lo2.run ok5 obs2
    have okb := ok2.back ok5
    have s25 : Sub R2 R5 := s3.trans s5
    have x25 : ExtA A' A5 := x3.trans x5
    have all5 : ∀ b ∈ D :: as, H5 b = Hx b := fun b hb => (same5 b hb).trans (same2 b hb)
    have pn : ∀ b ∈ D :: as, b ≠ p := fun b hb => by
      obtain ⟨o, eo, _⟩ := obs b hb
      rw [← all5 b hb] at eo
      exact ne_of_none eo hp
    have hpD : D ≠ p := pn D List.mem_cons_self
    have eD5 : (upd H5 p (.lst [])) D = some (.dK xs) := by rw [upd_ne hpD, all5 D List.mem_cons_self]; exact eD
    have rl5 : RepLs K R5 (upd H5 p (.lst [])) as (ks.map fun k => (k, [])) xs := rl.mono (s2.trans s25) fun b hb => by rw [upd_ne (pn b (List.mem_cons_of_mem _ hb)), all5 b (List.mem_cons_of_mem _ hb)]
    have keys : xs.map (·.1) = ks := by rw [rl.len.2, List.map_map]; exact List.map_id' ks
    have hk : key ∉ xs.map (·.1) := by rw [keys]; exact hnew
    have hlx : xs.length = ks.length := by rw [← keys, List.length_map]
    refine ⟨xs, key, keyD_rep ek r5, eD5, by omega, M5, R5, A5, ks ++ [key], as ++ [p], xs ++ [(key, .ref p)], ?_, (s'.trans s2).trans s25, x'.trans x25, ?_, ?_, ?_, q6⟩
    · rw [putK_new hk]
      have ok6 := (okb.slotsTo (ok2.slots.mono s25 x25)).extra (o := .lst []) hp
      have lz := lo5
      exact ok6.exUpd (lz.h0 D List.mem_cons_self) (lz.r D List.mem_cons_self) (lz.a D List.mem_cons_self)
    · rw [putK_new hk]; exact upd_same
    · rw [List.map_append]
      have nDas : ∀ b ∈ as, b ≠ D := fun b hb w => (List.nodup_cons.mp lo.nd).1 (w ▸ hb)
      refine RepLs.app1 (k := key) ?_ (rl5.mono (Sub.refl _) fun b hb => upd_ne (nDas b hb))
      rw [upd_ne hpD.symm, upd_same]
    · have okq := okb.slotsTo (ok2.slots.mono s25 x25)
      exact lo5.cons okq hp fun w => pn p w rfl
  · have e : i = ds.length := by omega
    subst e
    rw [List.drop_length] at q'
    refine .inl ⟨wk.stop ok' s' x' q'.1, k _ _ _ _ _ _ q'.2 (ok'.adoptMs lo ⟨D, as, xs, rfl, eD, rl⟩) (s1.trans s') ((x1.trans x').trans (ExtA.app _ _)) ⟨D, as, ok'.at_len _, rfl⟩⟩
section
variable {kx tg iter : Expr} {scope : Scope} {own : List (Str × Nat)} {T : TDI} {t : TDG} {tk : TD} {is : List Nat} {lp : Pos}
theorem de_dcL (hc : X.calm = true) (hN : X.N.Nodup) (hi : DI X g tg iter T) (ok : BlkOk X.N X.env.scope scope own)
    (hg : ∀ (s : Shared) (H : Hp) (C : Addr) (cl : List (Str × Addr)) (fp : List Addr) (g' : Gh), DG (X.blk s H scope (compEnvC scope cl C X.env) fp) g' tg is t)
    (hk : ∀ (s : Shared) (H : Hp) (C : Addr) (cl : List (Str × Addr)) (fp : List Addr) (g' : Gh), DE (X.blk s H scope (compEnvC scope cl C X.env) fp) g' kx tk)
    (his : ∀ i ∈ is, i ∈ own.map (·.2) := by decide) (hs : ∀ x, foldedSetIterable iter X.env x = pure x := by intro _; rfl) :
    DE X g (.DictComp kx (.List [] lp) [⟨tg, iter, [], 0⟩] scope pos) (dDictL T t tk (own.map (·.2))) :=
  PEm (pe_dc hc hN hi ok (fun s H C cl fp => PG.ex (hg s H C cl fp)) (fun s H C cl fp => pts_nil) (fun s H C cl fp => PE.ex (hk s H C cl fp)) (fun s H C cl fp => pe_lst pa_nil) hs) fun σ H Q h => lift_dcL his h
end
theorem mergeK_new : ∀ {more acc : List (Key × V)}, (acc.map (·.1) ++ more.map (·.1)).Nodup → mergeK acc more = acc ++ more
  | [], acc, _ => by show acc = _; simp
  | (k, v) :: more, acc, h => by
    show mergeK (putK acc k v) more = _
    have hk : k ∉ acc.map (·.1) := by
      obtain ⟨_, _, h3⟩ := List.nodup_append.mp h
      intro q
      exact h3 _ q k (by simp) rfl
    rw [putK_new hk, mergeK_new]
    · simp
    · simpa using h
theorem paired_app {α β : Type} {F : α → β → Prop} : ∀ {xs : List α} {ys : List β} {xs' : List α} {ys' : List β}, Paired F xs ys → Paired F xs' ys' → Paired F (xs ++ xs') (ys ++ ys')
  | _, _, _, _, .nil, h => h
  | _, _, _, _, .cons r t, h => .cons r (paired_app t h)
theorem paired_imp {α β : Type} {F G : α → β → Prop} (h : ∀ a b, F a b → G a b) : ∀ {xs : List α} {ys : List β}, Paired F xs ys → Paired G xs ys
  | _, _, .nil => .nil
  | _, _, .cons r t => .cons (h _ _ r) (paired_imp h t)
theorem nodup_snoc {α : Type} {xs : List α} {x : α} (h : xs.Nodup) (hx : x ∉ xs) : (xs ++ [x]).Nodup :=
  List.nodup_append.mpr ⟨h, by simp, fun a ha b hb q => by simp at hb; subst hb q; exact hx ha⟩
theorem lift_dictL {T : TDI} {t : TDG} {tk : TD} {is vs : List Nat} (hs : ∀ i ∈ is, i ∈ vs) {K : PySem.W.Frag} {σ : L2.St} {H : Hp} {Q : VK} (h : lift K g (dDictL T t tk vs) σ H Q) :
    tLc (liftI K g T) (exG fun g' => liftG K g' is t) tYes (fun σ H Q => exE (fun g' => lift K g' tk) σ H fun x H1 => (0 : Nat) ≤ sizeLine ∧ ∀ p, H1 p = none → ([x, V.ref p].length ≤ sizeLine ∧ ∀ q, (upd H1 p (.lst [])) q = none → Q (.ref q) (upd (upd H1 p (.lst [])) q (.tup [x, .ref p])))) vs σ H
      (fun x H1 => ∃ (a : Addr) (ps : List Addr) (kvs : List (Key × V)), [x] = [V.ref a] ∧ SqL K H1 a (ps.map V.ref) ∧ Paired (fun p kv => SqT K H1 p [kV kv.1, kv.2]) ps kvs ∧ ∀ p, H1 p = none → Q (.ref p) (upd H1 p (.dK (mergeK [] kvs)))) := by
  obtain ⟨E, M, R, A, Qd, ok, h, k⟩ := h
  refine ⟨E, M, R, A, _, ok, h, fun ds Kp M1 H1 R1 A1 J q1 ok1 s1 x1 wk => fun D hD => ?_⟩
  refine ⟨fun i m Hx => m = ds.length - i ∧ i ≤ ds.length ∧ ∃ M' R' A' ks as xs ts, Ok K g E M' σ Hx R' A' ∧ Sub R1 R' ∧ ExtA A1 A' ∧ Hx D = some (.lst (ts.map V.ref)) ∧ Paired (fun (p : Addr) (kv : Key × V) => R' p = some (.tup [kV kv.1, kv.2])) ts xs ∧ RepLs K R' Hx as (ks.map fun k => (k, [])) xs ∧ ks.Nodup ∧ Loose g R' A' (D :: as) ∧
      dDL Kp t tk (wE E vs) (fun acc M2 => Qd (.mu M2.length) (M2 ++ [.dl (acc.map fun k => (k, []))])) (ds.drop i) ks M',
    ⟨_, rfl, Nat.zero_le _, M1, R1, A1, [], [], [], [], ok1.extra hD, Sub.refl _, ExtA.refl _, upd_same, .nil, (show RepLs K R1 _ [] [] [] from rfl), List.nodup_nil, ⟨by simp, by simpa using ok1.fr hD, by simpa using ok1.nR hD, by simpa using ok1.nA hD⟩, q1⟩, ?_⟩
  rintro i m Hx ⟨rfl, hi, M', R', A', ks, as, xs, ts, ok', s', x', eD, pr, rl, knd, lo, q'⟩
  have obs : ∀ b ∈ D :: as, ∃ o, Hx b = some o ∧ ∀ xs, o ≠ .tup xs := fun b hb => by
    rcases List.mem_cons.mp hb with q | q
    · subst q; exact ⟨_, eD, fun xs z => nomatch z⟩
    · exact rl.ob b q
  have keys : xs.map (·.1) = ks := by rw [rl.len.2, List.map_map]; exact List.map_id' ks
  have hlx : xs.length = ks.length := by rw [← keys, List.length_map]
  by_cases hlt : i < ds.length
  · have e : ds[i]? = some ds[i] := List.getElem?_eq_getElem hlt
    rw [List.drop_eq_getElem_cons hlt] at q'
    obtain ⟨kp, q'⟩ := q'
    obtain ⟨w1, w2⟩ := wk.go i _ ok' s' x' kp e
    refine .inr ⟨w1, fun Hn => ∃ M' R' A' ks as xs ts, Ok K g E M' σ Hn R' A' ∧ Sub R1 R' ∧ ExtA A1 A' ∧ Hn D = some (.lst (ts.map V.ref)) ∧ Paired (fun (p : Addr) (kv : Key × V) => R' p = some (.tup [kV kv.1, kv.2])) ts xs ∧ RepLs K R' Hn as (ks.map fun k => (k, [])) xs ∧ ks.Nodup ∧ Loose g R' A' (D :: as) ∧
      dDL Kp t tk (wE E vs) (fun acc M2 => Qd (.mu M2.length) (M2 ++ [.dl (acc.map fun k => (k, []))])) (ds.drop (i + 1)) ks M', fun Hn n => ⟨_, by omega, rfl, hlt, n⟩, fun x H2 y => ?_⟩
    obtain ⟨R2, st, r2⟩ := w2 x H2 y
    obtain ⟨ok2, s2⟩ := ok'.stepR st
    obtain ⟨lo2, same2⟩ := lo.stepR obs st
    have obs2 : ∀ b ∈ D :: as, ∃ o, H2 b = some o ∧ ∀ xs, o ≠ .tup xs := fun b hb => by rw [same2 b hb]; exact obs b hb
    have okh := ok2.here
    have okw : Ok K ⟨H2, R2, A'⟩ (wE E vs) M' (L2.wipe σ vs) H2 R2 A' := okh.slotsTo (okh.slots.wipe vs)
    refine ⟨⟨H2, R2, A'⟩, wE E vs, M', R2, A', _, .d ds[i], okw, r2, q', fun E3 M3 σ3 H3 R3 A3 q3 so ok3 s3 x3 => ⟨so.wipe hs, ?_⟩⟩
    refine ⟨⟨H2, R2, A'⟩, E3, M3, R3, A3, _, ok3, q3, fun kv M5 y H5 R5 A5 q5 ok5 s5 x5 r5 => ⟨Nat.zero_le _, fun p hp => ⟨by show 2 ≤ sizeLine; decide, fun q hq => ?_⟩⟩⟩
    obtain ⟨kd, key, ekv, ek, hlen, hnew, q6⟩ := onK_elim q5
    subst ekv
    have ey := keyD_rep ek r5
    subst ey
    obtain ⟨lo5, same5⟩ := lo2.run ok5 obs2
    have okb := ok2.back ok5
    have s25 : Sub R2 R5 := s3.trans s5
    have x25 : ExtA A' A5 := x3.trans x5
    have all5 : ∀ b ∈ D :: as, H5 b = Hx b := fun b hb => (same5 b hb).trans (same2 b hb)
    have pn : ∀ b ∈ D :: as, b ≠ p := fun b hb => by
      obtain ⟨o, eo, _⟩ := obs b hb
      rw [← all5 b hb] at eo
      exact ne_of_none eo hp
    have pq : p ≠ q := fun w => by
      subst w
      rw [upd_same] at hq
      cases hq
    have qn : ∀ b ∈ D :: as, b ≠ q := fun b hb w => by
      obtain ⟨o, eo, _⟩ := obs b hb
      rw [← all5 b hb, w] at eo
      rw [upd_ne (fun z => pq z.symm), eo] at hq
      cases hq
    have hk : key ∉ xs.map (·.1) := by rw [keys]; exact hnew
    have okq := okb.slotsTo (ok2.slots.mono s25 x25)
    have okp := okq.extra (o := .lst []) hp
    have okt := okp.ro (o := .tup [kV key, V.ref p]) hq
    have hRq := okp.nR hq
    have sq : Sub R5 (upd R5 q (.tup [kV key, V.ref p])) := Sub.upd hRq
    have lop := lo5.cons okq hp fun w => pn p w rfl
    have lot : Loose g (upd R5 q (.tup [kV key, V.ref p])) A5 ((D :: as) ++ [p]) := ⟨lop.nd, lop.h0, fun b hb => by
      have : b ≠ q := by
        rcases List.mem_append.mp hb with z | z
        · exact qn b z
        · simp at z; rw [z]; exact pq
      rw [upd_ne this]; exact lop.r b hb, lop.a⟩
    have hH : ∀ b ∈ D :: as, (upd (upd H5 p (.lst [])) q (.tup [kV key, V.ref p])) b = Hx b := fun b hb => by rw [upd_ne (qn b hb), upd_ne (pn b hb), all5 b hb]
    refine ⟨ts.map V.ref, by rw [hH D List.mem_cons_self]; exact eD, by rw [List.length_map]; have := pr.length; omega, M5, _, A5, ks ++ [key], as ++ [p], xs ++ [(key, .ref p)], ts ++ [q], ?_, ((s'.trans s2).trans s25).trans sq, x'.trans x25, ?_, ?_, ?_, nodup_snoc knd hnew, lot, q6⟩
    · exact okt.exUpd (lot.h0 D (by simp)) (lot.r D (by simp)) (lot.a D (by simp))
    · rw [upd_same, List.map_append]; rfl
    · exact paired_app (paired_imp (fun a kv e => sq _ _ (s25 _ _ (s2 _ _ e))) pr) (.cons upd_same .nil)
    · rw [List.map_append]
      have nDas : ∀ b ∈ as, b ≠ D := fun b hb w => (List.nodup_cons.mp lo.nd).1 (w ▸ hb)
      refine RepLs.app1 (k := key) ?_ (rl.mono ((s2.trans s25).trans sq) fun b hb => ?_)
      · rw [upd_ne (fun w => pn D List.mem_cons_self w.symm), upd_ne pq, upd_same]
      · rw [upd_ne (nDas b hb)]
        exact hH b (List.mem_cons_of_mem _ hb)
  · have e : i = ds.length := by omega
    subst e
    rw [List.drop_length] at q'
    refine .inl ⟨wk.stop ok' s' x' q'.1, D, ts, xs, rfl, .of eD, paired_imp (fun a kv e => .of (ok'.sub _ _ e)) pr, fun p hp => ?_⟩
    have pn : ∀ b ∈ D :: as, b ≠ p := fun b hb => by
      obtain ⟨o, eo, _⟩ := obs b hb
      exact ne_of_none eo hp
    rw [mergeK_new (acc := []) (by rw [keys]; simpa using knd), List.nil_append]
    have lo1 : Loose g R' A' (p :: as) := ⟨List.nodup_cons.mpr ⟨fun w => pn p (List.mem_cons_of_mem _ w) rfl, (List.nodup_cons.mp lo.nd).2⟩, fun b hb => by
        rcases List.mem_cons.mp hb with z | z
        · rw [z]; exact ok'.fr hp
        · exact lo.h0 b (List.mem_cons_of_mem _ z), fun b hb => by
        rcases List.mem_cons.mp hb with z | z
        · rw [z]; exact ok'.nR hp
        · exact lo.r b (List.mem_cons_of_mem _ z), fun b hb => by
        rcases List.mem_cons.mp hb with z | z
        · rw [z]; exact ok'.nA hp
        · exact lo.a b (List.mem_cons_of_mem _ z)⟩
    refine k _ _ _ _ _ _ q'.2 ((ok'.extra (o := .dK xs) hp).adoptMs lo1 ⟨p, as, xs, rfl, upd_same, rl.mono (Sub.refl _) fun b hb => upd_ne (pn b (List.mem_cons_of_mem _ hb))⟩) (s1.trans s') ((x1.trans x').trans (ExtA.app _ _)) ⟨p, as, ok'.at_len _, rfl⟩
section
variable {kx tg iter : Expr} {scope : Scope} {own : List (Str × Nat)} {T : TDI} {t : TDG} {tk : TD} {is : List Nat} {lp p tp : Pos} {x1 : Nat}
theorem de_dictL (hc : X.calm = true) (hgd : Gl X "dict") (hm : X.mg "dict" = none) (hN : X.N.Nodup) (hi : DI X g tg iter T) (ok : BlkOk X.N X.env.scope scope own)
    (hg : ∀ (s : Shared) (H : Hp) (C : Addr) (cl : List (Str × Addr)) (fp : List Addr) (g' : Gh), DG (X.blk s H scope (compEnvC scope cl C X.env) fp) g' tg is t)
    (hk : ∀ (s : Shared) (H : Hp) (C : Addr) (cl : List (Str × Addr)) (fp : List Addr) (g' : Gh), DE (X.blk s H scope (compEnvC scope cl C X.env) fp) g' kx tk)
    (his : ∀ i ∈ is, i ∈ own.map (·.2) := by decide) (hs : ∀ x, foldedSetIterable iter X.env x = pure x := by intro _; rfl)
    (he : starEach [.ListComp (.Tuple [kx, .List [] lp] x1 tp) [⟨tg, iter, [], 0⟩] scope p] X.env = (false, eval (.ListComp (.Tuple [kx, .List [] lp] x1 tp) [⟨tg, iter, [], 0⟩] scope p) X.env) :: starEach [] X.env := by rfl)
    (hpl : (backTo pos (starEach [] X.env)).any (·.1) = false := by rfl)
    (hse : ∀ (s : Shared) (H : Hp) (C : Addr) (cl : List (Str × Addr)) (fp : List Addr), starEach [kx, .List [] lp] (X.blk s H scope (compEnvC scope cl C X.env) fp).env = (false, eval kx (X.blk s H scope (compEnvC scope cl C X.env) fp).env) :: starEach [.List [] lp] (X.blk s H scope (compEnvC scope cl C X.env) fp).env := by intro _ _ _ _ _; rfl) {dp : Pos} :
    DE X g (.Call (.Name "dict" dp) [.ListComp (.Tuple [kx, .List [] lp] x1 tp) [⟨tg, iter, [], 0⟩] scope p] [] pos) (dDictL T t tk (own.map (·.2))) :=
  PEm (pe_callTy (call_dictP hc) hgd hm boot_dict (pa_cons (pe_lc hc hN hi ok (fun s H C cl fp => PG.ex (hg s H C cl fp)) (fun s H C cl fp => pts_nil) (fun s H C cl fp => pe_tup (pa_cons (PE.ex (hk s H C cl fp)) (pa_cons (pe_lst pa_nil) pa_nil rfl) (hse s H C cl fp))) hs) pa_nil he) (by decide) (by decide) he hpl) fun σ H Q h => lift_dictL his h
end
end
end DL

end
section
set_option maxRecDepth 10000
/-! Comprehensions of two clauses. -/
namespace DL
open PySem L2 PyProof.Rows
def dLCi (Kp : List DO → Prop) (t : TDG) (te : TD) (E : Sl) (Q : List D → List DO → Prop) : List D → List D → List DO → Prop
  | [], acc, M => Kp M ∧ Q acc M
  | d :: ds, acc, M => Kp M ∧ t (.d d) E M fun E1 M1 => te E1 M1 (onD fun x M2 => acc.length < sizeLine ∧ dLCi Kp t te E Q ds (acc ++ [x]) M2)
def dLC2 (Kp : List DO → Prop) (t : TDG) (T1 : TDI) (t1 : TDG) (te : TD) (vs1 : List Nat) (E : Sl) (Q : List D → List DO → Prop) : List D → List D → List DO → Prop
  | [], acc, M => Kp M ∧ Q acc M
  | d :: ds, acc, M => Kp M ∧ t (.d d) E M fun E1 M1 => T1 E1 M1 fun es Kp1 M2 => dLCi Kp1 t1 te (wE E1 vs1) (fun acc' M3 => dLC2 Kp t T1 t1 te vs1 E Q ds acc' M3) es acc M2
def dComp2 (T : TDI) (t : TDG) (T1 : TDI) (t1 : TDG) (te : TD) (vs vs1 : List Nat) : TD := fun E M Q => T E M fun ds Kp M1 => dLC2 Kp t T1 t1 te vs1 (wE E vs) (fun acc M2 => Q (.d (.lst acc)) M2) ds [] M1
section
variable {X : Cx} {g : Gh} {pos : Pos}
theorem lift_lc2 {T T1 : TDI} {t t1 : TDG} {te : TD} {is is1 vs vs1 : List Nat} (hs : ∀ i ∈ is, i ∈ vs) (hs1 : ∀ i ∈ is1, i ∈ vs1) {K : PySem.W.Frag} {σ : L2.St} {H : Hp} {Q : VK} (h : lift K g (dComp2 T t T1 t1 te vs vs1) σ H Q) :
    tLc2 (liftI K g T) (exG fun g' => liftG K g' is t) tYes (exI fun g' => liftI K g' T1) (exG fun g' => liftG K g' is1 t1) tYes (exE fun g' => lift K g' te) vs vs1 σ H Q := by
  obtain ⟨E, M, R, A, Qd, ok, h, k⟩ := h
  refine ⟨E, M, R, A, _, ok, h, fun ds Kp M1 H1 R1 A1 J q1 ok1 s1 x1 wk => fun D hD => ?_⟩
  have hD0 := ok1.fr hD
  refine ⟨fun i m Hx => m = ds.length - i ∧ i ≤ ds.length ∧ ∃ M' R' A' acc xs, Ok K g E M' σ Hx R' A' ∧ Sub R1 R' ∧ ExtA A1 A' ∧ Hx D = some (.lst xs) ∧ RepL K R' acc xs ∧ Loose g R' A' [D] ∧ dLC2 Kp t T1 t1 te vs1 (wE E vs) (fun acc M2 => Qd (.d (.lst acc)) M2) (ds.drop i) acc M',
    ⟨_, rfl, Nat.zero_le _, M1, R1, A1, [], [], ok1.extra hD, Sub.refl _, ExtA.refl _, upd_same, rfl, ⟨by simp, by simpa using hD0, by simpa using ok1.nR hD, by simpa using ok1.nA hD⟩, q1⟩, ?_⟩
  rintro i m Hx ⟨rfl, hi, M', R', A', acc, xs, ok', s', x', eD, ra, lo, q'⟩
  have obs : ∀ {Hx : Hp} {xs : List V}, Hx D = some (.lst xs) → ∀ b ∈ [D], ∃ o, Hx b = some o ∧ ∀ xs, o ≠ .tup xs := fun {Hx xs} e b hb => by
    simp at hb; subst hb; exact ⟨_, e, fun xs z => nomatch z⟩
  by_cases hlt : i < ds.length
  · have e : ds[i]? = some ds[i] := List.getElem?_eq_getElem hlt
    rw [List.drop_eq_getElem_cons hlt] at q'
    obtain ⟨kp, q'⟩ := q'
    obtain ⟨w1, w2⟩ := wk.go i _ ok' s' x' kp e
    refine .inr ⟨w1, fun Hn => ∃ M' R' A' acc xs, Ok K g E M' σ Hn R' A' ∧ Sub R1 R' ∧ ExtA A1 A' ∧ Hn D = some (.lst xs) ∧ RepL K R' acc xs ∧ Loose g R' A' [D] ∧ dLC2 Kp t T1 t1 te vs1 (wE E vs) (fun acc M2 => Qd (.d (.lst acc)) M2) (ds.drop (i + 1)) acc M', fun Hn n => ⟨_, by omega, rfl, hlt, n⟩, fun x H2 y => ?_⟩
    obtain ⟨R2, st, r2⟩ := w2 x H2 y
    obtain ⟨ok2, s2⟩ := ok'.stepR st
    obtain ⟨lo2, same2⟩ := lo.stepR (obs eD) st
    have eD2 : H2 D = some (.lst xs) := by rw [same2 D (by simp)]; exact eD
    have okh := ok2.here
    have okw : Ok K ⟨H2, R2, A'⟩ (wE E vs) M' (L2.wipe σ vs) H2 R2 A' := okh.slotsTo (okh.slots.wipe vs)
    refine ⟨⟨H2, R2, A'⟩, wE E vs, M', R2, A', _, .d ds[i], okw, r2, q', fun E3 M3 σ3 H3 R3 A3 q3 so ok3 s3 x3 => ⟨so.wipe hs, ?_⟩⟩
    refine ⟨⟨H2, R2, A'⟩, E3, M3, R3, A3, _, ok3, q3, fun es Kp1 M4 H4 R4 A4 J1 q4 ok4 s4 x4 wk1 => ?_⟩
    obtain ⟨lo4, same4⟩ := lo2.run ok4 (obs eD2)
    have ok4g := ok2.back ok4
    have eD4 : H4 D = some (.lst xs) := by rw [same4 D (by simp)]; exact eD2
    have s24 : Sub R2 R4 := s3.trans s4
    have x24 : ExtA A' A4 := x3.trans x4
    refine ⟨fun j n Hy => n = es.length - j ∧ j ≤ es.length ∧ ∃ M5 R5 A5 acc5 xs5, Ok K g E3 M5 σ3 Hy R5 A5 ∧ Sub R4 R5 ∧ ExtA A4 A5 ∧ Hy D = some (.lst xs5) ∧ RepL K R5 acc5 xs5 ∧ Loose g R5 A5 [D] ∧
        dLCi Kp1 t1 te (wE E3 vs1) (fun acc' M6 => dLC2 Kp t T1 t1 te vs1 (wE E vs) (fun acc M2 => Qd (.d (.lst acc)) M2) (ds.drop (i + 1)) acc' M6) (es.drop j) acc5 M5,
      ⟨_, rfl, Nat.zero_le _, M4, R4, A4, acc, xs, ok4g, Sub.refl _, ExtA.refl _, eD4, RepL.mono (s2.trans s24) _ ra, lo4, q4⟩, ?_⟩
    rintro j n Hy ⟨rfl, hj, M5, R5, A5, acc5, xs5, ok5, s5, x5, eD5, ra5, lo5, q5⟩
    by_cases hlj : j < es.length
    · have ej : es[j]? = some es[j] := List.getElem?_eq_getElem hlj
      rw [List.drop_eq_getElem_cons hlj] at q5
      obtain ⟨kp1, q5⟩ := q5
      obtain ⟨v1, v2⟩ := wk1.go j _ ok5 s5 x5 kp1 ej
      refine .inr ⟨v1, fun Hn => ∃ M5 R5 A5 acc5 xs5, Ok K g E3 M5 σ3 Hn R5 A5 ∧ Sub R4 R5 ∧ ExtA A4 A5 ∧ Hn D = some (.lst xs5) ∧ RepL K R5 acc5 xs5 ∧ Loose g R5 A5 [D] ∧
        dLCi Kp1 t1 te (wE E3 vs1) (fun acc' M6 => dLC2 Kp t T1 t1 te vs1 (wE E vs) (fun acc M2 => Qd (.d (.lst acc)) M2) (ds.drop (i + 1)) acc' M6) (es.drop (j + 1)) acc5 M5, fun Hn n => ⟨_, by omega, rfl, hlj, n⟩, fun x6 H6 y6 => ?_⟩
      obtain ⟨R6, st6, r6⟩ := v2 x6 H6 y6
      obtain ⟨ok6, s6⟩ := ok5.stepR st6
      obtain ⟨lo6, same6⟩ := lo5.stepR (obs eD5) st6
      have eD6 : H6 D = some (.lst xs5) := by rw [same6 D (by simp)]; exact eD5
      have okh6 := ok6.here
      have okw6 : Ok K ⟨H6, R6, A5⟩ (wE E3 vs1) M5 (L2.wipe σ3 vs1) H6 R6 A5 := okh6.slotsTo (okh6.slots.wipe vs1)
      refine ⟨⟨H6, R6, A5⟩, wE E3 vs1, M5, R6, A5, _, .d es[j], okw6, r6, q5, fun E7 M7 σ7 H7 R7 A7 q7 so7 ok7 s7 x7 => ⟨so7.wipe hs1, ?_⟩⟩
      refine ⟨⟨H6, R6, A5⟩, E7, M7, R7, A7, _, ok7, q7, fun v M8 y8 H8 R8 A8 q8 ok8 s8 x8 r8 => ?_⟩
      obtain ⟨z, ez, hlen, q9⟩ := onD_elim q8
      subst ez
      obtain ⟨lo8, same8⟩ := lo6.run ok8 (obs eD6)
      have eD8 : H8 D = some (.lst xs5) := by rw [same8 D (by simp)]; exact eD6
      have s68 : Sub R6 R8 := s7.trans s8
      have x68 : ExtA A5 A8 := x7.trans x8
      refine ⟨xs5, eD8, by rw [← ra5.length]; exact hlen, M8, R8, A8, acc5 ++ [z], xs5 ++ [y8], ?_, (s5.trans s6).trans s68, x5.trans x68, upd_same, (RepL.mono (s6.trans s68) _ ra5).app (RepL.cons r8 RepL.nil), lo8, q9⟩
      have okb := (ok6.back ok8).slotsTo (ok6.slots.mono s68 x68)
      exact okb.exUpd (lo8.h0 D (by simp)) (lo8.r D (by simp)) (lo8.a D (by simp))
    · have ee : j = es.length := by omega
      subst ee
      rw [List.drop_length] at q5
      exact .inl ⟨wk1.stop ok5 s5 x5 q5.1, M5, R5, A5, acc5, xs5, ok5.slotsTo (ok2.slots.mono (s24.trans s5) (x24.trans x5)), ((s'.trans s2).trans s24).trans s5, (x'.trans x24).trans x5, eD5, ra5, lo5, q5.2⟩
  · have e : i = ds.length := by omega
    subst e
    rw [List.drop_length] at q'
    have rD := lo.r D (by simp)
    exact .inl ⟨wk.stop ok' s' x' q'.1, k _ _ _ _ _ _ q'.2 (ok'.adopt (lo.h0 D (by simp)) rD (lo.a D (by simp)) eD) ((s1.trans s').trans (Sub.upd rD)) (x1.trans x') ⟨D, xs, rfl, upd_same, RepL.mono (Sub.upd rD) _ ra⟩⟩
section
variable {elt tg iter tg1 iter1 : Expr} {scope : Scope} {own : List (Str × Nat)} {T T1 : TDI} {t t1 : TDG} {te : TD} {is is1 vs1 : List Nat}
theorem de_lc2 (hc : X.calm = true) (hN : X.N.Nodup) (hi : DI X g tg iter T) (ok : BlkOk X.N X.env.scope scope own)
    (hg : ∀ (s : Shared) (H : Hp) (C : Addr) (cl : List (Str × Addr)) (fp : List Addr) (g' : Gh), DG (X.blk s H scope (compEnvC scope cl C X.env) fp) g' tg is t)
    (hi1 : ∀ (s : Shared) (H : Hp) (C : Addr) (cl : List (Str × Addr)) (fp : List Addr) (g' : Gh), DI (X.blk s H scope (compEnvC scope cl C X.env) fp) g' tg1 iter1 T1)
    (hg1 : ∀ (s : Shared) (H : Hp) (C : Addr) (cl : List (Str × Addr)) (fp : List Addr) (g' : Gh), DG (X.blk s H scope (compEnvC scope cl C X.env) fp) g' tg1 is1 t1)
    (he : ∀ (s : Shared) (H : Hp) (C : Addr) (cl : List (Str × Addr)) (fp : List Addr) (g' : Gh), DE (X.blk s H scope (compEnvC scope cl C X.env) fp) g' elt te)
    (hv : ∀ i ∈ vs1, i ∈ own.map (·.2) := by decide) (his : ∀ i ∈ is, i ∈ own.map (·.2) := by decide) (his1 : ∀ i ∈ is1, i ∈ vs1 := by decide) (hs : ∀ x, foldedSetIterable iter X.env x = pure x := by intro _; rfl) (hs1 : ∀ env x, foldedSetIterable iter1 env x = pure x := by intro _ _; rfl) :
    DE X g (.ListComp elt [⟨tg, iter, [], 0⟩, ⟨tg1, iter1, [], 0⟩] scope pos) (dComp2 T t T1 t1 te (own.map (·.2)) vs1) :=
  PEm (pe_lc2 hc hN hi ok hv (fun s H C cl fp => PG.ex (hg s H C cl fp)) (fun s H C cl fp => pts_nil) (fun s H C cl fp => PI.ex (hi1 s H C cl fp)) (fun s H C cl fp => PG.ex (hg1 s H C cl fp)) (fun s H C cl fp => pts_nil) (fun s H C cl fp => PE.ex (he s H C cl fp)) hs hs1) fun σ H Q h => lift_lc2 his his1 h
theorem ds_setLc2 {i : Nat} {y : Str} {py spos : Pos} (hc : X.calm = true) (hN : X.N.Nodup) (hy : X.N[i]? = some y) (hyl : X.env.scope.names.lookup y = some .local)
    (hsw : swapsWith (.ListComp elt [⟨tg, iter, [], 0⟩, ⟨tg1, iter1, [], 0⟩] scope pos) (some (.Name y py)) spos.line X.env = pure true) (hi : DI X g tg iter T) (ok : BlkOk X.N X.env.scope scope own)
    (hg : ∀ (s : Shared) (H : Hp) (C : Addr) (cl : List (Str × Addr)) (fp : List Addr) (g' : Gh), DG (X.blk s H scope (compEnvC scope cl C X.env) fp) g' tg is t)
    (hi1 : ∀ (s : Shared) (H : Hp) (C : Addr) (cl : List (Str × Addr)) (fp : List Addr) (g' : Gh), DI (X.blk s H scope (compEnvC scope cl C X.env) fp) g' tg1 iter1 T1)
    (hg1 : ∀ (s : Shared) (H : Hp) (C : Addr) (cl : List (Str × Addr)) (fp : List Addr) (g' : Gh), DG (X.blk s H scope (compEnvC scope cl C X.env) fp) g' tg1 is1 t1)
    (he : ∀ (s : Shared) (H : Hp) (C : Addr) (cl : List (Str × Addr)) (fp : List Addr) (g' : Gh), DE (X.blk s H scope (compEnvC scope cl C X.env) fp) g' elt te)
    (hv : ∀ i ∈ vs1, i ∈ own.map (·.2) := by decide) (his : ∀ i ∈ is, i ∈ own.map (·.2) := by decide) (his1 : ∀ i ∈ is1, i ∈ vs1 := by decide) (hs : ∀ x, foldedSetIterable iter X.env x = pure x := by intro _; rfl) (hs1 : ∀ env x, foldedSetIterable iter1 env x = pure x := by intro _ _; rfl) :
    DS X g (.Assign [.Name y py] (.ListComp elt [⟨tg, iter, [], 0⟩, ⟨tg1, iter1, [], 0⟩] scope pos) spos) (sSet i (dComp2 T t T1 t1 te (own.map (·.2)) vs1)) :=
  PSm (ps_setLc2 hc hN hy hyl hsw hi ok hv (fun s H C cl fp => PG.ex (hg s H C cl fp)) (fun s H C cl fp => pts_nil) (fun s H C cl fp => PI.ex (hi1 s H C cl fp)) (fun s H C cl fp => PG.ex (hg1 s H C cl fp)) (fun s H C cl fp => pts_nil) (fun s H C cl fp => PE.ex (he s H C cl fp)) hs hs1) fun D σ H h => by
    obtain ⟨E, M, R, A, De, ok, h, k1, _⟩ := h
    exact lift_lc2 (g := g) his his1 ⟨E, M, R, A, _, ok, h, fun v M1 x H1 R1 A1 q1 ok1 s1 x1 r1 => k1 _ _ _ _ _ _ q1 (ok1.setSlot r1 i) s1 x1⟩
end
end
end DL

end
section
set_option maxRecDepth 100000
/-! zip, whatever has become of the tuple that it handed out last (printed by genzip.py). -/
namespace DL
open PySem L2 PyProof.Rows
abbrev IsZipQ (h : Heap) (z TI TO : Addr) (f0 : Value) (f1 : Bool) : Prop :=
  h.get? z = some { cls := .type "zip", dict := none, data := .fields #[f0, .bool f1, .bool false, .ref TI, .ref TO], slots := #[] }
def Out0 (f0 : Value) : Prop := f0 = .none ∨ ∃ T : Addr, f0 = rawInt T
/-- what zip's own two things are at a turn's start -/
def ZipSt (h : Heap) (z TI TO : Addr) : Prop := ∃ f0 f1, Out0 f0 ∧ IsZipQ h z TI TO f0 f1
section
variable {prog : Program} {w : World} {A : Around} {E : Value → Shared → Prop} {s : Shared} {z TI TO : Addr} {f0 : Value} {f1 : Bool}
theorem owned_any {Q : Bool → Shared → Prop} (hz : IsZipQ s.heap z TI TO f0 f1) (hf : Out0 f0) (q1 : Q true s) (q2 : ∀ h', IsZipQ h' z TI TO f0 true → Heap.SameBut z s.heap h' → Q false { s with heap := h' }) :
    wpAny (model prog w) A (Builtin.SmallTypes.ownedTupleIsFree (.ref z)) Q E s := by
  unfold Builtin.SmallTypes.ownedTupleIsFree
  rcases hf with e | ⟨T, e⟩
  · subst e
    exact wpAny_bind (wpAny_field hz rfl (x := .none) rfl (wpAny_pure q1))
  · subst e
    refine wpAny_bind (wpAny_field hz rfl (x := rawInt T) rfl ?_)
    show wpAny _ _ (loadIfAlive ((T : Int).toNat) >>= _) _ _ _
    rw [Int.toNat_natCast]
    refine wpAny_bind ?_
    have alive : ∀ {Q' : Option Obj → Shared → Prop}, Q' (s.heap.get? T) s → wpAny (model prog w) A (loadIfAlive T) Q' E s := fun q => fun _ _ _ => q
    refine alive ?_
    cases hT : s.heap.get? T with
    | none =>
      simp only [Option.isNone_none, if_true]
      exact wpAny_pure q1
    | some oT =>
      simp only [Option.isNone_some, Bool.false_eq_true, if_false]
      refine wpAny_bind (wpAny_field hz rfl (x := .bool f1) rfl ?_)
      cases f1 with
      | true =>
        rw [if_neg (by decide)]
        exact wpAny_pure (q2 s.heap hz (Heap.SameBut.refl _ _))
      | false =>
        rw [if_pos (by decide)]
        exact wpAny_bind (wpAny_setField_rec hz (by simp) fun h' hz' hs' => wpAny_pure (q2 h' hz' hs'))
end

section
variable {prog : Program} {w : World} {A : Around} {E : Value → Shared → Prop} {s : Shared} {z TI TO i1 i2 : Addr} {fp1 fp2 : List Addr} {n1 n2 i : Nat} {P1 P2 : Nat → Value → Prop} {St1 St2 : Nat → Heap → Prop} {a1 a2 : Value}

theorem zipQ2_item {Q : Value → Shared → Prop} {f0 : Value} {f1 : Bool} (S : ZipSep2 z TI TO i1 i2 fp1 fp2) (D1 : Draws prog w A i1 fp1 n1 P1 St1) (D2 : Draws prog w A i2 fp2 n2 P2 St2)
    (hf : Out0 f0) (hz : IsZipQ s.heap z TI TO f0 f1) (hTI : IsTupOf2 s.heap TI (.ref i1) (.ref i2)) (hTO : IsTupOf2 s.heap TO a1 a2) (st1 : St1 i s.heap) (st2 : St2 i s.heap) (hlt1 : i < n1) (hlt2 : i < n2)
    (hQ : (∀ x1 x2 h' tk, P1 i x1 → P2 i x2 → ZipSt h' z TI TO → (∃ b1 b2, IsTupOf2 h' TO b1 b2) → St1 (i + 1) h' → St2 (i + 1) h' → IsTupOf2 h' s.heap.objs.size x1 x2 → h'.objs.size = s.heap.objs.size + 1 →
      (∀ c o, c ≠ z → c ≠ TO → c ≠ i1 → c ≠ i2 → s.heap.get? c = some o → h'.get? c = some o) → Q ((.ref s.heap.objs.size)) { s with heap := h', toks := tk })) :
    wpAny (model prog w) A (Builtin.«zip.__next__» ⟨[.ref z], []⟩) (fun fin s' => ∃ v, fin = .done (.ret v) ∧ Q v s') E s := by
  obtain ⟨hp, g, d, tk0, os⟩ := s
  show wpAny _ _ (field (.ref z) 2 >>= _) _ _ _
  refine wpAny_bind (wpAny_field hz rfl (x := .bool false) rfl ?_)
  show wpAny _ _ (field (.ref z) 3 >>= _) _ _ _
  refine wpAny_bind (wpAny_field hz rfl (x := .ref TI) rfl ?_)
  refine wpAny_bind (wpAny_seqItems hTI rfl ?_)
  show wpAny _ _ (Builtin.SmallTypes.ownedTupleIsFree (.ref z) >>= _) _ _ _
  refine wpAny_bind (owned_any hz hf ?_ fun g0 hz0 hs0 => ?_)
  · simp only [if_true]
    refine wpAny_bind (wpAny_rule ?_)
    refine wpAny_bind (wpAny_field hz rfl (x := .ref TO) rfl ?_)
    refine wpAny_bind (wpAny_setField_rec hz (by simp) fun g0 hz0 hs0 => ?_)
    replace hz0 : IsZipQ g0 z TI TO .ellipsis f1 := hz0
    replace hs0 : Heap.SameBut z hp g0 := hs0
    refine wpAny_bind ?_
    simp only [List.zipIdx_cons, List.zipIdx_nil, List.forIn_cons, List.forIn_nil]
    refine wpAny_bind (wpAny_bind (wpAny_onRaise ?_))
    show wpAny _ _ (Builtin.SmallTypes.nextOf (.ref i1) >>= _) _ _ ⟨g0, g, d, tk0, os⟩
    refine wpAny_bind (D1.item i _ _ _ hlt1 (D1.over st1 hs0 S.zf1) fun x1 p1 tk1 hx1 sn1 hp1 => wpAny_pure ?_)
    replace hp1 : Heap.SameBut i1 g0 p1 := hp1
    have hU1 : IsTupOf2 p1 TO a1 a2 := hp1.extBut _ _ (fun e => S.Tf1 (by rw [e]; exact S.mem1)) (hs0.extBut _ _ S.TOz hTO)
    refine wpAny_bind (wpAny_seqItems (s := ⟨p1, g, d, tk1, os⟩) hU1 rfl ?_)
    refine wpAny_bind (updateSeq_IsTupOf2 (s := ⟨p1, g, d, tk1, os⟩) hU1 fun g1 hT1 hs1 => ?_)
    replace hT1 : IsTupOf2 g1 TO x1 a2 := hT1
    replace hs1 : Heap.SameBut TO p1 g1 := hs1
    refine wpAny_bind (wpAny_letGo (wpAny_pure ?_))
    refine wpAny_bind (wpAny_bind (wpAny_onRaise ?_))
    show wpAny _ _ (Builtin.SmallTypes.nextOf (.ref i2) >>= _) _ _ ⟨g1, g, d, tk1, os⟩
    refine wpAny_bind (D2.item i _ _ _ hlt2 (D2.over (D2.over (D2.over st2 hs0 S.zf2) hp1 S.sep1_2) hs1 S.Tf2) fun x2 p2 tk2 hx2 sn2 hp2 => wpAny_pure ?_)
    replace hp2 : Heap.SameBut i2 g1 p2 := hp2
    have hU2 : IsTupOf2 p2 TO x1 a2 := hp2.extBut _ _ (fun e => S.Tf2 (by rw [e]; exact S.mem2)) hT1
    refine wpAny_bind (wpAny_seqItems (s := ⟨p2, g, d, tk2, os⟩) hU2 rfl ?_)
    refine wpAny_bind (updateSeq_IsTupOf2 (s := ⟨p2, g, d, tk2, os⟩) hU2 fun g2 hT2 hs2 => ?_)
    replace hT2 : IsTupOf2 g2 TO x1 x2 := hT2
    replace hs2 : Heap.SameBut TO p2 g2 := hs2
    refine wpAny_bind (wpAny_letGo (wpAny_pure (wpAny_pure ?_)))
    refine wpAny_bind (wpAny_seqItems (s := ⟨g2, g, d, tk2, os⟩) hT2 rfl ?_)
    refine wpAny_bind (wpAny_newTuple ?_)
    have hsz : g2.objs.size = hp.objs.size := by rw [hs2.1, hp2.1, hs1.1, hp1.1, hs0.1]
    have hzz : IsZipQ g2 z TI TO .ellipsis f1 := hs2.extBut _ _ S.TOz.symm (hp2.extBut _ _ (fun e => S.zf2 (by rw [e]; exact S.mem2)) (hs1.extBut _ _ S.TOz.symm (hp1.extBut _ _ (fun e => S.zf1 (by rw [e]; exact S.mem1)) (hz0))))
    have hkk : ∀ c o, c ≠ z → c ≠ TO → c ≠ i1 → c ≠ i2 → hp.get? c = some o → g2.get? c = some o := fun c o cz cT c1 c2 e => hs2.extBut _ _ cT (hp2.extBut _ _ c2 (hs1.extBut _ _ cT (hp1.extBut _ _ c1 (hs0.extBut _ _ cz e))))
    have hj1 : St1 (i + 1) g2 := D1.over (D1.over (D1.over sn1 hs1 S.Tf1) hp2 S.sep2_1) hs2 S.Tf1
    have hj2 : St2 (i + 1) g2 := D2.over sn2 hs2 S.Tf2
    have hzlt : z < g2.objs.size := Heap.lt_size hzz
    show wpAny _ _ (Builtin.SmallTypes.ownedTupleHandOut (.ref z) (.ref g2.objs.size) >>= _) _ _ ⟨g2.push { cls := .type "tuple", data := .seq #[x1, x2] }, g, d, tk2, os⟩
    refine wpAny_bind ?_
    unfold Builtin.SmallTypes.ownedTupleHandOut
    have hz6 : IsZipQ (g2.push { cls := .type "tuple", data := .seq #[x1, x2] }) z TI TO .ellipsis f1 := Heap.get?_push_of_some _ hzz
    refine wpAny_bind (wpAny_setField_rec hz6 (by simp) fun h7 hz7 hs7 => ?_)
    replace hz7 : IsZipQ h7 z TI TO (rawInt g2.objs.size) f1 := hz7
    refine wpAny_setField_rec hz7 (by simp) fun h8 hz8 hs8 => ?_
    replace hz8 : IsZipQ h8 z TI TO (rawInt g2.objs.size) false := hz8
    replace hs7 : Heap.SameBut z (g2.push { cls := .type "tuple", data := .seq #[x1, x2] }) h7 := hs7
    replace hs8 : Heap.SameBut z h7 h8 := hs8
    have up : ∀ c o, c ≠ z → g2.get? c = some o → h8.get? c = some o := fun c o c1 e => hs8.extBut _ _ c1 (hs7.extBut _ _ c1 (Heap.get?_push_of_some _ e))
    have hT8 : IsTupOf2 h8 g2.objs.size x1 x2 := hs8.extBut _ _ (Nat.ne_of_gt hzlt) (hs7.extBut _ _ (Nat.ne_of_gt hzlt) (Heap.get?_push_size _ rfl))
    have hsz8 : h8.objs.size = g2.objs.size + 1 := by rw [hs8.1, hs7.1, Heap.size_push]
    rw [hsz] at hz8 hT8 hsz8
    refine wpAny_pure ⟨_, rfl, ?_⟩
    show Q (.ref g2.objs.size) ⟨h8, g, d, tk2, os⟩
    rw [hsz]
    exact hQ x1 x2 h8 tk2 hx1 hx2 ⟨_, _, .inr ⟨_, rfl⟩, hz8⟩ ⟨_, _, up _ _ S.TOz hT2⟩ (D1.frame _ _ _ hj1 fun b hb o e => up b o (fun q => S.zf1 (q ▸ hb)) e) (D2.frame _ _ _ hj2 fun b hb o e => up b o (fun q => S.zf2 (q ▸ hb)) e) hT8 hsz8 fun c o cz cT c1 c2 e => up c o cz (hkk c o cz cT c1 c2 e)
  · replace hs0 : Heap.SameBut z hp g0 := hs0
    simp only [Bool.false_eq_true, if_false]
    refine wpAny_bind ?_
    rw [← Array.forIn_toList]
    simp only [List.forIn_cons, List.forIn_nil]
    refine wpAny_bind (wpAny_bind (wpAny_holding ?_))
    show wpAny _ _ (Builtin.SmallTypes.nextOf (.ref i1) >>= _) _ _ ⟨g0, g, d, tk0, os⟩
    refine wpAny_bind (D1.item i _ _ _ hlt1 (D1.over st1 hs0 S.zf1) fun x1 p1 tk1 hx1 sn1 hp1 => wpAny_pure ?_)
    replace hp1 : Heap.SameBut i1 g0 p1 := hp1
    refine wpAny_pure ?_
    refine wpAny_bind (wpAny_bind (wpAny_holding ?_))
    show wpAny _ _ (Builtin.SmallTypes.nextOf (.ref i2) >>= _) _ _ ⟨p1, g, d, tk1, os⟩
    refine wpAny_bind (D2.item i _ _ _ hlt2 (D2.over (D2.over st2 hs0 S.zf2) hp1 S.sep1_2) fun x2 p2 tk2 hx2 sn2 hp2 => wpAny_pure ?_)
    replace hp2 : Heap.SameBut i2 p1 p2 := hp2
    refine wpAny_pure (wpAny_pure ?_)
    show wpAny _ _ (newTuple [x1, x2] >>= _) _ _ ⟨p2, g, d, tk2, os⟩
    refine wpAny_bind (wpAny_newTuple ?_)
    have hsz : p2.objs.size = hp.objs.size := by rw [hp2.1, hp1.1, hs0.1]
    have hzz : IsZipQ p2 z TI TO f0 true := hp2.extBut _ _ (fun e => S.zf2 (by rw [e]; exact S.mem2)) (hp1.extBut _ _ (fun e => S.zf1 (by rw [e]; exact S.mem1)) (hz0))
    have hOO : IsTupOf2 p2 TO a1 a2 := hp2.extBut _ _ (fun e => S.Tf2 (by rw [e]; exact S.mem2)) (hp1.extBut _ _ (fun e => S.Tf1 (by rw [e]; exact S.mem1)) (hs0.extBut _ _ S.TOz hTO))
    have hkk : ∀ c o, c ≠ z → c ≠ i1 → c ≠ i2 → hp.get? c = some o → p2.get? c = some o := fun c o cz c1 c2 e => hp2.extBut _ _ c2 (hp1.extBut _ _ c1 (hs0.extBut _ _ cz e))
    have hj1 : St1 (i + 1) p2 := D1.over sn1 hp2 S.sep2_1
    have hj2 : St2 (i + 1) p2 := sn2
    refine wpAny_pure ⟨_, rfl, ?_⟩
    show Q (.ref p2.objs.size) _
    have hT8 : IsTupOf2 (p2.push { cls := .type "tuple", data := .seq #[x1, x2] }) p2.objs.size x1 x2 := Heap.get?_push_size _ rfl
    have hsz8 : (p2.push { cls := .type "tuple", data := .seq #[x1, x2] }).objs.size = p2.objs.size + 1 := Heap.size_push ..
    rw [hsz] at hT8 hsz8 ⊢
    exact hQ x1 x2 _ tk2 hx1 hx2 ⟨f0, true, hf, Heap.get?_push_of_some _ hzz⟩ ⟨_, _, Heap.get?_push_of_some _ hOO⟩ (D1.frame _ _ _ hj1 fun b hb o e => Heap.get?_push_of_some _ e) (D2.frame _ _ _ hj2 fun b hb o e => Heap.get?_push_of_some _ e) hT8 hsz8 fun c o cz _ c1 c2 e => Heap.get?_push_of_some _ (hkk c o cz c1 c2 e)
theorem zipQ2_end {Q : Fin → Shared → Prop} {f0 : Value} {f1 : Bool} (S : ZipSep2 z TI TO i1 i2 fp1 fp2) (D1 : Draws prog w A i1 fp1 n1 P1 St1) (D2 : Draws prog w A i2 fp2 n2 P2 St2)
    (hf : Out0 f0) (hz : IsZipQ s.heap z TI TO f0 f1) (hTI : IsTupOf2 s.heap TI (.ref i1) (.ref i2)) (hTO : IsTupOf2 s.heap TO a1 a2) (st1 : St1 i s.heap) (st2 : St2 i s.heap) (hle1 : i ≤ n1) (hle2 : i ≤ n2) (hend : i = n1 ∨ i = n2)
    (hE : ∀ h' tk e, (∀ c o, c ≠ z → c ≠ TO → c ≠ i1 → c ≠ i2 → s.heap.get? c = some o → h'.get? c = some o) → (∃ o, h'.get? e = some o ∧ o.cls = .type "StopIteration") → E (.ref e) { s with heap := h', toks := tk }) :
    wpAny (model prog w) A (Builtin.«zip.__next__» ⟨[.ref z], []⟩) Q E s := by
  obtain ⟨hp, g, d, tk0, os⟩ := s
  show wpAny _ _ (field (.ref z) 2 >>= _) _ _ _
  refine wpAny_bind (wpAny_field hz rfl (x := .bool false) rfl ?_)
  show wpAny _ _ (field (.ref z) 3 >>= _) _ _ _
  refine wpAny_bind (wpAny_field hz rfl (x := .ref TI) rfl ?_)
  refine wpAny_bind (wpAny_seqItems hTI rfl ?_)
  show wpAny _ _ (Builtin.SmallTypes.ownedTupleIsFree (.ref z) >>= _) _ _ _
  refine wpAny_bind (owned_any hz hf ?_ fun g0 hz0 hs0 => ?_)
  · simp only [if_true]
    refine wpAny_bind (wpAny_rule ?_)
    refine wpAny_bind (wpAny_field hz rfl (x := .ref TO) rfl ?_)
    refine wpAny_bind (wpAny_setField_rec hz (by simp) fun g0 hz0 hs0 => ?_)
    replace hz0 : IsZipQ g0 z TI TO .ellipsis f1 := hz0
    replace hs0 : Heap.SameBut z hp g0 := hs0
    refine wpAny_bind ?_
    simp only [List.zipIdx_cons, List.zipIdx_nil, List.forIn_cons, List.forIn_nil]
    refine wpAny_bind (wpAny_bind (wpAny_onRaise ?_))
    show wpAny _ _ (Builtin.SmallTypes.nextOf (.ref i1) >>= _) _ _ ⟨g0, g, d, tk0, os⟩
    by_cases hlt1 : i < n1
    · refine wpAny_bind (D1.item i _ _ _ hlt1 (D1.over st1 hs0 S.zf1) fun x1 p1 tk1 hx1 sn1 hp1 => wpAny_pure ?_)
      replace hp1 : Heap.SameBut i1 g0 p1 := hp1
      have hU1 : IsTupOf2 p1 TO a1 a2 := hp1.extBut _ _ S.Ti1 (hs0.extBut _ _ S.TOz hTO)
      refine wpAny_bind (wpAny_seqItems (s := ⟨p1, g, d, tk1, os⟩) hU1 rfl ?_)
      refine wpAny_bind (updateSeq_IsTupOf2 (s := ⟨p1, g, d, tk1, os⟩) hU1 fun g1 hT1 hs1 => ?_)
      replace hT1 : IsTupOf2 g1 TO x1 a2 := hT1
      replace hs1 : Heap.SameBut TO p1 g1 := hs1
      refine wpAny_bind (wpAny_letGo (wpAny_pure ?_))
      refine wpAny_bind (wpAny_bind (wpAny_onRaise ?_))
      show wpAny _ _ (Builtin.SmallTypes.nextOf (.ref i2) >>= _) _ _ ⟨g1, g, d, tk1, os⟩
      have he2 : i = n2 := by omega
      refine wpAny_bind (D2.done ⟨g1, g, d, tk1, os⟩ _ _ (by rw [← he2]; exact (D2.over (D2.over (D2.over st2 hs0 S.zf2) hp1 S.sep1_2) hs1 S.Tf2)) fun q e hq he => ?_)
      replace hq : Heap.ExtBut i2 g1 q := hq
      obtain ⟨oe, hoe, hce⟩ := he
      replace hoe : q.get? e = some oe := hoe
      have hzq : IsZipQ q z TI TO .ellipsis f1 := hq _ _ S.zi2 (hs1.extBut _ _ S.TOz.symm (hp1.extBut _ _ S.zi1 (hz0)))
      have hez : e ≠ z := fun x => by subst x; rw [hzq] at hoe; cases hoe; simp at hce
      refine wpAny_setField_rec (s := ⟨q, g, d, tk1, os⟩) hzq (by simp) fun q' _ hq' => ?_
      replace hq' : Heap.SameBut z q q' := hq'
      exact hE q' tk1 e (fun c o cz cT c1 c2 x => hq'.extBut _ _ cz (hq _ _ c2 (hs1.extBut _ _ cT (hp1.extBut _ _ c1 (hs0.extBut _ _ cz x))))) ⟨oe, hq'.extBut _ _ hez hoe, hce⟩
    · have he1 : i = n1 := by omega
      refine wpAny_bind (D1.done ⟨g0, g, d, tk0, os⟩ _ _ (by rw [← he1]; exact (D1.over st1 hs0 S.zf1)) fun q e hq he => ?_)
      replace hq : Heap.ExtBut i1 g0 q := hq
      obtain ⟨oe, hoe, hce⟩ := he
      replace hoe : q.get? e = some oe := hoe
      have hzq : IsZipQ q z TI TO .ellipsis f1 := hq _ _ S.zi1 (hz0)
      have hez : e ≠ z := fun x => by subst x; rw [hzq] at hoe; cases hoe; simp at hce
      refine wpAny_setField_rec (s := ⟨q, g, d, tk0, os⟩) hzq (by simp) fun q' _ hq' => ?_
      replace hq' : Heap.SameBut z q q' := hq'
      exact hE q' tk0 e (fun c o cz cT c1 c2 x => hq'.extBut _ _ cz (hq _ _ c1 (hs0.extBut _ _ cz x))) ⟨oe, hq'.extBut _ _ hez hoe, hce⟩
  · replace hs0 : Heap.SameBut z hp g0 := hs0
    simp only [Bool.false_eq_true, if_false]
    refine wpAny_bind ?_
    rw [← Array.forIn_toList]
    simp only [List.forIn_cons, List.forIn_nil]
    refine wpAny_bind (wpAny_bind (wpAny_holding ?_))
    show wpAny _ _ (Builtin.SmallTypes.nextOf (.ref i1) >>= _) _ _ ⟨g0, g, d, tk0, os⟩
    by_cases hlt1 : i < n1
    · refine wpAny_bind (D1.item i _ _ _ hlt1 (D1.over st1 hs0 S.zf1) fun x1 p1 tk1 hx1 sn1 hp1 => wpAny_pure ?_)
      replace hp1 : Heap.SameBut i1 g0 p1 := hp1
      refine wpAny_pure ?_
      refine wpAny_bind (wpAny_bind (wpAny_holding ?_))
      show wpAny _ _ (Builtin.SmallTypes.nextOf (.ref i2) >>= _) _ _ ⟨p1, g, d, tk1, os⟩
      have he2 : i = n2 := by omega
      refine wpAny_bind (D2.done ⟨p1, g, d, tk1, os⟩ _ _ (by rw [← he2]; exact (D2.over (D2.over st2 hs0 S.zf2) hp1 S.sep1_2)) fun q e hq he => ?_)
      replace hq : Heap.ExtBut i2 p1 q := hq
      exact hE q tk1 e (fun c o cz cT c1 c2 x => hq _ _ c2 (hp1.extBut _ _ c1 (hs0.extBut _ _ cz x))) he
    · have he1 : i = n1 := by omega
      refine wpAny_bind (D1.done ⟨g0, g, d, tk0, os⟩ _ _ (by rw [← he1]; exact (D1.over st1 hs0 S.zf1)) fun q e hq he => ?_)
      replace hq : Heap.ExtBut i1 g0 q := hq
      exact hE q tk0 e (fun c o cz cT c1 c2 x => hq _ _ c1 (hs0.extBut _ _ cz x)) he
theorem pyNext_zipQ2_item {Q : Option Value → Shared → Prop} {f0 : Value} {f1 : Bool} (S : ZipSep2 z TI TO i1 i2 fp1 fp2) (D1 : Draws prog w A.in1 i1 fp1 n1 P1 St1) (D2 : Draws prog w A.in1 i2 fp2 n2 P2 St2)
    (hf : Out0 f0) (hz : IsZipQ s.heap z TI TO f0 f1) (hTI : IsTupOf2 s.heap TI (.ref i1) (.ref i2)) (hTO : IsTupOf2 s.heap TO a1 a2) (st1 : St1 i s.heap) (st2 : St2 i s.heap) (hlt1 : i < n1) (hlt2 : i < n2)
    (hQ : ∀ x1 x2 h' tk, P1 i x1 → P2 i x2 → ZipSt h' z TI TO → (∃ b1 b2, IsTupOf2 h' TO b1 b2) → St1 (i + 1) h' → St2 (i + 1) h' → IsTupOf2 h' s.heap.objs.size x1 x2 → h'.objs.size = s.heap.objs.size + 1 →
      (∀ c o, c ≠ z → c ≠ TO → c ≠ i1 → c ≠ i2 → s.heap.get? c = some o → h'.get? c = some o) → Q (some (.ref s.heap.objs.size)) { s with heap := h', toks := tk }) :
    wpAny (model prog w) A (pyNext (.ref z)) Q E s := by
  have hT : s.TypeIs (.ref z) "zip" := ⟨_, hz, rfl⟩
  unfold pyNext
  exact wpAny_bind (wpAny_attempt (wpAny_callSpecial?_slot (name := Str.ofString "__next__") hT F.slot_zip_next
    (wpAny_call_entry F.slot_zip_next hT F.entry_zip_next
      (zipQ2_item S D1 D2 hf hz hTI hTO st1 st2 hlt1 hlt2 fun x1 x2 h' tk y1 y2 b1 b2 d1 d2 b5 b6 b7 => wpAny_pure (hQ x1 x2 h' tk y1 y2 b1 b2 d1 d2 b5 b6 b7)) (F.args_zip_next_1 _))))
theorem pyNext_zipQ2_end {Q : Option Value → Shared → Prop} {f0 : Value} {f1 : Bool} (S : ZipSep2 z TI TO i1 i2 fp1 fp2) (D1 : Draws prog w A.in1 i1 fp1 n1 P1 St1) (D2 : Draws prog w A.in1 i2 fp2 n2 P2 St2)
    (hf : Out0 f0) (hz : IsZipQ s.heap z TI TO f0 f1) (hTI : IsTupOf2 s.heap TI (.ref i1) (.ref i2)) (hTO : IsTupOf2 s.heap TO a1 a2) (st1 : St1 i s.heap) (st2 : St2 i s.heap) (hle1 : i ≤ n1) (hle2 : i ≤ n2) (hend : i = n1 ∨ i = n2)
    (hQ : ∀ h' tk, (∀ c o, c ≠ z → c ≠ TO → c ≠ i1 → c ≠ i2 → s.heap.get? c = some o → h'.get? c = some o) → Q none { s with heap := h', toks := tk }) : wpAny (model prog w) A (pyNext (.ref z)) Q E s := by
  have hT : s.TypeIs (.ref z) "zip" := ⟨_, hz, rfl⟩
  unfold pyNext
  refine wpAny_bind (wpAny_attempt (wpAny_callSpecial?_slot (name := Str.ofString "__next__") hT F.slot_zip_next
    (wpAny_call_entry F.slot_zip_next hT F.entry_zip_next (zipQ2_end S D1 D2 hf hz hTI hTO st1 st2 hle1 hle2 hend fun h' tk e hk he => ?_) (F.args_zip_next_1 _))))
  obtain ⟨o, ho, hc⟩ := he
  refine wpAny_bind (wpAny_isInstance (T := "StopIteration") (b := true) ⟨o, ho, hc⟩ isSubtype_stop ?_)
  exact wpAny_pure (hQ _ _ hk)
end
section
variable {prog : Program} {w : World} {A : Around} {E : Value → Shared → Prop} {s : Shared} {z TI TO i1 i2 i3 : Addr} {fp1 fp2 fp3 : List Addr} {n1 n2 n3 i : Nat} {P1 P2 P3 : Nat → Value → Prop} {St1 St2 St3 : Nat → Heap → Prop} {a1 a2 a3 : Value}

theorem zipQ3_item {Q : Value → Shared → Prop} {f0 : Value} {f1 : Bool} (S : ZipSep3 z TI TO i1 i2 i3 fp1 fp2 fp3) (D1 : Draws prog w A i1 fp1 n1 P1 St1) (D2 : Draws prog w A i2 fp2 n2 P2 St2) (D3 : Draws prog w A i3 fp3 n3 P3 St3)
    (hf : Out0 f0) (hz : IsZipQ s.heap z TI TO f0 f1) (hTI : IsTupOf3 s.heap TI (.ref i1) (.ref i2) (.ref i3)) (hTO : IsTupOf3 s.heap TO a1 a2 a3) (st1 : St1 i s.heap) (st2 : St2 i s.heap) (st3 : St3 i s.heap) (hlt1 : i < n1) (hlt2 : i < n2) (hlt3 : i < n3)
    (hQ : (∀ x1 x2 x3 h' tk, P1 i x1 → P2 i x2 → P3 i x3 → ZipSt h' z TI TO → (∃ b1 b2 b3, IsTupOf3 h' TO b1 b2 b3) → St1 (i + 1) h' → St2 (i + 1) h' → St3 (i + 1) h' → IsTupOf3 h' s.heap.objs.size x1 x2 x3 → h'.objs.size = s.heap.objs.size + 1 →
      (∀ c o, c ≠ z → c ≠ TO → c ≠ i1 → c ≠ i2 → c ≠ i3 → s.heap.get? c = some o → h'.get? c = some o) → Q ((.ref s.heap.objs.size)) { s with heap := h', toks := tk })) :
    wpAny (model prog w) A (Builtin.«zip.__next__» ⟨[.ref z], []⟩) (fun fin s' => ∃ v, fin = .done (.ret v) ∧ Q v s') E s := by
  obtain ⟨hp, g, d, tk0, os⟩ := s
  show wpAny _ _ (field (.ref z) 2 >>= _) _ _ _
  refine wpAny_bind (wpAny_field hz rfl (x := .bool false) rfl ?_)
  show wpAny _ _ (field (.ref z) 3 >>= _) _ _ _
  refine wpAny_bind (wpAny_field hz rfl (x := .ref TI) rfl ?_)
  refine wpAny_bind (wpAny_seqItems hTI rfl ?_)
  show wpAny _ _ (Builtin.SmallTypes.ownedTupleIsFree (.ref z) >>= _) _ _ _
  refine wpAny_bind (owned_any hz hf ?_ fun g0 hz0 hs0 => ?_)
  · simp only [if_true]
    refine wpAny_bind (wpAny_rule ?_)
    refine wpAny_bind (wpAny_field hz rfl (x := .ref TO) rfl ?_)
    refine wpAny_bind (wpAny_setField_rec hz (by simp) fun g0 hz0 hs0 => ?_)
    replace hz0 : IsZipQ g0 z TI TO .ellipsis f1 := hz0
    replace hs0 : Heap.SameBut z hp g0 := hs0
    refine wpAny_bind ?_
    simp only [List.zipIdx_cons, List.zipIdx_nil, List.forIn_cons, List.forIn_nil]
    refine wpAny_bind (wpAny_bind (wpAny_onRaise ?_))
    show wpAny _ _ (Builtin.SmallTypes.nextOf (.ref i1) >>= _) _ _ ⟨g0, g, d, tk0, os⟩
    refine wpAny_bind (D1.item i _ _ _ hlt1 (D1.over st1 hs0 S.zf1) fun x1 p1 tk1 hx1 sn1 hp1 => wpAny_pure ?_)
    replace hp1 : Heap.SameBut i1 g0 p1 := hp1
    have hU1 : IsTupOf3 p1 TO a1 a2 a3 := hp1.extBut _ _ (fun e => S.Tf1 (by rw [e]; exact S.mem1)) (hs0.extBut _ _ S.TOz hTO)
    refine wpAny_bind (wpAny_seqItems (s := ⟨p1, g, d, tk1, os⟩) hU1 rfl ?_)
    refine wpAny_bind (updateSeq_IsTupOf3 (s := ⟨p1, g, d, tk1, os⟩) hU1 fun g1 hT1 hs1 => ?_)
    replace hT1 : IsTupOf3 g1 TO x1 a2 a3 := hT1
    replace hs1 : Heap.SameBut TO p1 g1 := hs1
    refine wpAny_bind (wpAny_letGo (wpAny_pure ?_))
    refine wpAny_bind (wpAny_bind (wpAny_onRaise ?_))
    show wpAny _ _ (Builtin.SmallTypes.nextOf (.ref i2) >>= _) _ _ ⟨g1, g, d, tk1, os⟩
    refine wpAny_bind (D2.item i _ _ _ hlt2 (D2.over (D2.over (D2.over st2 hs0 S.zf2) hp1 S.sep1_2) hs1 S.Tf2) fun x2 p2 tk2 hx2 sn2 hp2 => wpAny_pure ?_)
    replace hp2 : Heap.SameBut i2 g1 p2 := hp2
    have hU2 : IsTupOf3 p2 TO x1 a2 a3 := hp2.extBut _ _ (fun e => S.Tf2 (by rw [e]; exact S.mem2)) hT1
    refine wpAny_bind (wpAny_seqItems (s := ⟨p2, g, d, tk2, os⟩) hU2 rfl ?_)
    refine wpAny_bind (updateSeq_IsTupOf3 (s := ⟨p2, g, d, tk2, os⟩) hU2 fun g2 hT2 hs2 => ?_)
    replace hT2 : IsTupOf3 g2 TO x1 x2 a3 := hT2
    replace hs2 : Heap.SameBut TO p2 g2 := hs2
    refine wpAny_bind (wpAny_letGo (wpAny_pure ?_))
    refine wpAny_bind (wpAny_bind (wpAny_onRaise ?_))
    show wpAny _ _ (Builtin.SmallTypes.nextOf (.ref i3) >>= _) _ _ ⟨g2, g, d, tk2, os⟩
    refine wpAny_bind (D3.item i _ _ _ hlt3 (D3.over (D3.over (D3.over (D3.over (D3.over st3 hs0 S.zf3) hp1 S.sep1_3) hs1 S.Tf3) hp2 S.sep2_3) hs2 S.Tf3) fun x3 p3 tk3 hx3 sn3 hp3 => wpAny_pure ?_)
    replace hp3 : Heap.SameBut i3 g2 p3 := hp3
    have hU3 : IsTupOf3 p3 TO x1 x2 a3 := hp3.extBut _ _ (fun e => S.Tf3 (by rw [e]; exact S.mem3)) hT2
    refine wpAny_bind (wpAny_seqItems (s := ⟨p3, g, d, tk3, os⟩) hU3 rfl ?_)
    refine wpAny_bind (updateSeq_IsTupOf3 (s := ⟨p3, g, d, tk3, os⟩) hU3 fun g3 hT3 hs3 => ?_)
    replace hT3 : IsTupOf3 g3 TO x1 x2 x3 := hT3
    replace hs3 : Heap.SameBut TO p3 g3 := hs3
    refine wpAny_bind (wpAny_letGo (wpAny_pure (wpAny_pure ?_)))
    refine wpAny_bind (wpAny_seqItems (s := ⟨g3, g, d, tk3, os⟩) hT3 rfl ?_)
    refine wpAny_bind (wpAny_newTuple ?_)
    have hsz : g3.objs.size = hp.objs.size := by rw [hs3.1, hp3.1, hs2.1, hp2.1, hs1.1, hp1.1, hs0.1]
    have hzz : IsZipQ g3 z TI TO .ellipsis f1 := hs3.extBut _ _ S.TOz.symm (hp3.extBut _ _ (fun e => S.zf3 (by rw [e]; exact S.mem3)) (hs2.extBut _ _ S.TOz.symm (hp2.extBut _ _ (fun e => S.zf2 (by rw [e]; exact S.mem2)) (hs1.extBut _ _ S.TOz.symm (hp1.extBut _ _ (fun e => S.zf1 (by rw [e]; exact S.mem1)) (hz0))))))
    have hkk : ∀ c o, c ≠ z → c ≠ TO → c ≠ i1 → c ≠ i2 → c ≠ i3 → hp.get? c = some o → g3.get? c = some o := fun c o cz cT c1 c2 c3 e => hs3.extBut _ _ cT (hp3.extBut _ _ c3 (hs2.extBut _ _ cT (hp2.extBut _ _ c2 (hs1.extBut _ _ cT (hp1.extBut _ _ c1 (hs0.extBut _ _ cz e))))))
    have hj1 : St1 (i + 1) g3 := D1.over (D1.over (D1.over (D1.over (D1.over sn1 hs1 S.Tf1) hp2 S.sep2_1) hs2 S.Tf1) hp3 S.sep3_1) hs3 S.Tf1
    have hj2 : St2 (i + 1) g3 := D2.over (D2.over (D2.over sn2 hs2 S.Tf2) hp3 S.sep3_2) hs3 S.Tf2
    have hj3 : St3 (i + 1) g3 := D3.over sn3 hs3 S.Tf3
    have hzlt : z < g3.objs.size := Heap.lt_size hzz
    show wpAny _ _ (Builtin.SmallTypes.ownedTupleHandOut (.ref z) (.ref g3.objs.size) >>= _) _ _ ⟨g3.push { cls := .type "tuple", data := .seq #[x1, x2, x3] }, g, d, tk3, os⟩
    refine wpAny_bind ?_
    unfold Builtin.SmallTypes.ownedTupleHandOut
    have hz6 : IsZipQ (g3.push { cls := .type "tuple", data := .seq #[x1, x2, x3] }) z TI TO .ellipsis f1 := Heap.get?_push_of_some _ hzz
    refine wpAny_bind (wpAny_setField_rec hz6 (by simp) fun h7 hz7 hs7 => ?_)
    replace hz7 : IsZipQ h7 z TI TO (rawInt g3.objs.size) f1 := hz7
    refine wpAny_setField_rec hz7 (by simp) fun h8 hz8 hs8 => ?_
    replace hz8 : IsZipQ h8 z TI TO (rawInt g3.objs.size) false := hz8
    replace hs7 : Heap.SameBut z (g3.push { cls := .type "tuple", data := .seq #[x1, x2, x3] }) h7 := hs7
    replace hs8 : Heap.SameBut z h7 h8 := hs8
    have up : ∀ c o, c ≠ z → g3.get? c = some o → h8.get? c = some o := fun c o c1 e => hs8.extBut _ _ c1 (hs7.extBut _ _ c1 (Heap.get?_push_of_some _ e))
    have hT8 : IsTupOf3 h8 g3.objs.size x1 x2 x3 := hs8.extBut _ _ (Nat.ne_of_gt hzlt) (hs7.extBut _ _ (Nat.ne_of_gt hzlt) (Heap.get?_push_size _ rfl))
    have hsz8 : h8.objs.size = g3.objs.size + 1 := by rw [hs8.1, hs7.1, Heap.size_push]
    rw [hsz] at hz8 hT8 hsz8
    refine wpAny_pure ⟨_, rfl, ?_⟩
    show Q (.ref g3.objs.size) ⟨h8, g, d, tk3, os⟩
    rw [hsz]
    exact hQ x1 x2 x3 h8 tk3 hx1 hx2 hx3 ⟨_, _, .inr ⟨_, rfl⟩, hz8⟩ ⟨_, _, _, up _ _ S.TOz hT3⟩ (D1.frame _ _ _ hj1 fun b hb o e => up b o (fun q => S.zf1 (q ▸ hb)) e) (D2.frame _ _ _ hj2 fun b hb o e => up b o (fun q => S.zf2 (q ▸ hb)) e) (D3.frame _ _ _ hj3 fun b hb o e => up b o (fun q => S.zf3 (q ▸ hb)) e) hT8 hsz8 fun c o cz cT c1 c2 c3 e => up c o cz (hkk c o cz cT c1 c2 c3 e)
  · replace hs0 : Heap.SameBut z hp g0 := hs0
    simp only [Bool.false_eq_true, if_false]
    refine wpAny_bind ?_
    rw [← Array.forIn_toList]
    simp only [List.forIn_cons, List.forIn_nil]
    refine wpAny_bind (wpAny_bind (wpAny_holding ?_))
    show wpAny _ _ (Builtin.SmallTypes.nextOf (.ref i1) >>= _) _ _ ⟨g0, g, d, tk0, os⟩
    refine wpAny_bind (D1.item i _ _ _ hlt1 (D1.over st1 hs0 S.zf1) fun x1 p1 tk1 hx1 sn1 hp1 => wpAny_pure ?_)
    replace hp1 : Heap.SameBut i1 g0 p1 := hp1
    refine wpAny_pure ?_
    refine wpAny_bind (wpAny_bind (wpAny_holding ?_))
    show wpAny _ _ (Builtin.SmallTypes.nextOf (.ref i2) >>= _) _ _ ⟨p1, g, d, tk1, os⟩
    refine wpAny_bind (D2.item i _ _ _ hlt2 (D2.over (D2.over st2 hs0 S.zf2) hp1 S.sep1_2) fun x2 p2 tk2 hx2 sn2 hp2 => wpAny_pure ?_)
    replace hp2 : Heap.SameBut i2 p1 p2 := hp2
    refine wpAny_pure ?_
    refine wpAny_bind (wpAny_bind (wpAny_holding ?_))
    show wpAny _ _ (Builtin.SmallTypes.nextOf (.ref i3) >>= _) _ _ ⟨p2, g, d, tk2, os⟩
    refine wpAny_bind (D3.item i _ _ _ hlt3 (D3.over (D3.over (D3.over st3 hs0 S.zf3) hp1 S.sep1_3) hp2 S.sep2_3) fun x3 p3 tk3 hx3 sn3 hp3 => wpAny_pure ?_)
    replace hp3 : Heap.SameBut i3 p2 p3 := hp3
    refine wpAny_pure (wpAny_pure ?_)
    show wpAny _ _ (newTuple [x1, x2, x3] >>= _) _ _ ⟨p3, g, d, tk3, os⟩
    refine wpAny_bind (wpAny_newTuple ?_)
    have hsz : p3.objs.size = hp.objs.size := by rw [hp3.1, hp2.1, hp1.1, hs0.1]
    have hzz : IsZipQ p3 z TI TO f0 true := hp3.extBut _ _ (fun e => S.zf3 (by rw [e]; exact S.mem3)) (hp2.extBut _ _ (fun e => S.zf2 (by rw [e]; exact S.mem2)) (hp1.extBut _ _ (fun e => S.zf1 (by rw [e]; exact S.mem1)) (hz0)))
    have hOO : IsTupOf3 p3 TO a1 a2 a3 := hp3.extBut _ _ (fun e => S.Tf3 (by rw [e]; exact S.mem3)) (hp2.extBut _ _ (fun e => S.Tf2 (by rw [e]; exact S.mem2)) (hp1.extBut _ _ (fun e => S.Tf1 (by rw [e]; exact S.mem1)) (hs0.extBut _ _ S.TOz hTO)))
    have hkk : ∀ c o, c ≠ z → c ≠ i1 → c ≠ i2 → c ≠ i3 → hp.get? c = some o → p3.get? c = some o := fun c o cz c1 c2 c3 e => hp3.extBut _ _ c3 (hp2.extBut _ _ c2 (hp1.extBut _ _ c1 (hs0.extBut _ _ cz e)))
    have hj1 : St1 (i + 1) p3 := D1.over (D1.over sn1 hp2 S.sep2_1) hp3 S.sep3_1
    have hj2 : St2 (i + 1) p3 := D2.over sn2 hp3 S.sep3_2
    have hj3 : St3 (i + 1) p3 := sn3
    refine wpAny_pure ⟨_, rfl, ?_⟩
    show Q (.ref p3.objs.size) _
    have hT8 : IsTupOf3 (p3.push { cls := .type "tuple", data := .seq #[x1, x2, x3] }) p3.objs.size x1 x2 x3 := Heap.get?_push_size _ rfl
    have hsz8 : (p3.push { cls := .type "tuple", data := .seq #[x1, x2, x3] }).objs.size = p3.objs.size + 1 := Heap.size_push ..
    rw [hsz] at hT8 hsz8 ⊢
    exact hQ x1 x2 x3 _ tk3 hx1 hx2 hx3 ⟨f0, true, hf, Heap.get?_push_of_some _ hzz⟩ ⟨_, _, _, Heap.get?_push_of_some _ hOO⟩ (D1.frame _ _ _ hj1 fun b hb o e => Heap.get?_push_of_some _ e) (D2.frame _ _ _ hj2 fun b hb o e => Heap.get?_push_of_some _ e) (D3.frame _ _ _ hj3 fun b hb o e => Heap.get?_push_of_some _ e) hT8 hsz8 fun c o cz _ c1 c2 c3 e => Heap.get?_push_of_some _ (hkk c o cz c1 c2 c3 e)
theorem zipQ3_end {Q : Fin → Shared → Prop} {f0 : Value} {f1 : Bool} (S : ZipSep3 z TI TO i1 i2 i3 fp1 fp2 fp3) (D1 : Draws prog w A i1 fp1 n1 P1 St1) (D2 : Draws prog w A i2 fp2 n2 P2 St2) (D3 : Draws prog w A i3 fp3 n3 P3 St3)
    (hf : Out0 f0) (hz : IsZipQ s.heap z TI TO f0 f1) (hTI : IsTupOf3 s.heap TI (.ref i1) (.ref i2) (.ref i3)) (hTO : IsTupOf3 s.heap TO a1 a2 a3) (st1 : St1 i s.heap) (st2 : St2 i s.heap) (st3 : St3 i s.heap) (hle1 : i ≤ n1) (hle2 : i ≤ n2) (hle3 : i ≤ n3) (hend : i = n1 ∨ i = n2 ∨ i = n3)
    (hE : ∀ h' tk e, (∀ c o, c ≠ z → c ≠ TO → c ≠ i1 → c ≠ i2 → c ≠ i3 → s.heap.get? c = some o → h'.get? c = some o) → (∃ o, h'.get? e = some o ∧ o.cls = .type "StopIteration") → E (.ref e) { s with heap := h', toks := tk }) :
    wpAny (model prog w) A (Builtin.«zip.__next__» ⟨[.ref z], []⟩) Q E s := by
  obtain ⟨hp, g, d, tk0, os⟩ := s
  show wpAny _ _ (field (.ref z) 2 >>= _) _ _ _
  refine wpAny_bind (wpAny_field hz rfl (x := .bool false) rfl ?_)
  show wpAny _ _ (field (.ref z) 3 >>= _) _ _ _
  refine wpAny_bind (wpAny_field hz rfl (x := .ref TI) rfl ?_)
  refine wpAny_bind (wpAny_seqItems hTI rfl ?_)
  show wpAny _ _ (Builtin.SmallTypes.ownedTupleIsFree (.ref z) >>= _) _ _ _
  refine wpAny_bind (owned_any hz hf ?_ fun g0 hz0 hs0 => ?_)
  · simp only [if_true]
    refine wpAny_bind (wpAny_rule ?_)
    refine wpAny_bind (wpAny_field hz rfl (x := .ref TO) rfl ?_)
    refine wpAny_bind (wpAny_setField_rec hz (by simp) fun g0 hz0 hs0 => ?_)
    replace hz0 : IsZipQ g0 z TI TO .ellipsis f1 := hz0
    replace hs0 : Heap.SameBut z hp g0 := hs0
    refine wpAny_bind ?_
    simp only [List.zipIdx_cons, List.zipIdx_nil, List.forIn_cons, List.forIn_nil]
    refine wpAny_bind (wpAny_bind (wpAny_onRaise ?_))
    show wpAny _ _ (Builtin.SmallTypes.nextOf (.ref i1) >>= _) _ _ ⟨g0, g, d, tk0, os⟩
    by_cases hlt1 : i < n1
    · refine wpAny_bind (D1.item i _ _ _ hlt1 (D1.over st1 hs0 S.zf1) fun x1 p1 tk1 hx1 sn1 hp1 => wpAny_pure ?_)
      replace hp1 : Heap.SameBut i1 g0 p1 := hp1
      have hU1 : IsTupOf3 p1 TO a1 a2 a3 := hp1.extBut _ _ S.Ti1 (hs0.extBut _ _ S.TOz hTO)
      refine wpAny_bind (wpAny_seqItems (s := ⟨p1, g, d, tk1, os⟩) hU1 rfl ?_)
      refine wpAny_bind (updateSeq_IsTupOf3 (s := ⟨p1, g, d, tk1, os⟩) hU1 fun g1 hT1 hs1 => ?_)
      replace hT1 : IsTupOf3 g1 TO x1 a2 a3 := hT1
      replace hs1 : Heap.SameBut TO p1 g1 := hs1
      refine wpAny_bind (wpAny_letGo (wpAny_pure ?_))
      refine wpAny_bind (wpAny_bind (wpAny_onRaise ?_))
      show wpAny _ _ (Builtin.SmallTypes.nextOf (.ref i2) >>= _) _ _ ⟨g1, g, d, tk1, os⟩
      by_cases hlt2 : i < n2
      · refine wpAny_bind (D2.item i _ _ _ hlt2 (D2.over (D2.over (D2.over st2 hs0 S.zf2) hp1 S.sep1_2) hs1 S.Tf2) fun x2 p2 tk2 hx2 sn2 hp2 => wpAny_pure ?_)
        replace hp2 : Heap.SameBut i2 g1 p2 := hp2
        have hU2 : IsTupOf3 p2 TO x1 a2 a3 := hp2.extBut _ _ S.Ti2 hT1
        refine wpAny_bind (wpAny_seqItems (s := ⟨p2, g, d, tk2, os⟩) hU2 rfl ?_)
        refine wpAny_bind (updateSeq_IsTupOf3 (s := ⟨p2, g, d, tk2, os⟩) hU2 fun g2 hT2 hs2 => ?_)
        replace hT2 : IsTupOf3 g2 TO x1 x2 a3 := hT2
        replace hs2 : Heap.SameBut TO p2 g2 := hs2
        refine wpAny_bind (wpAny_letGo (wpAny_pure ?_))
        refine wpAny_bind (wpAny_bind (wpAny_onRaise ?_))
        show wpAny _ _ (Builtin.SmallTypes.nextOf (.ref i3) >>= _) _ _ ⟨g2, g, d, tk2, os⟩
        have he3 : i = n3 := by omega
        refine wpAny_bind (D3.done ⟨g2, g, d, tk2, os⟩ _ _ (by rw [← he3]; exact (D3.over (D3.over (D3.over (D3.over (D3.over st3 hs0 S.zf3) hp1 S.sep1_3) hs1 S.Tf3) hp2 S.sep2_3) hs2 S.Tf3)) fun q e hq he => ?_)
        replace hq : Heap.ExtBut i3 g2 q := hq
        obtain ⟨oe, hoe, hce⟩ := he
        replace hoe : q.get? e = some oe := hoe
        have hzq : IsZipQ q z TI TO .ellipsis f1 := hq _ _ S.zi3 (hs2.extBut _ _ S.TOz.symm (hp2.extBut _ _ S.zi2 (hs1.extBut _ _ S.TOz.symm (hp1.extBut _ _ S.zi1 (hz0)))))
        have hez : e ≠ z := fun x => by subst x; rw [hzq] at hoe; cases hoe; simp at hce
        refine wpAny_setField_rec (s := ⟨q, g, d, tk2, os⟩) hzq (by simp) fun q' _ hq' => ?_
        replace hq' : Heap.SameBut z q q' := hq'
        exact hE q' tk2 e (fun c o cz cT c1 c2 c3 x => hq'.extBut _ _ cz (hq _ _ c3 (hs2.extBut _ _ cT (hp2.extBut _ _ c2 (hs1.extBut _ _ cT (hp1.extBut _ _ c1 (hs0.extBut _ _ cz x))))))) ⟨oe, hq'.extBut _ _ hez hoe, hce⟩
      · have he2 : i = n2 := by omega
        refine wpAny_bind (D2.done ⟨g1, g, d, tk1, os⟩ _ _ (by rw [← he2]; exact (D2.over (D2.over (D2.over st2 hs0 S.zf2) hp1 S.sep1_2) hs1 S.Tf2)) fun q e hq he => ?_)
        replace hq : Heap.ExtBut i2 g1 q := hq
        obtain ⟨oe, hoe, hce⟩ := he
        replace hoe : q.get? e = some oe := hoe
        have hzq : IsZipQ q z TI TO .ellipsis f1 := hq _ _ S.zi2 (hs1.extBut _ _ S.TOz.symm (hp1.extBut _ _ S.zi1 (hz0)))
        have hez : e ≠ z := fun x => by subst x; rw [hzq] at hoe; cases hoe; simp at hce
        refine wpAny_setField_rec (s := ⟨q, g, d, tk1, os⟩) hzq (by simp) fun q' _ hq' => ?_
        replace hq' : Heap.SameBut z q q' := hq'
        exact hE q' tk1 e (fun c o cz cT c1 c2 c3 x => hq'.extBut _ _ cz (hq _ _ c2 (hs1.extBut _ _ cT (hp1.extBut _ _ c1 (hs0.extBut _ _ cz x))))) ⟨oe, hq'.extBut _ _ hez hoe, hce⟩
    · have he1 : i = n1 := by omega
      refine wpAny_bind (D1.done ⟨g0, g, d, tk0, os⟩ _ _ (by rw [← he1]; exact (D1.over st1 hs0 S.zf1)) fun q e hq he => ?_)
      replace hq : Heap.ExtBut i1 g0 q := hq
      obtain ⟨oe, hoe, hce⟩ := he
      replace hoe : q.get? e = some oe := hoe
      have hzq : IsZipQ q z TI TO .ellipsis f1 := hq _ _ S.zi1 (hz0)
      have hez : e ≠ z := fun x => by subst x; rw [hzq] at hoe; cases hoe; simp at hce
      refine wpAny_setField_rec (s := ⟨q, g, d, tk0, os⟩) hzq (by simp) fun q' _ hq' => ?_
      replace hq' : Heap.SameBut z q q' := hq'
      exact hE q' tk0 e (fun c o cz cT c1 c2 c3 x => hq'.extBut _ _ cz (hq _ _ c1 (hs0.extBut _ _ cz x))) ⟨oe, hq'.extBut _ _ hez hoe, hce⟩
  · replace hs0 : Heap.SameBut z hp g0 := hs0
    simp only [Bool.false_eq_true, if_false]
    refine wpAny_bind ?_
    rw [← Array.forIn_toList]
    simp only [List.forIn_cons, List.forIn_nil]
    refine wpAny_bind (wpAny_bind (wpAny_holding ?_))
    show wpAny _ _ (Builtin.SmallTypes.nextOf (.ref i1) >>= _) _ _ ⟨g0, g, d, tk0, os⟩
    by_cases hlt1 : i < n1
    · refine wpAny_bind (D1.item i _ _ _ hlt1 (D1.over st1 hs0 S.zf1) fun x1 p1 tk1 hx1 sn1 hp1 => wpAny_pure ?_)
      replace hp1 : Heap.SameBut i1 g0 p1 := hp1
      refine wpAny_pure ?_
      refine wpAny_bind (wpAny_bind (wpAny_holding ?_))
      show wpAny _ _ (Builtin.SmallTypes.nextOf (.ref i2) >>= _) _ _ ⟨p1, g, d, tk1, os⟩
      by_cases hlt2 : i < n2
      · refine wpAny_bind (D2.item i _ _ _ hlt2 (D2.over (D2.over st2 hs0 S.zf2) hp1 S.sep1_2) fun x2 p2 tk2 hx2 sn2 hp2 => wpAny_pure ?_)
        replace hp2 : Heap.SameBut i2 p1 p2 := hp2
        refine wpAny_pure ?_
        refine wpAny_bind (wpAny_bind (wpAny_holding ?_))
        show wpAny _ _ (Builtin.SmallTypes.nextOf (.ref i3) >>= _) _ _ ⟨p2, g, d, tk2, os⟩
        have he3 : i = n3 := by omega
        refine wpAny_bind (D3.done ⟨p2, g, d, tk2, os⟩ _ _ (by rw [← he3]; exact (D3.over (D3.over (D3.over st3 hs0 S.zf3) hp1 S.sep1_3) hp2 S.sep2_3)) fun q e hq he => ?_)
        replace hq : Heap.ExtBut i3 p2 q := hq
        exact hE q tk2 e (fun c o cz cT c1 c2 c3 x => hq _ _ c3 (hp2.extBut _ _ c2 (hp1.extBut _ _ c1 (hs0.extBut _ _ cz x)))) he
      · have he2 : i = n2 := by omega
        refine wpAny_bind (D2.done ⟨p1, g, d, tk1, os⟩ _ _ (by rw [← he2]; exact (D2.over (D2.over st2 hs0 S.zf2) hp1 S.sep1_2)) fun q e hq he => ?_)
        replace hq : Heap.ExtBut i2 p1 q := hq
        exact hE q tk1 e (fun c o cz cT c1 c2 c3 x => hq _ _ c2 (hp1.extBut _ _ c1 (hs0.extBut _ _ cz x))) he
    · have he1 : i = n1 := by omega
      refine wpAny_bind (D1.done ⟨g0, g, d, tk0, os⟩ _ _ (by rw [← he1]; exact (D1.over st1 hs0 S.zf1)) fun q e hq he => ?_)
      replace hq : Heap.ExtBut i1 g0 q := hq
      exact hE q tk0 e (fun c o cz cT c1 c2 c3 x => hq _ _ c1 (hs0.extBut _ _ cz x)) he
theorem pyNext_zipQ3_item {Q : Option Value → Shared → Prop} {f0 : Value} {f1 : Bool} (S : ZipSep3 z TI TO i1 i2 i3 fp1 fp2 fp3) (D1 : Draws prog w A.in1 i1 fp1 n1 P1 St1) (D2 : Draws prog w A.in1 i2 fp2 n2 P2 St2) (D3 : Draws prog w A.in1 i3 fp3 n3 P3 St3)
    (hf : Out0 f0) (hz : IsZipQ s.heap z TI TO f0 f1) (hTI : IsTupOf3 s.heap TI (.ref i1) (.ref i2) (.ref i3)) (hTO : IsTupOf3 s.heap TO a1 a2 a3) (st1 : St1 i s.heap) (st2 : St2 i s.heap) (st3 : St3 i s.heap) (hlt1 : i < n1) (hlt2 : i < n2) (hlt3 : i < n3)
    (hQ : ∀ x1 x2 x3 h' tk, P1 i x1 → P2 i x2 → P3 i x3 → ZipSt h' z TI TO → (∃ b1 b2 b3, IsTupOf3 h' TO b1 b2 b3) → St1 (i + 1) h' → St2 (i + 1) h' → St3 (i + 1) h' → IsTupOf3 h' s.heap.objs.size x1 x2 x3 → h'.objs.size = s.heap.objs.size + 1 →
      (∀ c o, c ≠ z → c ≠ TO → c ≠ i1 → c ≠ i2 → c ≠ i3 → s.heap.get? c = some o → h'.get? c = some o) → Q (some (.ref s.heap.objs.size)) { s with heap := h', toks := tk }) :
    wpAny (model prog w) A (pyNext (.ref z)) Q E s := by
  have hT : s.TypeIs (.ref z) "zip" := ⟨_, hz, rfl⟩
  unfold pyNext
  exact wpAny_bind (wpAny_attempt (wpAny_callSpecial?_slot (name := Str.ofString "__next__") hT F.slot_zip_next
    (wpAny_call_entry F.slot_zip_next hT F.entry_zip_next
      (zipQ3_item S D1 D2 D3 hf hz hTI hTO st1 st2 st3 hlt1 hlt2 hlt3 fun x1 x2 x3 h' tk y1 y2 y3 b1 b2 d1 d2 d3 b5 b6 b7 => wpAny_pure (hQ x1 x2 x3 h' tk y1 y2 y3 b1 b2 d1 d2 d3 b5 b6 b7)) (F.args_zip_next_1 _))))
theorem pyNext_zipQ3_end {Q : Option Value → Shared → Prop} {f0 : Value} {f1 : Bool} (S : ZipSep3 z TI TO i1 i2 i3 fp1 fp2 fp3) (D1 : Draws prog w A.in1 i1 fp1 n1 P1 St1) (D2 : Draws prog w A.in1 i2 fp2 n2 P2 St2) (D3 : Draws prog w A.in1 i3 fp3 n3 P3 St3)
    (hf : Out0 f0) (hz : IsZipQ s.heap z TI TO f0 f1) (hTI : IsTupOf3 s.heap TI (.ref i1) (.ref i2) (.ref i3)) (hTO : IsTupOf3 s.heap TO a1 a2 a3) (st1 : St1 i s.heap) (st2 : St2 i s.heap) (st3 : St3 i s.heap) (hle1 : i ≤ n1) (hle2 : i ≤ n2) (hle3 : i ≤ n3) (hend : i = n1 ∨ i = n2 ∨ i = n3)
    (hQ : ∀ h' tk, (∀ c o, c ≠ z → c ≠ TO → c ≠ i1 → c ≠ i2 → c ≠ i3 → s.heap.get? c = some o → h'.get? c = some o) → Q none { s with heap := h', toks := tk }) : wpAny (model prog w) A (pyNext (.ref z)) Q E s := by
  have hT : s.TypeIs (.ref z) "zip" := ⟨_, hz, rfl⟩
  unfold pyNext
  refine wpAny_bind (wpAny_attempt (wpAny_callSpecial?_slot (name := Str.ofString "__next__") hT F.slot_zip_next
    (wpAny_call_entry F.slot_zip_next hT F.entry_zip_next (zipQ3_end S D1 D2 D3 hf hz hTI hTO st1 st2 st3 hle1 hle2 hle3 hend fun h' tk e hk he => ?_) (F.args_zip_next_1 _))))
  obtain ⟨o, ho, hc⟩ := he
  refine wpAny_bind (wpAny_isInstance (T := "StopIteration") (b := true) ⟨o, ho, hc⟩ isSubtype_stop ?_)
  exact wpAny_pure (hQ _ _ hk)
end
end DL

end
section
set_option maxRecDepth 100000
/-! zip whose tuples are kept: pair by pair under a name, or in a list (printed by genq.py). -/
namespace DL
open PySem L2 PyProof.Rows
/-- what an iterator does, wherever it is asked -/
structure TurnN (P : Program) (w : World) (K : PySem.W.Frag) (J : It) (fp : List Addr) (it : Addr) (tn : Nat → Heap → Prop) : Prop where
  mem : it ∈ fp
  obj : ∀ i h, tn i h → ∀ b ∈ fp, ∃ o, h.get? b = some o ∧ ∀ v, o.data ≠ .cell v
  keep : ∀ i h h', tn i h → (∀ b ∈ fp, ∀ o, h.get? b = some o → h'.get? b = some o) → tn i h'
  typ : ∀ i h, tn i h → ∃ o, h.get? it = some o ∧ o.cls = .type "zip"
  item : ∀ (X : Cx) (A : Around), A.handled = none → X.prog = P → X.w = w → X.K = K → ∀ (i : Nat) (pins : List (Addr × Obj)) (s : Shared) (σ : L2.St) (H : Hp) (E : Value → Shared → Prop) (Q : Option Value → Shared → Prop), Inv X pins σ H s → (∀ b ∈ fp, FpOk X pins H b) → tn i s.heap → J.go i H →
    (∀ u x H' s2, Inv X pins σ H' s2 → RelV x u → J.yld i H x H' → tn (i + 1) s2.heap → (∀ b ∈ fp, H' b = none) → Q (some u) s2) → wpAny (model P w) A (pyNext (.ref it)) Q E s
  done : ∀ (X : Cx) (A : Around), A.handled = none → X.prog = P → X.w = w → X.K = K → ∀ (i : Nat) (pins : List (Addr × Obj)) (s : Shared) (σ : L2.St) (H : Hp) (E : Value → Shared → Prop) (Q : Option Value → Shared → Prop), Inv X pins σ H s → (∀ b ∈ fp, FpOk X pins H b) → tn i s.heap → J.stop i H →
    (∀ s2, Inv X pins σ H s2 → Q none s2) → wpAny (model P w) A (pyNext (.ref it)) Q E s
  self : ∀ (A : Around) (i : Nat) (s : Shared) (Q : Value → Shared → Prop) (E : Value → Shared → Prop), tn i s.heap → Q (.ref it) s → wpAny (model P w) A (pyIter (.ref it)) Q E s
theorem TurnN.turn {P : Program} {w : World} {K : PySem.W.Frag} {J : It} {fp : List Addr} {it : Addr} {tn : Nat → Heap → Prop} {x : Str} {p : Pos} (t : TurnN P w K J fp it tn) : Turn P w K (.Name x p) J fp it tn where
  mem := t.mem
  obj := t.obj
  keep := t.keep
  item := fun X hP hw hK hc i pins s σ H E I hf st hg => t.item X X.A (I.ok.hd hc) hP hw hK i pins s σ H E _ I hf st hg fun u y H' s2 I' r yl tn' hb => ⟨u, rfl, wpAny_pure ⟨y, H', I', r, yl, tn', hb⟩⟩
  done := fun X hP hw hK hc i pins s σ H E I hf st hg => t.done X X.A (I.ok.hd hc) hP hw hK i pins s σ H E _ I hf st hg fun s2 I2 => ⟨rfl, I2⟩
  self := t.self

theorem ItX.ob2 {b : Bool} {h : Heap} {it a : Addr} {i : Nat} (x : ItX b h it a i) : ∃ o, h.get? it = some o ∧ (o.cls = .type "list_iterator" ∨ o.cls = .type "tuple_iterator") := by
  cases b with
  | true => obtain ⟨o, e, c, d⟩ := (show h.IsTupleIter it a i from x); exact ⟨o, e, .inr c⟩
  | false => obtain ⟨o, e, c, d⟩ := (show h.IsListIter it a i from x); exact ⟨o, e, .inl c⟩
theorem SeqX.nit {b : Bool} {h : Heap} {a : Addr} {xs : Array Value} (x : SeqX b h a xs) {o : Obj} (e : h.get? a = some o) (c : o.cls = .type "list_iterator" ∨ o.cls = .type "tuple_iterator") : False := by
  cases b with
  | true =>
    obtain ⟨o', e', c', _⟩ := (show h.IsTuple a xs from x)
    rw [e'] at e; cases e
    rw [c'] at c
    rcases c with c | c <;> exact absurd c (by decide)
  | false =>
    obtain ⟨o', e', c', _⟩ := (show h.IsList a xs from x)
    rw [e'] at e; cases e
    rw [c'] at c
    rcases c with c | c <;> exact absurd c (by decide)
theorem wpAny_pyIter_zipQ {prog : Program} {w : World} {A : Around} {E : Value → Shared → Prop} {s : Shared} {z TI TO : Addr} {f0 : Value} {f1 : Bool} {Q : Value → Shared → Prop} (hz : IsZipQ s.heap z TI TO f0 f1) (h : Q (.ref z) s) : wpAny (model prog w) A (pyIter (.ref z)) Q E s := by
  have hT : s.TypeIs (.ref z) "zip" := ⟨_, hz, rfl⟩
  refine wpAny_pyIter_slot hT F.slot_zip_iter (wpAny_call_entry F.slot_zip_iter hT F.entry_zip_iter ?_ (F.args_zip_iter_1 _))
  show wpAny _ _ (ret (.ref z)) _ _ s
  exact wpAny_pure ⟨_, rfl, "zip", _, hT, F.slot_zip_next.lookup, h⟩

def tnQ2 (b1 b2 : Bool) (l1 l2 z TI TO i1 i2 : Addr) : Nat → Heap → Prop := fun i h => ZipSt h z TI TO ∧ IsTupOf2 h TI (.ref i1) (.ref i2) ∧ (∃ x1 x2, IsTupOf2 h TO x1 x2) ∧ ItX b1 h i1 l1 i ∧ ItX b2 h i2 l2 i
theorem turnN_zip2 {P : Program} {w : World} {K : PySem.W.Frag} {b1 b2 : Bool} {l1 l2 z TI TO i1 i2 : Addr} (D : ZipSep2 z TI TO i1 i2 [i1, l1] [i2, l2]) : TurnN P w K (Itz2 K b1 b2 l1 l2) [z, TI, TO, i1, i2] z (tnQ2 b1 b2 l1 l2 z TI TO i1 i2) where
  mem := by simp
  obj := fun i h st c hc => by
    obtain ⟨⟨f0, f1, hf0, hz⟩, hTI, ⟨x1, x2, hTO⟩, h1, h2⟩ := st
    have e' : c = z ∨ c = TI ∨ c = TO ∨ c = i1 ∨ c = i2 := by simpa using hc
    rcases e' with q | q | q | q | q
    · rw [q]; exact ⟨_, hz, fun v q => nomatch q⟩
    · rw [q]; exact ⟨_, hTI, fun v q => nomatch q⟩
    · rw [q]; exact ⟨_, hTO, fun v q => nomatch q⟩
    · rw [q]; exact h1.ob
    · rw [q]; exact h2.ob
  keep := fun i h h' st k => by
    obtain ⟨⟨f0, f1, hf0, hz⟩, hTI, ⟨x1, x2, hTO⟩, h1, h2⟩ := st
    exact ⟨⟨f0, f1, hf0, k z (by simp) _ hz⟩, k TI (by simp) _ hTI, ⟨x1, x2, k TO (by simp) _ hTO⟩, h1.at fun o q => k i1 (by simp) o q, h2.at fun o q => k i2 (by simp) o q⟩
  typ := fun i h st => by
    obtain ⟨⟨f0, f1, hf0, hz⟩, _⟩ := st
    exact ⟨_, hz, rfl⟩
  item := by
    intro X A hh hP hw hK i pins s σ H E Q I hf st hg hQ
    subst hP hw hK
    obtain ⟨⟨f0, f1, hf0, hz⟩, hTI, ⟨y1, y2, hTO⟩, h1, h2⟩ := st
    obtain ⟨xs1, xs2, x1, x2, hq1, hq2, hx1, hx2⟩ := hg
    obtain ⟨its1, rv1, p1, ln1⟩ := seq_x I hq1
    obtain ⟨its2, rv2, p2, ln2⟩ := seq_x I hq2
    obtain ⟨u1, hu1, ru1⟩ := rv1.get hx1
    obtain ⟨u2, hu2, ru2⟩ := rv2.get hx2
    have n1 : i < its1.toArray.size := by rw [List.size_toArray]; exact (List.getElem?_eq_some_iff.mp hu1).1
    have n2 : i < its2.toArray.size := by rw [List.size_toArray]; exact (List.getElem?_eq_some_iff.mp hu2).1
    have hzl : z < s.heap.objs.size := Heap.lt_size hz
    have ne1 : l1 ≠ i1 := fun q => by
      obtain ⟨o1, e1⟩ := p1.ob
      obtain ⟨o2, e2, c2⟩ := h1.ob2
      rw [q, e2] at e1
      cases e1
      exact p1.nit (by rw [q]; exact e2) c2
    have ne2 : l2 ≠ i2 := fun q => by
      obtain ⟨o1, e1⟩ := p2.ob
      obtain ⟨o2, e2, c2⟩ := h2.ob2
      rw [q, e2] at e1
      cases e1
      exact p2.nit (by rw [q]; exact e2) c2
    refine pyNext_zipQ2_item D (draws_x (A := A.in1) hh b1 i1 l1 ne1 its1.toArray) (draws_x (A := A.in1) hh b2 i2 l2 ne2 its2.toArray) hf0 hz hTI hTO ⟨h1, p1⟩ ⟨h2, p2⟩ n1 n2 fun v1 v2 h' tk e1 e2 zs tos s1 s2 hT hsz hk => ?_
    obtain rfl : v1 = u1 := by
      have q : its1[i]? = some v1 := by simpa using e1
      rw [hu1] at q
      exact (Option.some.inj q).symm
    obtain rfl : v2 = u2 := by
      have q : its2[i]? = some v2 := by simpa using e2
      rw [hu2] at q
      exact (Option.some.inj q).symm
    have new : ObjOk X.prog X.w (upd H s.heap.objs.size (.tup [x1, x2])) h' s.heap.objs.size (.tup [x1, x2]) :=
      ⟨by show 2 ≤ sizeLine; decide, [v1, v2], .cons ru1 (.cons ru2 .nil), ⟨_, hT, rfl, _, rfl⟩⟩
    have I1 : Inv X pins σ (upd H s.heap.objs.size (.tup [x1, x2])) { s with heap := h', toks := tk } :=
      I.turnedNew (t' := tk) (ch := [z, TI, TO, i1, i2]) (fun c o hb q => hk c o (fun q' => hb (by simp [q'])) (fun q' => hb (by simp [q'])) (fun q' => hb (by simp [q'])) (fun q' => hb (by simp [q'])) q) hf (Nat.le_refl _) new
    refine hQ (.ref s.heap.objs.size) (.ref s.heap.objs.size) _ _ I1 rfl ⟨_, x1, x2, rfl, I.hok.fresh (Nat.le_refl _), rfl, fun l hl => by rw [sqX_inj I hl hq1]; exact hx1, fun l hl => by rw [sqX_inj I hl hq2]; exact hx2⟩ ⟨zs, hk _ _ D.TIz D.TITO D.TIi1 D.TIi2 hTI, tos, s1.1, s2.1⟩ fun c hcm => ?_
    have hlt : c < s.heap.objs.size := by
      have e' : c = z ∨ c = TI ∨ c = TO ∨ c = i1 ∨ c = i2 := by simpa using hcm
      rcases e' with q | q | q | q | q
      · rw [q]; exact hzl
      · rw [q]; exact Heap.lt_size hTI
      · rw [q]; exact Heap.lt_size hTO
      · rw [q]; obtain ⟨_, e1, _⟩ := h1.ob; exact Heap.lt_size e1
      · rw [q]; obtain ⟨_, e1, _⟩ := h2.ob; exact Heap.lt_size e1
    rw [upd_ne (Nat.ne_of_lt hlt)]
    exact (hf c hcm).1
  done := by
    intro X A hh hP hw hK i pins s σ H E Q I hf st hg hQ
    subst hP hw hK
    obtain ⟨⟨f0, f1, hf0, hz⟩, hTI, ⟨y1, y2, hTO⟩, h1, h2⟩ := st
    obtain ⟨xs1, xs2, hq1, hq2, le1, le2, hend⟩ := hg
    obtain ⟨its1, rv1, p1, ln1⟩ := seq_x I hq1
    obtain ⟨its2, rv2, p2, ln2⟩ := seq_x I hq2
    have ne1 : l1 ≠ i1 := fun q => by
      obtain ⟨o1, e1⟩ := p1.ob
      obtain ⟨o2, e2, c2⟩ := h1.ob2
      rw [q, e2] at e1
      cases e1
      exact p1.nit (by rw [q]; exact e2) c2
    have ne2 : l2 ≠ i2 := fun q => by
      obtain ⟨o1, e1⟩ := p2.ob
      obtain ⟨o2, e2, c2⟩ := h2.ob2
      rw [q, e2] at e1
      cases e1
      exact p2.nit (by rw [q]; exact e2) c2
    refine pyNext_zipQ2_end D (draws_x (A := A.in1) hh b1 i1 l1 ne1 its1.toArray) (draws_x (A := A.in1) hh b2 i2 l2 ne2 its2.toArray) hf0 hz hTI hTO ⟨h1, p1⟩ ⟨h2, p2⟩ (by rw [List.size_toArray]; omega) (by rw [List.size_toArray]; omega) (by simp only [List.size_toArray]; omega) fun h' tk hk => hQ _ (I.turnedL (t' := tk) (ch := [z, TI, TO, i1, i2]) (fun c o hb q => hk c o (fun q' => hb (by simp [q'])) (fun q' => hb (by simp [q'])) (fun q' => hb (by simp [q'])) (fun q' => hb (by simp [q'])) q) hf)
  self := fun A i s Q E st h => by
    obtain ⟨⟨f0, f1, hf0, hz⟩, _⟩ := st
    exact wpAny_pyIter_zipQ hz h
def Itz3 (K : PySem.W.Frag) (b1 b2 b3 : Bool) (l1 l2 l3 : Addr) : It :=
  ⟨fun i H => ∃ (xs1 xs2 xs3 : List V) (x1 x2 x3 : V), SqX K b1 H l1 xs1 ∧ SqX K b2 H l2 xs2 ∧ SqX K b3 H l3 xs3 ∧ xs1[i]? = some x1 ∧ xs2[i]? = some x2 ∧ xs3[i]? = some x3,
    fun i H v H' => ∃ T x1 x2 x3, v = .ref T ∧ H T = none ∧ H' = upd H T (.tup [x1, x2, x3]) ∧ (∀ xs, SqX K b1 H l1 xs → xs[i]? = some x1) ∧ (∀ xs, SqX K b2 H l2 xs → xs[i]? = some x2) ∧ ∀ xs, SqX K b3 H l3 xs → xs[i]? = some x3,
    fun i H => ∃ xs1 xs2 xs3 : List V, SqX K b1 H l1 xs1 ∧ SqX K b2 H l2 xs2 ∧ SqX K b3 H l3 xs3 ∧ i ≤ xs1.length ∧ i ≤ xs2.length ∧ i ≤ xs3.length ∧ (xs1.length = i ∨ xs2.length = i ∨ xs3.length = i)⟩
def tnQ3 (b1 b2 b3 : Bool) (l1 l2 l3 z TI TO i1 i2 i3 : Addr) : Nat → Heap → Prop := fun i h => ZipSt h z TI TO ∧ IsTupOf3 h TI (.ref i1) (.ref i2) (.ref i3) ∧ (∃ x1 x2 x3, IsTupOf3 h TO x1 x2 x3) ∧ ItX b1 h i1 l1 i ∧ ItX b2 h i2 l2 i ∧ ItX b3 h i3 l3 i
theorem turnN_zip3 {P : Program} {w : World} {K : PySem.W.Frag} {b1 b2 b3 : Bool} {l1 l2 l3 z TI TO i1 i2 i3 : Addr} (D : ZipSep3 z TI TO i1 i2 i3 [i1, l1] [i2, l2] [i3, l3]) : TurnN P w K (Itz3 K b1 b2 b3 l1 l2 l3) [z, TI, TO, i1, i2, i3] z (tnQ3 b1 b2 b3 l1 l2 l3 z TI TO i1 i2 i3) where
  mem := by simp
  obj := fun i h st c hc => by
    obtain ⟨⟨f0, f1, hf0, hz⟩, hTI, ⟨x1, x2, x3, hTO⟩, h1, h2, h3⟩ := st
    have e' : c = z ∨ c = TI ∨ c = TO ∨ c = i1 ∨ c = i2 ∨ c = i3 := by simpa using hc
    rcases e' with q | q | q | q | q | q
    · rw [q]; exact ⟨_, hz, fun v q => nomatch q⟩
    · rw [q]; exact ⟨_, hTI, fun v q => nomatch q⟩
    · rw [q]; exact ⟨_, hTO, fun v q => nomatch q⟩
    · rw [q]; exact h1.ob
    · rw [q]; exact h2.ob
    · rw [q]; exact h3.ob
  keep := fun i h h' st k => by
    obtain ⟨⟨f0, f1, hf0, hz⟩, hTI, ⟨x1, x2, x3, hTO⟩, h1, h2, h3⟩ := st
    exact ⟨⟨f0, f1, hf0, k z (by simp) _ hz⟩, k TI (by simp) _ hTI, ⟨x1, x2, x3, k TO (by simp) _ hTO⟩, h1.at fun o q => k i1 (by simp) o q, h2.at fun o q => k i2 (by simp) o q, h3.at fun o q => k i3 (by simp) o q⟩
  typ := fun i h st => by
    obtain ⟨⟨f0, f1, hf0, hz⟩, _⟩ := st
    exact ⟨_, hz, rfl⟩
  item := by
    intro X A hh hP hw hK i pins s σ H E Q I hf st hg hQ
    subst hP hw hK
    obtain ⟨⟨f0, f1, hf0, hz⟩, hTI, ⟨y1, y2, y3, hTO⟩, h1, h2, h3⟩ := st
    obtain ⟨xs1, xs2, xs3, x1, x2, x3, hq1, hq2, hq3, hx1, hx2, hx3⟩ := hg
    obtain ⟨its1, rv1, p1, ln1⟩ := seq_x I hq1
    obtain ⟨its2, rv2, p2, ln2⟩ := seq_x I hq2
    obtain ⟨its3, rv3, p3, ln3⟩ := seq_x I hq3
    obtain ⟨u1, hu1, ru1⟩ := rv1.get hx1
    obtain ⟨u2, hu2, ru2⟩ := rv2.get hx2
    obtain ⟨u3, hu3, ru3⟩ := rv3.get hx3
    have n1 : i < its1.toArray.size := by rw [List.size_toArray]; exact (List.getElem?_eq_some_iff.mp hu1).1
    have n2 : i < its2.toArray.size := by rw [List.size_toArray]; exact (List.getElem?_eq_some_iff.mp hu2).1
    have n3 : i < its3.toArray.size := by rw [List.size_toArray]; exact (List.getElem?_eq_some_iff.mp hu3).1
    have hzl : z < s.heap.objs.size := Heap.lt_size hz
    have ne1 : l1 ≠ i1 := fun q => by
      obtain ⟨o1, e1⟩ := p1.ob
      obtain ⟨o2, e2, c2⟩ := h1.ob2
      rw [q, e2] at e1
      cases e1
      exact p1.nit (by rw [q]; exact e2) c2
    have ne2 : l2 ≠ i2 := fun q => by
      obtain ⟨o1, e1⟩ := p2.ob
      obtain ⟨o2, e2, c2⟩ := h2.ob2
      rw [q, e2] at e1
      cases e1
      exact p2.nit (by rw [q]; exact e2) c2
    have ne3 : l3 ≠ i3 := fun q => by
      obtain ⟨o1, e1⟩ := p3.ob
      obtain ⟨o2, e2, c2⟩ := h3.ob2
      rw [q, e2] at e1
      cases e1
      exact p3.nit (by rw [q]; exact e2) c2
    refine pyNext_zipQ3_item D (draws_x (A := A.in1) hh b1 i1 l1 ne1 its1.toArray) (draws_x (A := A.in1) hh b2 i2 l2 ne2 its2.toArray) (draws_x (A := A.in1) hh b3 i3 l3 ne3 its3.toArray) hf0 hz hTI hTO ⟨h1, p1⟩ ⟨h2, p2⟩ ⟨h3, p3⟩ n1 n2 n3 fun v1 v2 v3 h' tk e1 e2 e3 zs tos s1 s2 s3 hT hsz hk => ?_
    obtain rfl : v1 = u1 := by
      have q : its1[i]? = some v1 := by simpa using e1
      rw [hu1] at q
      exact (Option.some.inj q).symm
    obtain rfl : v2 = u2 := by
      have q : its2[i]? = some v2 := by simpa using e2
      rw [hu2] at q
      exact (Option.some.inj q).symm
    obtain rfl : v3 = u3 := by
      have q : its3[i]? = some v3 := by simpa using e3
      rw [hu3] at q
      exact (Option.some.inj q).symm
    have new : ObjOk X.prog X.w (upd H s.heap.objs.size (.tup [x1, x2, x3])) h' s.heap.objs.size (.tup [x1, x2, x3]) :=
      ⟨by show 3 ≤ sizeLine; decide, [v1, v2, v3], .cons ru1 (.cons ru2 (.cons ru3 .nil)), ⟨_, hT, rfl, _, rfl⟩⟩
    have I1 : Inv X pins σ (upd H s.heap.objs.size (.tup [x1, x2, x3])) { s with heap := h', toks := tk } :=
      I.turnedNew (t' := tk) (ch := [z, TI, TO, i1, i2, i3]) (fun c o hb q => hk c o (fun q' => hb (by simp [q'])) (fun q' => hb (by simp [q'])) (fun q' => hb (by simp [q'])) (fun q' => hb (by simp [q'])) (fun q' => hb (by simp [q'])) q) hf (Nat.le_refl _) new
    refine hQ (.ref s.heap.objs.size) (.ref s.heap.objs.size) _ _ I1 rfl ⟨_, x1, x2, x3, rfl, I.hok.fresh (Nat.le_refl _), rfl, fun l hl => by rw [sqX_inj I hl hq1]; exact hx1, fun l hl => by rw [sqX_inj I hl hq2]; exact hx2, fun l hl => by rw [sqX_inj I hl hq3]; exact hx3⟩ ⟨zs, hk _ _ D.TIz D.TITO D.TIi1 D.TIi2 D.TIi3 hTI, tos, s1.1, s2.1, s3.1⟩ fun c hcm => ?_
    have hlt : c < s.heap.objs.size := by
      have e' : c = z ∨ c = TI ∨ c = TO ∨ c = i1 ∨ c = i2 ∨ c = i3 := by simpa using hcm
      rcases e' with q | q | q | q | q | q
      · rw [q]; exact hzl
      · rw [q]; exact Heap.lt_size hTI
      · rw [q]; exact Heap.lt_size hTO
      · rw [q]; obtain ⟨_, e1, _⟩ := h1.ob; exact Heap.lt_size e1
      · rw [q]; obtain ⟨_, e1, _⟩ := h2.ob; exact Heap.lt_size e1
      · rw [q]; obtain ⟨_, e1, _⟩ := h3.ob; exact Heap.lt_size e1
    rw [upd_ne (Nat.ne_of_lt hlt)]
    exact (hf c hcm).1
  done := by
    intro X A hh hP hw hK i pins s σ H E Q I hf st hg hQ
    subst hP hw hK
    obtain ⟨⟨f0, f1, hf0, hz⟩, hTI, ⟨y1, y2, y3, hTO⟩, h1, h2, h3⟩ := st
    obtain ⟨xs1, xs2, xs3, hq1, hq2, hq3, le1, le2, le3, hend⟩ := hg
    obtain ⟨its1, rv1, p1, ln1⟩ := seq_x I hq1
    obtain ⟨its2, rv2, p2, ln2⟩ := seq_x I hq2
    obtain ⟨its3, rv3, p3, ln3⟩ := seq_x I hq3
    have ne1 : l1 ≠ i1 := fun q => by
      obtain ⟨o1, e1⟩ := p1.ob
      obtain ⟨o2, e2, c2⟩ := h1.ob2
      rw [q, e2] at e1
      cases e1
      exact p1.nit (by rw [q]; exact e2) c2
    have ne2 : l2 ≠ i2 := fun q => by
      obtain ⟨o1, e1⟩ := p2.ob
      obtain ⟨o2, e2, c2⟩ := h2.ob2
      rw [q, e2] at e1
      cases e1
      exact p2.nit (by rw [q]; exact e2) c2
    have ne3 : l3 ≠ i3 := fun q => by
      obtain ⟨o1, e1⟩ := p3.ob
      obtain ⟨o2, e2, c2⟩ := h3.ob2
      rw [q, e2] at e1
      cases e1
      exact p3.nit (by rw [q]; exact e2) c2
    refine pyNext_zipQ3_end D (draws_x (A := A.in1) hh b1 i1 l1 ne1 its1.toArray) (draws_x (A := A.in1) hh b2 i2 l2 ne2 its2.toArray) (draws_x (A := A.in1) hh b3 i3 l3 ne3 its3.toArray) hf0 hz hTI hTO ⟨h1, p1⟩ ⟨h2, p2⟩ ⟨h3, p3⟩ (by rw [List.size_toArray]; omega) (by rw [List.size_toArray]; omega) (by rw [List.size_toArray]; omega) (by simp only [List.size_toArray]; omega) fun h' tk hk => hQ _ (I.turnedL (t' := tk) (ch := [z, TI, TO, i1, i2, i3]) (fun c o hb q => hk c o (fun q' => hb (by simp [q'])) (fun q' => hb (by simp [q'])) (fun q' => hb (by simp [q'])) (fun q' => hb (by simp [q'])) (fun q' => hb (by simp [q'])) q) hf)
  self := fun A i s Q E st h => by
    obtain ⟨⟨f0, f1, hf0, hz⟩, _⟩ := st
    exact wpAny_pyIter_zipQ hz h
theorem zsep3 (n l1 l2 l3 : Nat) (h1 : l1 < n) (h2 : l2 < n) (h3 : l3 < n) : ZipSep3 (n + 5) (n + 3) (n + 4) n (n + 1) (n + 2) [n, l1] [n + 1, l2] [n + 2, l3] := by
  have ne : ∀ {a b : Nat}, (a < b ∨ b < a) → a ≠ b := fun h => by omega
  constructor <;> (try simp only [List.mem_cons, List.not_mem_nil, or_false, true_or, or_true, not_or]) <;> first | exact ne (by omega) | exact ⟨ne (by omega), ne (by omega)⟩ | trivial
/-- zip's pairs, each under a name -/
theorem pi_zipXN {X : Cx} {e e2 : Expr} {ta : TA} {p pos tpos : Pos} {x : Str} (hg : Gl X "zip") (hm : X.mg "zip" = none) (ha : PA X [e, e2] ta)
    (hs : starEach [e, e2] X.env = (false, eval e X.env) :: starEach [e2] X.env := by rfl) (hpl : (backTo pos (starEach [e2] X.env)).any (·.1) = false := by rfl) :
    PI X (.Name x tpos) (.Call (.Name "zip" p) [e, e2] [] pos) (iZipX X.K ta) := by
  refine ⟨fun pins s σ H R I h => ?_⟩
  refine Call_ (ld_blt I hg hm PyProof.Rows.boot_zip (PyProof.Rows.callWith_type1 (thn (ha.run pos pins s σ H _ I h) fun us s1 ⟨vs, H1, I1, r1, q1⟩ => ?_) hs hpl))
  obtain ⟨b1, b2, a, b, xs, ys, ex, hqx, hqy, q⟩ := q1
  subst ex
  obtain ⟨u1, u2, eu, ra, rb⟩ := r1.two
  subst eu
  obtain rfl : u1 = Value.ref a := ra
  obtain rfl : u2 = Value.ref b := rb
  obtain ⟨its, rv, p1, _⟩ := seq_x I1 hqx
  obtain ⟨its2, rv2, p2, _⟩ := seq_x I1 hqy
  have fresh5 : ∀ c, c ∈ [s1.heap.objs.size + 4, s1.heap.objs.size + 2, s1.heap.objs.size + 3, s1.heap.objs.size, s1.heap.objs.size + 1] → FpOk X pins H1 c := fun c hcm => by
    have hle : s1.heap.objs.size ≤ c := by
      simp only [List.mem_cons, List.not_mem_nil, or_false] at hcm
      rcases hcm with z | z | z | z | z <;> rw [z] <;> first | exact Nat.le_add_right _ _ | exact Nat.le_refl _
    exact I1.fpOk hle (I1.hok.fresh hle)
  obtain ⟨o1, ho1⟩ := p1.ob
  obtain ⟨o2, ho2⟩ := p2.ob
  refine zip_begins2 (bgn b1 a its.toArray) (bgn b2 b its2.toArray) p1 p2 fun h' hz hTI hTO h1 h2 hsz hk => wpAny_pyIter_zip hz ?_
  have I2 : Inv X pins σ H1 { s1 with heap := h' } := I1.kept (t' := s1.toks) hk
  exact ⟨s1.heap.objs.size + 4, [s1.heap.objs.size + 4, s1.heap.objs.size + 2, s1.heap.objs.size + 3, s1.heap.objs.size, s1.heap.objs.size + 1], _, _, H1, rfl, I2, (turnN_zip2 (zap_sep (PySem.W.ktu_apart s1.heap.objs.size a b (Heap.lt_size ho1) (Heap.lt_size ho2)))).turn, ⟨⟨_, _, .inl rfl, hz⟩, hTI, ⟨_, _, hTO⟩, itX_0 h1, itX_0 h2⟩, fresh5, q⟩
theorem di_zipN2 {X : Cx} {g : Gh} {e e2 : Expr} {U : TDA} {p pos tpos : Pos} {x : Str} (hg : Gl X "zip") (hm : X.mg "zip" = none) (ha : DA X g [e, e2] U)
    (hs : starEach [e, e2] X.env = (false, eval e X.env) :: starEach [e2] X.env := by rfl) (hpl : (backTo pos (starEach [e2] X.env)).any (·.1) = false := by rfl) :
    DI X g (.Name x tpos) (.Call (.Name "zip" p) [e, e2] [] pos) (iZip2 U) :=
  PIm (pi_zipXN hg hm ha hs hpl) fun σ H Q ⟨E, M, R, A, Qd, ok, h, k⟩ => by
    refine ⟨E, M, R, A, _, ok, h, fun vs M1 xs H1 R1 A1 q1 ok1 s1 x1 r1 => ?_⟩
    split at q1
    · rename_i v w
      obtain ⟨⟨ds, Kp⟩, e1, q1⟩ := oq_elim q1
      obtain ⟨⟨es, Kq⟩, e3, q1⟩ := oq_elim q1
      obtain ⟨x, y, ex, r2, r3⟩ := r1.two
      obtain ⟨b1, p1, ep1, a1, k1⟩ := seqOf_at ok1 r2 e1
      obtain ⟨b2, p2, ep2, a2, k2⟩ := seqOf_at ok1 r3 e3
      obtain ⟨us, c1, _⟩ := a1.run ok1 (Sub.refl _) (ExtA.refl _) k1
      obtain ⟨ws, c2, _⟩ := a2.run ok1 (Sub.refl _) (ExtA.refl _) k2
      subst ep1 ep2
      exact ⟨b1, b2, p1, p2, us, ws, ex, c1, c2, k _ _ _ _ _ _ _ q1 ok1 s1 x1 (walk_zip2 a1 a2)⟩
    · exact q1.elim
/-! ### list(zip(..)) -/
namespace F
theorem zip_no_len : typeLookup (.type "zip") "__len__" = pure none := by rw [typeLookup_type, builtinLookup_eq_fast]; kernel_rfl
theorem zip_no_hint : typeLookup (.type "zip") "__length_hint__" = pure none := by rw [typeLookup_type, builtinLookup_eq_fast]; kernel_rfl
end F
section
variable {X : Cx} {pins : List (Addr × Obj)} {σ : L2.St} {H : Hp} {J : It} {fp : List Addr} {it q : Addr} {tn : Nat → Heap → Prop} {A1 : Around} {Rs : Result → Shared → Prop}
theorem zl_loop (T : TurnN X.prog X.w X.K J fp it tn) (hh : A1.handled = none) {W : Nat → Nat → List V → Hp → Prop} {Fin : List V → Hp → Prop}
    (hrun : ∀ i m acc H, W i m acc H → H q = some (.lst acc) ∧ ((J.stop i H ∧ Fin acc H) ∨ (J.go i H ∧ ∀ x H', J.yld i H x H' → H' q = some (.lst acc) ∧ acc.length < sizeLine ∧ ∃ m', m' < m ∧ W (i + 1) m' (acc ++ [x]) (upd H' q (.lst (acc ++ [x]))))))
    (hdone : ∀ acc H s, Inv X pins σ H s → Fin acc H → Rs (.ok (.ret .none)) s) :
    ∀ (m : Nat) (i : Nat) (acc : List V) (H : Hp) (s : Shared), Inv X pins σ H s → (∀ b ∈ fp, FpOk X pins H b) → tn i s.heap → W i m acc H → codeAny (model X.prog X.w) A1 (.builtin "list.extend.loop" ⟨[.ref q, .ref it, .none], []⟩) Rs s := by
  intro m
  induction m using Nat.strongRecOn with
  | _ m ih =>
    intro i acc H s I hf st hW
    refine codeAny_builtin PySem.F.entry_extend_loop ?_
    rw [Around.under_plainId PySem.F.plain_extend_loop _]
    show wpAny _ A1.in1 (pyNext (.ref it) >>= _) _ _ s
    obtain ⟨hq, h | ⟨hg, hy⟩⟩ := hrun i m acc H hW
    · exact wpAny_bind (T.done X A1.in1 hh rfl rfl rfl i pins s σ H _ _ I hf st h.1 fun s2 I2 => wpAny_pure (hdone acc H s2 I2 h.2))
    · refine wpAny_bind (T.item X A1.in1 hh rfl rfl rfl i pins s σ H _ _ I hf st hg fun u x H' s2 I2 r yl tn2 hb => ?_)
      obtain ⟨hq2, hlen, m', hm, hW'⟩ := hy x H' yl
      show wpAny _ A1.in1 (updateSeq q (·.push u) >>= _) _ _ _
      obtain ⟨z, its, k, r2, hl, e⟩ := I2.lstM hq2
      refine wpAny_bind (wpAny_updateSeq e rfl (wpAny_pure ⟨plainId_quiet PySem.F.plain_extend_loop _, ?_⟩) (by rw [List.size_toArray]; omega) (by show (its.toArray.push u).size ≤ sizeLine + 1; rw [Array.size_push, List.size_toArray]; omega))
      have I3 := I2.lset (f := (·.push u)) (its' := its ++ [u]) (t' := s2.toks) hq2 e (by simp) (r2.append (.cons r .nil)) (by rw [List.length_append, List.length_singleton]; omega)
      have ne : ∀ b ∈ fp, b ≠ q := fun b hbm z => by
        have w := hb b hbm
        rw [z, hq2] at w
        cases w
      refine ih m' hm (i + 1) (acc ++ [x]) _ _ I3 (fun b hbm => ?_) (T.keep _ _ _ tn2 fun b hbm o eo => (Heap.get?_update_other _ _ (fun z : q = b => ne b hbm z.symm)).trans eo) hW'
      obtain ⟨_, f⟩ := hf b hbm
      exact ⟨by rw [upd_ne (ne b hbm)]; exact hb b hbm, f⟩
/-- list(z): z is such an iterator -/
theorem call_listZ {E : Value → Shared → Prop} {s : Shared} (hc : X.calm = true) (T : TurnN X.prog X.w X.K J fp it tn) {Q : VK} (I : Inv X pins σ H s) (hf : ∀ b ∈ fp, FpOk X pins H b) (st : tn 0 s.heap)
    (h : ∀ q, H q = none → ∃ (W : Nat → Nat → List V → Hp → Prop) (m : Nat), W 0 m [] (upd H q (.lst [])) ∧
      ∀ i m acc H, W i m acc H → H q = some (.lst acc) ∧ ((J.stop i H ∧ Q (.ref q) H) ∨ (J.go i H ∧ ∀ x H', J.yld i H x H' → H' q = some (.lst acc) ∧ acc.length < sizeLine ∧ ∃ m', m' < m ∧ W (i + 1) m' (acc ++ [x]) (upd H' q (.lst (acc ++ [x])))))) :
    wpAny (model X.prog X.w) X.A (call (.type "list") [.ref it]) (EP X pins σ Q) E s := by
  have hh : X.A.handled = none := I.ok.hd hc
  refine callType_codes (Q₁ := fun obj s₁ => obj = .ref s.heap.objs.size ∧ s₁ = { s with heap := s.heap.push { cls := .type "list", data := .seq #[] } }) PySem.F.called_list (PySem.F.typeCall_list_1 _) PySem.F.entry_list_init
    (code_list_new _ ⟨rfl, rfl⟩) fun obj s₁ h₁ => ?_
  obtain ⟨rfl, rfl⟩ := h₁
  have hS : (s.heap.push { cls := .type "list", data := .seq #[] }).get? s.heap.objs.size = some { cls := .type "list", data := .seq #[] } := Heap.get?_push_size _ rfl
  refine ⟨⟨_, hS, rfl⟩, PySem.F.args_list_init_2 _ _, ?_⟩
  have fr : H s.heap.objs.size = none := I.hok.fresh (Nat.le_refl _)
  obtain ⟨W, m, hP, hrun⟩ := h _ fr
  have I1 : Inv X pins σ (upd H s.heap.objs.size (.lst [])) { s with heap := s.heap.push { cls := .type "list", data := .seq #[] } } := I.lnew (its := []) (t' := s.toks) .nil (Nat.zero_le _)
  have nfp : ∀ b ∈ fp, b ≠ s.heap.objs.size := fun b hb z => by
    obtain ⟨o, e, _⟩ := T.obj 0 _ st b hb
    exact absurd (Heap.lt_size e) (by rw [z]; exact Nat.lt_irrefl _)
  have hf1 : ∀ b ∈ fp, FpOk X pins (upd H s.heap.objs.size (.lst [])) b := fun b hb => by
    obtain ⟨f0, f⟩ := hf b hb
    exact ⟨by rw [upd_ne (nfp b hb)]; exact f0, f⟩
  have st1 : tn 0 (s.heap.push { cls := .type "list", data := .seq #[] }) := T.keep _ _ _ st fun b hb o e => Heap.get?_push_of_some _ e
  show wpAny _ _ (do let old ← Builtin.List.listItems (.ref s.heap.objs.size); Builtin.List.listUpdate (.ref s.heap.objs.size) (fun _ => #[]); letGo old.toList.reverse; Builtin.List.listExtendWith (.ref s.heap.objs.size) (.ref it) .none) _ _ _
  refine wpAny_bind ?_
  unfold Builtin.List.listItems
  refine wpAny_bind (wpAny_seqItems hS rfl (wpAny_pure ?_))
  show wpAny _ _ (updateSeq s.heap.objs.size (fun _ => #[]) >>= fun _ => letGo (#[] : Array Value).toList.reverse >>= fun _ => Builtin.List.listExtendWith (.ref s.heap.objs.size) (.ref it) .none) _ _ _
  refine wpAny_bind (wpAny_updateSeq hS rfl ?_)
  have I2 := I1.lset (f := fun _ => #[]) (its := []) (its' := []) (ys := []) (t' := s.toks) upd_same hS rfl .nil (Nat.zero_le _)
  rw [upd_upd] at I2
  have oth : ∀ {h : Heap} {f : Obj → Obj} {b : Addr} {o : Obj}, b ∈ fp → h.get? b = some o → (h.update s.heap.objs.size f).get? b = some o := fun hb e => (Heap.get?_update_other _ _ (fun z => nfp _ hb z.symm)).trans e
  have st2 := T.keep _ _ _ st1 fun b hb o e => oth (f := Obj.mapSeq (fun _ => (#[] : Array Value))) hb e
  refine wpAny_bind (wpAny_letGo ?_)
  have hne : s.heap.objs.size ≠ it := fun z => nfp it T.mem z.symm
  unfold Builtin.List.listExtendWith
  obtain ⟨oz, ez, cz⟩ := T.typ _ _ st2
  have hT : Shared.TypeIs { s with heap := (s.heap.push { cls := .type "list", data := .seq #[] }).update s.heap.objs.size (Obj.mapSeq (fun _ => (#[] : Array Value))) } (.ref it) "zip" := ⟨oz, ez, cz⟩
  refine wpAny_bind (wpAny_typeOf hT ?_)
  have h1 : Builtin.List.listSameRef (.ref s.heap.objs.size) (.ref it) = false := by simp [Builtin.List.listSameRef, hne]
  have h2 : (Value.type "zip" == Value.type "list") = false := by decide
  have h3 : (Value.type "zip" == Value.type "tuple") = false := by decide
  simp only [h1, h2, h3, Bool.or_false, Bool.false_eq_true, if_false]
  refine wpAny_bind (T.self _ 0 _ _ _ st2 ?_)
  refine wpAny_bind (wpAny_holding ?_)
  unfold Builtin.List.listLengthHint
  refine wpAny_bind (wpAny_specialOf hT F.zip_no_len ?_)
  show wpAny _ _ (specialOf (Value.ref it) (Str.ofString "__length_hint__") >>= _) _ _ _
  refine wpAny_bind (wpAny_specialOf hT F.zip_no_hint ?_)
  refine wpAny_pure ?_
  show wpAny _ _ (rule "list.extend.makes-room" >>= fun _ => Builtin.List.listTouch (.ref s.heap.objs.size) >>= fun _ =>
    again (.builtin "list.extend.loop" ⟨[.ref s.heap.objs.size, .ref it, .none], []⟩)) _ _ _
  refine wpAny_bind (wpAny_rule ?_)
  refine wpAny_bind ?_
  show wpAny _ _ (updateSeq s.heap.objs.size (·.push .none) >>= fun _ => updateSeq s.heap.objs.size (·.pop)) _ _ _
  obtain ⟨z, its, k, r3, hl3, e3⟩ := I2.lstM upd_same
  cases r3
  refine wpAny_bind (wpAny_updateSeq e3 rfl ?_)
  have I3 := I2.lset (f := (·.push Value.none)) (its' := [Value.none]) (ys := [.non]) (t' := s.toks) upd_same e3 (by simp) (.cons rfl .nil) (by rw [List.length_singleton, sizeLine_eq]; decide)
  obtain ⟨z4, its4, k4, r4, hl4, e4⟩ := I3.lstM upd_same
  obtain ⟨u4, rfl, ru4⟩ := r4.one
  refine wpAny_updateSeq e4 rfl ?_ (by show 1 ≤ sizeLine; rw [sizeLine_eq]; decide) (by show 0 ≤ sizeLine + 1; exact Nat.zero_le _)
  have I4 := I3.lset (f := (·.pop)) (its := [u4]) (its' := []) (ys := []) (t' := s.toks) upd_same e4 (by rfl) .nil (Nat.zero_le _)
  rw [upd_upd, upd_upd] at I4
  have st3 := T.keep _ _ _ st2 fun b hb o e => oth (f := Obj.mapSeq (·.push Value.none)) hb e
  have st4 := T.keep _ _ _ st3 fun b hb o e => oth (f := Obj.mapSeq (·.pop)) hb e
  exact wpAny_pure ⟨plainId_quiet PySem.F.plain_extend_loop _, zl_loop (A1 := X.A.in1) (Rs := wants (fun r s₂ => r = .none ∧ EP X pins σ Q (.ref s.heap.objs.size) s₂) E) T hh hrun (fun acc H' s' I' hR => ⟨rfl, .ref s.heap.objs.size, H', I', rfl, hR⟩) m 0 [] _ _ I4 hf1 st4 hP⟩
end
def tListZ3 (K : PySem.W.Frag) (ta : TA) : TE := fun σ H Q => ta σ H fun vs H1 => ∃ b1 b2 b3 l1 l2 l3 xs1 xs2 xs3, vs = [.ref l1, .ref l2, .ref l3] ∧ SqX K b1 H1 l1 xs1 ∧ SqX K b2 H1 l2 xs2 ∧ SqX K b3 H1 l3 xs3 ∧
  ∀ q, H1 q = none → ∃ (W : Nat → Nat → List V → Hp → Prop) (m : Nat), W 0 m [] (upd H1 q (.lst [])) ∧
      ∀ i m acc H, W i m acc H → H q = some (.lst acc) ∧ (((Itz3 K b1 b2 b3 l1 l2 l3).stop i H ∧ Q (.ref q) H) ∨ ((Itz3 K b1 b2 b3 l1 l2 l3).go i H ∧ ∀ x H', (Itz3 K b1 b2 b3 l1 l2 l3).yld i H x H' → H' q = some (.lst acc) ∧ acc.length < sizeLine ∧ ∃ m', m' < m ∧ W (i + 1) m' (acc ++ [x]) (upd H' q (.lst (acc ++ [x])))))
theorem vals3 {x y z : V} {us : List Value} (h : Vals [x, y, z] us) : ∃ a b c, us = [a, b, c] ∧ RelV x a ∧ RelV y b ∧ RelV z c := by
  cases h with
  | cons h1 h =>
    cases h with
    | cons h2 h =>
      cases h with
      | cons h3 h =>
        cases h
        exact ⟨_, _, _, rfl, h1, h2, h3⟩
theorem pe_listZ3 {X : Cx} {e1 e2 e3 : Expr} {ta : TA} {p pos p2 pos2 : Pos} (hc : X.calm = true) (hgl : Gl X "list") (hml : X.mg "list" = none) (hg : Gl X "zip") (hm : X.mg "zip" = none) (ha : PA X [e1, e2, e3] ta)
    (hs : starEach [e1, e2, e3] X.env = (false, eval e1 X.env) :: starEach [e2, e3] X.env := by rfl) (hpl : (backTo pos2 (starEach [e2, e3] X.env)).any (·.1) = false := by rfl)
    (hs1 : starEach [.Call (.Name "zip" p2) [e1, e2, e3] [] pos2] X.env = (false, eval (.Call (.Name "zip" p2) [e1, e2, e3] [] pos2) X.env) :: starEach [] X.env := by rfl) (hpl1 : (backTo pos (starEach [] X.env)).any (·.1) = false := by rfl) :
    PE X (.Call (.Name "list" p) [.Call (.Name "zip" p2) [e1, e2, e3] [] pos2] [] pos) (tListZ3 X.K ta) := by
  refine ⟨fun pins s σ H Q I h => ?_⟩
  refine Call_ (ld_blt I hgl hml PyProof.Rows.boot_list (PyProof.Rows.callWith_type1 ?_ hs1 hpl1))
  rw [hs1]
  show wpAny _ _ (spliced ((false, eval (.Call (.Name "zip" p2) [e1, e2, e3] [] pos2) X.env) :: backTo pos (starEach [] X.env))) _ _ _
  refine Calls.spliced_cons ?_
  refine Call_ (ld_blt I hg hm PyProof.Rows.boot_zip (PyProof.Rows.callWith_type1 (thn (ha.run pos2 pins s σ H _ I h) fun us s1 ⟨vs, H1, I1, r1, q1⟩ => ?_) hs hpl))
  obtain ⟨b1, b2, b3, l1, l2, l3, xs1, xs2, xs3, ex, hq1, hq2, hq3, q⟩ := q1
  subst ex
  obtain ⟨u1, u2, u3, eu, ra, rb, rc⟩ := vals3 r1
  subst eu
  obtain rfl : u1 = Value.ref l1 := ra
  obtain rfl : u2 = Value.ref l2 := rb
  obtain rfl : u3 = Value.ref l3 := rc
  obtain ⟨its, rv, p1, _⟩ := seq_x I1 hq1
  obtain ⟨its2, rv2, p2, _⟩ := seq_x I1 hq2
  obtain ⟨its3, rv3, p3, _⟩ := seq_x I1 hq3
  have fresh6 : ∀ c, c ∈ [s1.heap.objs.size + 5, s1.heap.objs.size + 3, s1.heap.objs.size + 4, s1.heap.objs.size, s1.heap.objs.size + 1, s1.heap.objs.size + 2] → FpOk X pins H1 c := fun c hcm => by
    have hle : s1.heap.objs.size ≤ c := by
      simp only [List.mem_cons, List.not_mem_nil, or_false] at hcm
      rcases hcm with z | z | z | z | z | z <;> rw [z] <;> first | exact Nat.le_add_right _ _ | exact Nat.le_refl _
    exact I1.fpOk hle (I1.hok.fresh hle)
  obtain ⟨o1, ho1⟩ := p1.ob
  obtain ⟨o2, ho2⟩ := p2.ob
  obtain ⟨o3, ho3⟩ := p3.ob
  refine zip_begins3 (bgn b1 l1 its.toArray) (bgn b2 l2 its2.toArray) (bgn b3 l3 its3.toArray) p1 p2 p3 fun h' hz hTI hTO h1 h2 h3 hsz hk => Calls.spliced_nil ?_
  have I2 : Inv X pins σ H1 { s1 with heap := h' } := I1.kept (t' := s1.toks) hk
  exact call_listZ hc (turnN_zip3 (zsep3 s1.heap.objs.size l1 l2 l3 (Heap.lt_size ho1) (Heap.lt_size ho2) (Heap.lt_size ho3))) I2 fresh6 ⟨⟨_, _, .inl rfl, hz⟩, hTI, ⟨_, _, _, hTO⟩, itX_0 h1, itX_0 h2, itX_0 h3⟩ q
/-! over data -/
def trip3 : List D → List D → List D → List D
  | x :: xs, y :: ys, z :: zs => .tup [x, y, z] :: trip3 xs ys zs
  | _, _, _ => []
theorem trip3_get : ∀ {xs ys zs : List D} {i : Nat} {d : D}, (trip3 xs ys zs)[i]? = some d → ∃ x y z, xs[i]? = some x ∧ ys[i]? = some y ∧ zs[i]? = some z ∧ d = .tup [x, y, z]
  | x :: xs, y :: ys, z :: zs, 0, d, h => by simp [trip3] at h; exact ⟨x, y, z, rfl, rfl, rfl, h.symm⟩
  | x :: xs, y :: ys, z :: zs, i + 1, d, h => by
    rw [trip3, List.getElem?_cons_succ] at h
    obtain ⟨a, b, c, h1, h2, h3, h4⟩ := trip3_get h
    exact ⟨a, b, c, by simpa using h1, by simpa using h2, by simpa using h3, h4⟩
  | [], _, _, i, d, h => by simp [trip3] at h
  | _ :: _, [], _, i, d, h => by simp [trip3] at h
  | _ :: _, _ :: _, [], i, d, h => by simp [trip3] at h
theorem trip3_len : ∀ (xs ys zs : List D), (trip3 xs ys zs).length = min xs.length (min ys.length zs.length)
  | x :: xs, y :: ys, z :: zs => by rw [trip3, List.length_cons, trip3_len xs ys zs]; simp only [List.length_cons]; omega
  | [], _, _ => by simp [trip3]
  | _ :: _, [], _ => by simp [trip3]
  | _ :: _, _ :: _, [] => by simp [trip3]
theorem walk_zip3 {K : PySem.W.Frag} {R : Hp} {A : List (List Addr)} {Kp Kq Kr : List DO → Prop} {b1 b2 b3 : Bool} {p q r : Addr} {xs ys zs : List D} (h1 : SqAt K R A Kp b1 p xs) (h2 : SqAt K R A Kq b2 q ys) (h3 : SqAt K R A Kr b3 r zs) :
    WalkD K (Itz3 K b1 b2 b3 p q r) R A (fun M => Kp M ∧ Kq M ∧ Kr M) (trip3 xs ys zs) where
  go := fun i d ok s x kp e => by
    obtain ⟨vs, a1, r1⟩ := h1.run ok s x kp.1
    obtain ⟨ws, a2, r2⟩ := h2.run ok s x kp.2.1
    obtain ⟨us, a3, r3⟩ := h3.run ok s x kp.2.2
    obtain ⟨dx, dy, dz, ex, ey, ez, ed⟩ := trip3_get e
    subst ed
    obtain ⟨v, ev, rv⟩ := r1.get ex
    obtain ⟨w, ew, rw'⟩ := r2.get ey
    obtain ⟨u, eu, ru⟩ := r3.get ez
    refine ⟨⟨vs, ws, us, v, w, u, a1, a2, a3, ev, ew, eu⟩, fun z H2 yl => ?_⟩
    obtain ⟨T, v', w', u', e1, e2, e3, e4, e5, e6⟩ := yl
    subst e1 e3
    have q1 := e4 vs a1
    have q2 := e5 ws a2
    have q3 := e6 us a3
    rw [ev] at q1
    rw [ew] at q2
    rw [eu] at q3
    cases q1
    cases q2
    cases q3
    have hR := ok.nR e2
    exact ⟨_, .inr (.inl ⟨T, _, e2, rfl, rfl⟩), ⟨T, _, rfl, upd_same, v, _, rfl, Rep.mono (Sub.upd hR) _ rv, w, _, rfl, Rep.mono (Sub.upd hR) _ rw', u, _, rfl, Rep.mono (Sub.upd hR) _ ru, rfl⟩⟩
  stop := fun ok s x kp => by
    obtain ⟨vs, a1, r1⟩ := h1.run ok s x kp.1
    obtain ⟨ws, a2, r2⟩ := h2.run ok s x kp.2.1
    obtain ⟨us, a3, r3⟩ := h3.run ok s x kp.2.2
    have l1 := r1.length
    have l2 := r2.length
    have l3 := r3.length
    refine ⟨vs, ws, us, a1, a2, a3, ?_, ?_, ?_, ?_⟩ <;> (rw [trip3_len]; omega)
def dListZ3 (U : TDA) : TD := fun E M Q => U E M fun vs M1 => match vs with
  | [v, w, u] => oq (seqOf M1 v) fun a => oq (seqOf M1 w) fun b => oq (seqOf M1 u) fun c => (trip3 a.1 b.1 c.1).length ≤ sizeLine ∧ Q (.d (.lst (trip3 a.1 b.1 c.1))) M1
  | _ => False
theorem RepVs.three {K : PySem.W.Frag} {R : Hp} {A : List (List Addr)} {v w u : Val} {xs : List V} (h : RepVs K R A [v, w, u] xs) : ∃ x y z, xs = [x, y, z] ∧ RepV K R A v x ∧ RepV K R A w y ∧ RepV K R A u z := by
  obtain ⟨x, r, e, h1, h⟩ := h
  obtain ⟨y, z, e2, h2, h3⟩ := RepVs.two h
  subst e2 e
  exact ⟨x, y, z, rfl, h1, h2, h3⟩
theorem de_listZ3 {X : Cx} {g : Gh} {e1 e2 e3 : Expr} {U : TDA} {p pos p2 pos2 : Pos} (hc : X.calm = true) (hgl : Gl X "list") (hml : X.mg "list" = none) (hg : Gl X "zip") (hm : X.mg "zip" = none) (ha : DA X g [e1, e2, e3] U)
    (hs : starEach [e1, e2, e3] X.env = (false, eval e1 X.env) :: starEach [e2, e3] X.env := by rfl) (hpl : (backTo pos2 (starEach [e2, e3] X.env)).any (·.1) = false := by rfl)
    (hs1 : starEach [.Call (.Name "zip" p2) [e1, e2, e3] [] pos2] X.env = (false, eval (.Call (.Name "zip" p2) [e1, e2, e3] [] pos2) X.env) :: starEach [] X.env := by rfl) (hpl1 : (backTo pos (starEach [] X.env)).any (·.1) = false := by rfl) :
    DE X g (.Call (.Name "list" p) [.Call (.Name "zip" p2) [e1, e2, e3] [] pos2] [] pos) (dListZ3 U) :=
  PEm (pe_listZ3 hc hgl hml hg hm ha hs hpl hs1 hpl1) fun σ H Q ⟨E, M, R, A, Qd, ok, h, k⟩ => by
    refine ⟨E, M, R, A, _, ok, h, fun vs M1 xs H1 R1 A1 q1 ok1 s1 x1 r1 => ?_⟩
    split at q1
    · rename_i v w u
      obtain ⟨⟨ds, Kp⟩, e1, q1⟩ := oq_elim q1
      obtain ⟨⟨es, Kq⟩, e3, q1⟩ := oq_elim q1
      obtain ⟨⟨fs, Kr⟩, e4, q1⟩ := oq_elim q1
      obtain ⟨hlen, q1⟩ := q1
      have hlen : (trip3 ds es fs).length ≤ sizeLine := hlen
      obtain ⟨x, y, z, ex, r2, r3, r4⟩ := r1.three
      obtain ⟨b1, p1, ep1, a1, k1⟩ := seqOf_at ok1 r2 e1
      obtain ⟨b2, p2, ep2, a2, k2⟩ := seqOf_at ok1 r3 e3
      obtain ⟨b3, p3, ep3, a3, k3⟩ := seqOf_at ok1 r4 e4
      obtain ⟨us, c1, _⟩ := a1.run ok1 (Sub.refl _) (ExtA.refl _) k1
      obtain ⟨ws, c2, _⟩ := a2.run ok1 (Sub.refl _) (ExtA.refl _) k2
      obtain ⟨ts, c3, _⟩ := a3.run ok1 (Sub.refl _) (ExtA.refl _) k3
      subst ep1 ep2 ep3
      refine ⟨b1, b2, b3, p1, p2, p3, us, ws, ts, ex, c1, c2, c3, fun D hD => ?_⟩
      have wk := walk_zip3 a1 a2 a3
      have hD0 := ok1.fr hD
      refine ⟨fun i m acc Hx => m = (trip3 ds es fs).length - i ∧ i ≤ (trip3 ds es fs).length ∧ Hx D = some (.lst acc) ∧ ∃ R', Ok X.K g E M1 σ Hx R' A1 ∧ Sub R1 R' ∧ RepL X.K R' ((trip3 ds es fs).take i) acc ∧ Loose g R' A1 [D],
        _, ⟨rfl, Nat.zero_le _, upd_same, R1, ok1.extra hD, Sub.refl _, rfl, ⟨by simp, by simpa using hD0, by simpa using ok1.nR hD, by simpa using ok1.nA hD⟩⟩, ?_⟩
      rintro i m acc Hx ⟨rfl, hi, eD, R', ok', s', ra, lo⟩
      refine ⟨eD, ?_⟩
      by_cases hlt : i < (trip3 ds es fs).length
      · have e : (trip3 ds es fs)[i]? = some (trip3 ds es fs)[i] := List.getElem?_eq_getElem hlt
        obtain ⟨w1, w2⟩ := wk.go i _ ok' s' (ExtA.refl _) ⟨k1, k2, k3⟩ e
        refine .inr ⟨w1, fun x H2 y => ?_⟩
        obtain ⟨R2, st, r2⟩ := w2 x H2 y
        obtain ⟨ok2, s2⟩ := ok'.stepR st
        have ob : ∀ b ∈ [D], ∃ o, Hx b = some o ∧ ∀ xs, o ≠ .tup xs := fun b hb => by
          simp at hb; subst hb; exact ⟨_, eD, fun xs z => nomatch z⟩
        obtain ⟨lo2, same2⟩ := lo.stepR ob st
        have eD2 : H2 D = some (.lst acc) := by rw [same2 D (by simp)]; exact eD
        have la := ra.length
        rw [List.length_take] at la
        refine ⟨eD2, by omega, _, by omega, rfl, hlt, upd_same, R2, ok2.exUpd (lo2.h0 D (by simp)) (lo2.r D (by simp)) (lo2.a D (by simp)), s'.trans s2, ?_, lo2⟩
        rw [List.take_succ_eq_append_getElem hlt]
        exact (RepL.mono s2 _ ra).app ⟨x, [], rfl, r2, rfl⟩
      · have ee : i = (trip3 ds es fs).length := by omega
        subst ee
        rw [List.take_length] at ra
        have rD := lo.r D (by simp)
        exact .inl ⟨wk.stop ok' s' (ExtA.refl _) ⟨k1, k2, k3⟩, k _ _ _ _ _ _ q1 (ok'.adopt (lo.h0 D (by simp)) rD (lo.a D (by simp)) eD) ((s1.trans s').trans (Sub.upd rD)) x1 ⟨D, acc, rfl, upd_same, RepL.mono (Sub.upd rD) _ ra⟩⟩
    · exact q1.elim

end DL

end
section
set_option maxRecDepth 100000
/-! sorted(list), max(d.values()), xs.count(x). -/
namespace DL
open PySem L2 PyProof.Rows PySem.W
/-! ### sorted -/
theorem each_pairs {X : Cx} {pins : List (Addr × Obj)} {σ : L2.St} {H : Hp} {s : Shared} (I : Inv X pins σ H s) : ∀ {vs : List V} {us : List Value} {ps : List PyData}, Vals vs us → DpAll X.K H vs ps →
    EachIs (fun u (b : V × PyData) => RelV b.1 u ∧ ∃ as, Reads s.heap u b.2 as) us (vs.zip ps)
  | _, _, _, .nil, .nil => .nil
  | _, _, _, .cons r t, .cons d e => .cons ⟨r, Dp.reads I _ _ _ d r⟩ (each_pairs I t e)
theorem vals_each : ∀ {us : List Value} {bs : List (V × PyData)}, EachIs (fun u (b : V × PyData) => RelV b.1 u) us bs → Vals (bs.map (·.1)) us
  | _, _, .nil => .nil
  | _, _, .cons r t => .cons r (vals_each t)
theorem dps_len {K : PySem.W.Frag} {H : Hp} : ∀ {vs : List V} {ps : List PyData}, DpAll K H vs ps → vs.length = ps.length
  | _, _, .nil => rfl
  | _, _, .cons _ t => by rw [List.length_cons, List.length_cons, dps_len t]
def sortV (vs : List V) (ps : List PyData) : List V := ((vs.zip ps).mergeSort (dataLe false fun b : V × PyData => b.2)).map (·.1)
def rSortL (K : PySem.W.Frag) : List V → Hp → VK → Prop := fun xs H Q => ∃ a vs ps, xs = [V.ref a] ∧ SqL K H a vs ∧ DpAll K H vs ps ∧ AllAlike ps ∧ Sortable ps ∧ (∀ d ∈ ps, d.depth ≤ 60) ∧
  ∀ p, H p = none → Q (.ref p) (upd H p (.lst (sortV vs ps)))
theorem cr_sortedL {X : Cx} (hu : X.A.units + 64 < cLine) : CallR X (.builtin "sorted") (rSortL X.K) := by
  intro pins s σ H xs us Q I r h
  obtain ⟨a, vs, ps, rfl, hs, hd, al, so, dp, q⟩ := h
  obtain ⟨its, rv, hl, hz⟩ := I.list hs
  obtain ⟨u, rfl, ru⟩ := vals1 r
  obtain rfl : u = Value.ref a := ru
  have hlen := dps_len hd
  have hsnd : (vs.zip ps).map (fun b : V × PyData => b.2) = ps := by rw [List.map_snd_zip]; omega
  have ep := each_pairs I rv hd
  refine sorted_data (enc := fun b : V × PyData => b.2) (R := fun u b => RelV b.1 u) hl.isList (ep.mono fun _ _ z => z.1) (ep.mono fun _ _ z => z.2) (by rw [hsnd]; exact al) (by rw [hsnd]; exact so)
    (by rw [List.length_zip]; omega) (fun b hb => ?_) fun out ho eo => ?_
  · have := dp b.2 (by rw [← hsnd]; exact List.mem_map.mpr ⟨b, hb, rfl⟩)
    show X.A.units + 2 + b.2.depth < cLine
    omega
  · obtain ⟨c, hc⟩ := sortedAll_at s.heap its out.toArray
    have hd' : s.heap.objs.size ≤ s.heap.objs.size + 1 := Nat.le_succ _
    refine ⟨.ref (s.heap.objs.size + 1), upd H (s.heap.objs.size + 1) (.lst (sortV vs ps)), I.laid (t' := s.toks) (fun _ _ => sortedAll_old) hd' ⟨?_, out, c, vals_each eo, hc⟩, rfl, q _ (I.hok.fresh hd')⟩
    show (((vs.zip ps).mergeSort _).map _).length ≤ sizeLine
    rw [List.length_map, List.length_mergeSort, List.length_zip]
    omega
def leD (a b : D) : Bool := dataLe false py a b
def sortD (ds : List D) : List D := ds.mergeSort leD
def alikes (ds : List D) : Prop := AllAlike (pys ds) ∧ Sortable (pys ds)
def dSort : RDC := fun ds Q => match ds with
  | [.lst xs] => PyData.canLayAll0 (pys xs) = true ∧ alikes xs ∧ (∀ d ∈ xs, (py d).depth ≤ 60) ∧ Q (.lst (sortD xs)) | _ => False
theorem repL_pairs {K : PySem.W.Frag} {R : Hp} : ∀ (z : List (V × D)), (∀ p ∈ z, Rep K R p.2 p.1) → RepL K R (z.map (·.2)) (z.map (·.1))
  | [], _ => rfl
  | p :: z, h => ⟨p.1, _, rfl, h p List.mem_cons_self, repL_pairs z fun q hq => h q (List.mem_cons_of_mem _ hq)⟩
theorem zip_rep {K : PySem.W.Frag} {R : Hp} : ∀ {vs : List V} {ds : List D}, RepL K R ds vs → ∀ p ∈ vs.zip ds, Rep K R p.2 p.1
  | vs, [], h, p, hp => by simp at hp
  | vs, d :: ds, h, p, hp => by
    obtain ⟨v, r, e, h1, h2⟩ := h
    subst e
    rw [List.zip_cons_cons] at hp
    rcases List.mem_cons.mp hp with q | q
    · subst q; exact h1
    · exact zip_rep h2 p q
theorem sort_rep {K : PySem.W.Frag} {R : Hp} {vs : List V} {ds : List D} (h : RepL K R ds vs) : RepL K R (sortD ds) (sortV vs (pys ds)) := by
  have hl := h.length
  have e1 : vs.zip (pys ds) = (vs.zip ds).map fun p : V × D => (p.1, py p.2) := by
    rw [pys_map, List.zip_map_right]
    rfl
  have e2 : ds = (vs.zip ds).map fun p : V × D => p.2 := by rw [List.map_snd_zip]; omega
  have e3 : sortV vs (pys ds) = ((vs.zip ds).mergeSort fun x y => leD x.2 y.2).map (·.1) := by
    unfold sortV
    rw [e1, ← List.map_mergeSort (r := fun x y : V × D => leD x.2 y.2) (s := dataLe false fun b : V × PyData => b.2) (f := fun p : V × D => (p.1, py p.2)) (fun a _ b _ => rfl), List.map_map]
    rfl
  have e4 : sortD ds = ((vs.zip ds).mergeSort fun x y => leD x.2 y.2).map (·.2) := by
    unfold sortD
    conv => lhs; rw [e2]
    rw [← List.map_mergeSort (r := fun x y : V × D => leD x.2 y.2) (s := leD) (f := fun p : V × D => p.2) (fun a _ b _ => rfl)]
  rw [e3, e4]
  refine repL_pairs _ fun p hp => zip_rep h p ((List.mergeSort_perm _ _).mem_iff.mp hp)
theorem rc_sorted {K : PySem.W.Frag} : RC K (rSortL K) dSort := by
  refine ⟨fun {g E M σ H R A ds xs Qd Q} ok rs h k => ?_⟩
  unfold dSort at h
  split at h
  · rename_i xs'
    obtain ⟨p, vs, e, h1, h2⟩ := one_lst rs
    refine ⟨p, vs, pys xs', e, .of h1, dps_of ok.sub xs' h.1 h2, h.2.1.1, h.2.1.2, fun d hd => ?_, fin_lst ok (sort_rep h2) h.2.2.2 k⟩
    rw [pys_map] at hd
    obtain ⟨d', h3, rfl⟩ := List.mem_map.mp hd
    exact h.2.2.1 d' h3
  · exact h.elim
theorem sortD_perm (ds : List D) : (sortD ds).Perm ds := List.mergeSort_perm _ _
/-! ### max(d.values()) -/
def tMaxVals (td : TE) : TE := fun σ H Q => td σ H fun x H1 => ∃ a kvs is, x = V.ref a ∧ Rd H1 a (.dK kvs) ∧ kvs.map (·.2) = is.map V.int ∧ is ≠ [] ∧ ∀ m, m ∈ is → (∀ j ∈ is, j ≤ m) → Q (.int m) H1
theorem pe_maxVals {X : Cx} {o : Expr} {p pos apos mpos : Pos} {td : TE} (hc : X.calm = true) (hg : Gl X "max") (hm : X.mg "max" = none) (hd : PE X o td) (hbase : attributeBase o "values" X.env (eval o X.env) = eval o X.env := by rfl) (hline : (apos.endLine == mpos.line) = true := by rfl)
    (hse : starEach [Expr.Call (.Attribute o "values" apos) [] [] mpos] X.env = [(false, eval (Expr.Call (.Attribute o "values" apos) [] [] mpos) X.env)] := by rfl) :
    PE X (.Call (.Name "max" p) [.Call (.Attribute o "values" apos) [] [] mpos] [] pos) (tMaxVals td) := by
  refine ⟨fun pins s σ H Q I h => ?_⟩
  refine wpAny_Call_Name_kw (ld_blt I hg hm (u := .builtin "max") (by first | rfl | decide +kernel) ?_ (by first | decide +kernel | decide) (by first | decide +kernel | decide))
  rw [hse]
  refine PySem.callWith_builtin1 (wpAny_Call_method0_late hbase hline (thn (hd.run pins s σ H _ I h) fun v s1 ⟨x, H1, I1, r1, a, kvs, is, ex, ha, hv, hne, q⟩ => ?_))
  subst ex
  obtain rfl : v = Value.ref a := r1
  obtain ⟨_, hsys, vs, rel, dof⟩ := dk_rd I1.hok ha
  obtain ⟨ep, dat⟩ := dof.dictAt
  have dat' := dat
  obtain ⟨ob, es, ho, ex, hdat, hko, hpr, hnd⟩ := dat'
  refine ⟨"dict", "dict.values", F.plainAttrs_dict, F.slot_dict_values, F.type_dict_values, ⟨ob, ho, ex.1⟩, fun b e => ?_, Calls.callWith_builtin rfl (PySem.evalArgs_none ?_)⟩
  · cases e
    exact ⟨ob, ho, ex.2.1⟩
  refine call_meetsIn F.slot_dict_values ⟨ob, ho, ex.1⟩ F.entry_dict_values (F.args_dict_values_1 _) (meets_dict_values (mixKind X.prog X.w) a hsys) ⟨⟨vs, dof⟩, ?_⟩
  have k1 : ∀ b u, s1.heap.get? b = some u → (s1.heap.push { cls := .type "dict_values", data := .fields #[.ref a] }).get? b = some u := fun b u e => Heap.get?_push_of_some _ e
  have dat1 : (s1.heap.push { cls := .type "dict_values", data := .fields #[.ref a] }).DictAt (mixKind X.prog X.w) a vs ep := dat.keep k1
  have hlv : vs.length = is.length := by
    have e1 := congrArg List.length hv
    rw [List.length_map, List.length_map] at e1
    rw [← e1]
    exact (KV.length rel).symm
  have hlen : 0 < vs.length := by
    rw [hlv]
    exact List.length_pos_iff.mpr hne
  have hval : ∀ (i : Nat) (v : Value), (∃ k, vs[i]? = some (k, v)) → ∃ t, v = Value.int (is.getD i 0) t := fun i v ⟨k, hk⟩ => by
    obtain ⟨x, h1, h2⟩ := KV.at' rel hk
    have e1 : (kvs.map (·.2))[i]? = some x := by rw [List.getElem?_map, h1] <;> rfl
    rw [hv, List.getElem?_map] at e1
    obtain ⟨j, hj, e2⟩ := Option.map_eq_some_iff.mp e1
    subst e2
    obtain ⟨t, e3⟩ := h2
    refine ⟨t, ?_⟩
    rw [e3, List.getD_eq_getElem?_getD, hj] <;> rfl
  refine call_max_walk (wpAny_pyIter_values (v := s1.heap.objs.size) (d := a) ⟨_, Heap.get?_push_size _ rfl, rfl, rfl⟩ dat1 ?_)
  have hlt : a < s1.heap.objs.size := Heap.lt_size ho
  have hsz : (s1.heap.push { cls := .type "dict_values", data := .fields #[.ref a] }).objs.size = s1.heap.objs.size + 1 := Heap.size_push _ _
  refine ⟨_, _, _, _, _, _, _, rfl, Walks.dictValues (knd := mixKind X.prog X.w) (A := X.A.in1) (I.ok.hd hc) (s1.heap.push { cls := .type "dict_values", data := .fields #[.ref a] }).objs.size a (by rw [hsz]; exact Nat.ne_of_lt (Nat.lt_succ_of_lt hlt)) vs ep,
    ⟨⟨_, Heap.get?_push_size _ rfl, rfl, rfl⟩, dat1.keep fun b u e => Heap.get?_push_of_some _ e⟩, fun b hb => ?_, hlen, CmpOf.ints_gt (fun i => is.getD i 0) hval, fun v h' tk hP hk => ?_⟩
  · show b < ((s1.heap.push _).push _).objs.size
    rw [Heap.size_push, Heap.size_push]
    rw [hsz] at hb
    rcases List.mem_cons.mp hb with e | hb
    · rw [e]
      exact Nat.lt_succ_self _
    · have e : b = a := List.mem_singleton.mp hb
      rw [e]
      exact Nat.lt_succ_of_lt (Nat.lt_succ_of_lt hlt)
  · obtain ⟨t, rfl⟩ := hval _ v hP
    obtain ⟨b1, b2⟩ := argBest_gt (fun i => is.getD i 0) (vs.length - 1)
    refine ⟨.int _, H1, I1.kept (t' := tk) fun b u e => hk b u (fun hmem => ?_) (Heap.get?_push_of_some _ (k1 b u e)), ⟨t, rfl⟩, q _ ?_ fun j hj => ?_⟩
    · have e1 : b = (s1.heap.push { cls := .type "dict_values", data := .fields #[.ref a] }).objs.size := List.mem_singleton.mp hmem
      have e2 := Heap.lt_size e
      rw [hsz] at e1
      rw [e1] at e2
      exact absurd e2 (Nat.not_lt.mpr (Nat.le_succ _))
    · have hb : argBest (fun i j => decide (is.getD i 0 > is.getD j 0)) (vs.length - 1) < is.length := by omega
      rw [List.getD_eq_getElem?_getD, List.getElem?_eq_getElem hb]
      exact List.getElem_mem hb
    · obtain ⟨i, hi, e⟩ := List.mem_iff_getElem.mp hj
      have e2 : is.getD i 0 = j := by rw [List.getD_eq_getElem?_getD, List.getElem?_eq_getElem hi, ← e] <;> rfl
      rw [← e2]
      exact b2 i (by omega)
def intsV : List (Key × D) → Option (List Int)
  | [] => some []
  | (_, .int i) :: r => (intsV r).map (i :: ·)
  | _ => none
def dMaxVals (T : TD) : TD := fun E M Q => T E M fun v M1 => match v with
  | .d (.dk kvs) => oq (intsV kvs) fun is => is ≠ [] ∧ Q (.d (.int (maxI is))) M1
  | _ => False
theorem intsV_rep {K : PySem.W.Frag} {R : Hp} : ∀ {kvs : List (Key × D)} {is : List Int} {vs : List (Key × V)}, intsV kvs = some is → RepK K R kvs vs → vs.map (·.2) = is.map V.int
  | [], is, vs, h, r => by
    cases h
    have e : vs = [] := r
    subst e
    rfl
  | (k, d) :: kvs, is, vs, h, r => by
    obtain ⟨k', v, r', e, ⟨h0, h1⟩, h2⟩ := r
    subst e
    cases d <;> simp only [intsV] at h <;> try cases h
    rename_i i
    cases q : intsV kvs with
    | none => rw [q] at h; cases h
    | some js =>
      rw [q] at h
      cases h
      have h1 : v = .int i := h1
      rw [List.map_cons, List.map_cons, intsV_rep q h2, h1]
theorem de_maxVals {X : Cx} {g : Gh} {o : Expr} {T : TD} {p pos apos mpos : Pos} (hc : X.calm = true) (hg : Gl X "max") (hm : X.mg "max" = none) (hd : DE X g o T) (hbase : attributeBase o "values" X.env (eval o X.env) = eval o X.env := by rfl) (hline : (apos.endLine == mpos.line) = true := by rfl)
    (hse : starEach [Expr.Call (.Attribute o "values" apos) [] [] mpos] X.env = [(false, eval (Expr.Call (.Attribute o "values" apos) [] [] mpos) X.env)] := by rfl) :
    DE X g (.Call (.Name "max" p) [.Call (.Attribute o "values" apos) [] [] mpos] [] pos) (dMaxVals T) :=
  PEm (pe_maxVals hc hg hm hd hbase hline hse) fun σ H Q ⟨E, M, R, A, Qd, ok, h, k⟩ => by
    refine ⟨E, M, R, A, _, ok, h, fun v M1 x H1 R1 A1 q1 ok1 s1 x1 r1 => ?_⟩
    split at q1
    · obtain ⟨is, e1, hne, q⟩ := oq_elim q1
      obtain ⟨a, vs, ob, ea, h1, h2⟩ := r1
      refine ⟨a, vs, is, ea, .inr ⟨ob, ok1.sub _ _ h1⟩, intsV_rep e1 h2, hne, fun m hm hle => ?_⟩
      rw [maxI_eq hm hle] at q
      exact k _ _ _ _ _ _ q ok1 s1 x1 rfl
    · exact q1.elim
end DL

end
section
set_option maxRecDepth 100000
/-! xs.count(x) of data. -/
namespace DL
open PySem L2 PyProof.Rows PySem.W
def rCntD (K : PySem.W.Frag) : V → List V → Hp → VK → Prop := fun x xs H Q => ∃ (p : Addr) (vs : List V) (ps : List PyData) (y : V) (d : PyData), x = .ref p ∧ xs = [y] ∧ SqL K H p vs ∧ DpAll K H vs ps ∧ Dp K H y d ∧ PyData.plainAll ps = true ∧ d.plain = true ∧ d.depth ≤ 60 ∧
  Q (.int (ps.countP fun z => PyData.eqv z d : Nat)) H
theorem mt_countD {X : Cx} (hu : X.A.units + 64 < cLine) : MtR X "list.count" (rCntD X.K) := by
  intro pins s σ H x xs v us Q I rx rxs h
  obtain ⟨p, vs, ps, y, d, rfl, rfl, hs, hv, hy, pl, pd, dp, q⟩ := h
  obtain rfl : v = Value.ref p := rx
  obtain ⟨u, rfl, ru⟩ := vals1 rxs
  obtain ⟨its, rv, hl, hz⟩ := I.list hs
  obtain ⟨as, ra⟩ := Dp.readsAll I _ _ _ hv rv
  obtain ⟨bs, rb⟩ := Dp.reads I _ _ _ hy ru
  refine PySem.SeqAt.count_list_data hl.isList (by simpa using ra) rb pl pd ?_ ⟨.int _, H, I.tok _, ⟨_, rfl⟩, q⟩
  have hm : min (PyData.depthAll ps) d.depth ≤ d.depth := Nat.min_le_right _ _
  omega
def dCount (T : TD) (U : TDA) : TD := fun E M Q => T E M fun v M1 => match v with
  | .d (.lst xs) => U E M1 fun vs M2 => oq (dsV vs) fun ds => match ds with
    | [y] => (PyData.canLayAll0 (pys xs) = true ∧ (py y).canLay0 = true ∧ (py y).depth ≤ 60) ∧ Q (.d (.int (xs.countP fun z => eqD z y : Nat))) M2
    | _ => False
  | _ => False
section
variable {X : Cx} {g : Gh} {o e : Expr} {es : List Expr} {T : TD} {U : TDA} {apos pos : Pos}
theorem de_count (hu : X.A.units + 64 < cLine) (ho : DE X g o T) (ha : DA X g (e :: es) U) (hbase : attributeBase o "count" X.env (eval o X.env) = eval o X.env := by rfl)
    (hfew : ((backTo pos (starEach (e :: es) X.env)).all (fun x => !x.1) && (backToKw pos (keywordEach [] X.env)).all (fun x => x.1.isSome)
      && decide ((e :: es).length + ([] : List Keyword).length + (if ([] : List Keyword).isEmpty then 0 else 1) < 30)) = true := by rfl)
    (hline : (apos.endLine == pos.line) = true := by rfl) (hs : starEach (e :: es) X.env = (false, eval e X.env) :: starEach es X.env := by rfl) (hplain : (backTo pos (starEach es X.env)).any (·.1) = false := by rfl) :
    DE X g (.Call (.Attribute o "count" apos) (e :: es) [] pos) (dCount T U) :=
  PEm (pe_bm PySem.F.plainAttrs_list PySem.F.slot_list_count PySem.F.type_list_count (mt_countD hu) ho ha hbase hfew hline hs hplain) fun σ H Q ⟨E, M, R, A, Qd, ok, h, k⟩ => by
    refine ⟨E, M, R, A, _, ok, h, fun v M1 x H1 R1 A1 q1 ok1 s1 x1 r1 => ?_⟩
    split at q1
    · rename_i xs
      obtain ⟨a, vs, ea, h1, h2⟩ := r1
      subst ea
      refine ⟨.inl ⟨rfl, vs, .of (ok1.sub _ _ h1)⟩, E, M1, R1, A1, _, ok1, q1, fun ws M2 zs H2 R2 A2 q2 ok2 s2 x2 r2 => ?_⟩
      obtain ⟨ds, e4, q2⟩ := oq_elim q2
      have r3 := dsV_rep e4 r2
      split at q2
      · rename_i y
        obtain ⟨z, r', ez, h3, h4⟩ := r3
        have h4 : r' = [] := h4
        subst ez h4
        obtain ⟨⟨c1, c2, c3⟩, q⟩ := q2
        have h5 := RepL.mono s2 _ h2
        refine ⟨a, vs, pys xs, z, py y, rfl, rfl, .of (ok2.sub _ _ (s2 _ _ h1)), dps_of ok2.sub _ c1 h5, dp_of ok2.sub _ c2 h3, PyData.plainAll_of_canLay0 _ c1, PyData.plain_of_canLay0 _ c2, c3, ?_⟩
        rw [pys_map, List.countP_map]
        exact k _ _ _ _ _ _ q ok2 (s1.trans s2) (x1.trans x2) rfl
      · exact q2.elim
    · exact q1.elim
end
end DL

end
section
set_option maxRecDepth 100000
/-! sorted(set(xs)), xs a list of ints. -/
namespace DL
open PySem PySem.Spec L2 PyProof.Rows
section
variable {P : Program} {w : World} {A : Around} {E : Value → Shared → Prop} {s : Shared}
set_option maxHeartbeats 3200000 in
theorem call_set_listR {l : Addr} {items : Array Value} (ns : List Int) {Q : Value → Shared → Prop} (hh : A.handled = none) (hl : s.heap.IsList l items) (hit : IntsAre items.toList ns) (hb : ns.length + 1 < scanBound)
    (h : ∀ (h' : Heap) (tk c : Nat), SetR w h' s.heap.objs.size (fun j => decide (j ∈ ns)) c → c ≤ ns.length → (∀ b o, s.heap.get? b = some o → h'.get? b = some o) → Q (.ref s.heap.objs.size) { s with heap := h', toks := tk }) :
    wpAny (model P w) A (call (.type "set") [.ref l]) Q E s := by
  have hisz : items.size = ns.length := by
    have q := IntsAre.length hit
    rw [Array.length_toList] at q
    exact q
  obtain ⟨c, tl, hmro⟩ := F.called_set.mro
  have hmade := F.called_set.made
  have hsub := F.called_set.sub
  refine wpAny_call (codeAny_of_tree ?_)
  show wpAny _ _ (callAny (.type "set") _) _ _ _
  refine wpAny_pure ⟨Code.quiet_builtin _ (by decide +kernel), codeAny_builtin F.entry_type_call ?_⟩
  rw [Around.under_plain (weight_type_call_type "set" [.ref l] []) rfl]
  have h1 := F.called_set.notType
  have h2 := F.called_set.canCreate
  have hct := F.typeCall_set_1 (.ref l)
  repeat (any_goals (first | assumption | wp_step))

  refine codeAny_mono (code_set_led1 (.ref l) (E := E) (Q₁ := fun obj s₁ => obj = .ref s.heap.objs.size ∧ s₁ = { s with heap := s.heap.push { cls := .type "set", dict := none, data := .set #[] 0 (.fresh 0 0 (!w.params.followText "set-order")) } }) ⟨rfl, rfl⟩) fun r s₁ hr => ?_
  cases r with
  | error e => exact hr
  | ok fl =>
    cases fl with
    | ret obj =>
      obtain ⟨rfl, rfl⟩ := hr
      have hS : (s.heap.push { cls := .type "set", dict := none, data := .set #[] 0 (.fresh 0 0 (!w.params.followText "set-order")) }).get? s.heap.objs.size = some { cls := .type "set", dict := none, data := .set #[] 0 (.fresh 0 0 (!w.params.followText "set-order")) } := Heap.get?_push_size _ rfl
      have hT : Shared.TypeIs { s with heap := s.heap.push { cls := .type "set", dict := none, data := .set #[] 0 (.fresh 0 0 (!w.params.followText "set-order")) } } (.ref s.heap.objs.size) "set" := ⟨_, hS, rfl⟩
      have hli := F.called_set.init.lookup
      have hbi := F.called_set.init.bind (.ref s.heap.objs.size)
      repeat (any_goals (first | assumption | wp_step))

      refine codeAny_mono (codeAny_call_builtin (R := wants (fun r s₂ => r = .none ∧ ∃ h' tk c, s₂ = { s with heap := h', toks := tk } ∧ SetR w h' s.heap.objs.size (fun j => decide (j ∈ ns)) c ∧ c ≤ ns.length ∧
          (∀ b o, s.heap.get? b = some o → h'.get? b = some o)) E) F.called_set.init.plain F.entry_set_init (check_set_init_1 hT ?_)) fun r₂ s₂ hr₂ => ?_
      · obtain ⟨ol, hol, hcl, nl, hdl⟩ := hl
        obtain ⟨ocls, odict, odata, oslots⟩ := ol
        simp only at hcl hdl
        subst hcl; subst hdl
        have hol' : (s.heap.push { cls := .type "set", dict := none, data := .set #[] 0 (.fresh 0 0 (!w.params.followText "set-order")) }).get? l = some { cls := .type "list", dict := odict, data := .seq items nl, slots := oslots } := Heap.get?_push_of_some _ hol
        have hsls := F.sub_list_set
        have hslf := F.sub_list_frozenset
        have hne : (Value.type "list" == Value.type "dict") = false := by decide
        have hl1 : (s.heap.push { cls := .type "set", dict := none, data := .set #[] 0 (.fresh 0 0 (!w.params.followText "set-order")) }).IsList l items := ⟨_, hol', rfl, nl, rfl⟩
        unfold Builtin.«set.__init__» noKeywords Builtin.Frozenset.updateFrom
        generalize hPI : pyIter = PI
        wp_walk
        subst hPI

        refine wpAny_pyIter_list hl1 ?_
        refine wpAny_bind (wpAny_runValue ?_)
        have hlS : l < s.heap.objs.size := Heap.lt_size hol
        have hh3 : A.in1.in1.in1.handled = none := by simp [hh]
        have hz1 : (s.heap.push { cls := .type "set", dict := none, data := .set #[] 0 (.fresh 0 0 (!w.params.followText "set-order")) }).objs.size = s.heap.objs.size + 1 := Heap.size_push ..
        have hneI : l ≠ (s.heap.push { cls := .type "set", dict := none, data := .set #[] 0 (.fresh 0 0 (!w.params.followText "set-order")) }).objs.size := by
          rw [Heap.size_push]; exact Nat.ne_of_lt (Nat.lt_succ_of_lt hlS)
        have hSf : s.heap.objs.size ∉ [(s.heap.push { cls := .type "set", dict := none, data := .set #[] 0 (.fresh 0 0 (!w.params.followText "set-order")) }).objs.size, l] := by
          rw [Heap.size_push]; simp only [List.mem_cons, List.mem_singleton, List.not_mem_nil, or_false, not_or]
          exact ⟨Nat.ne_of_lt (Nat.lt_succ_self _), Nat.ne_of_gt hlS⟩
        have hval : ∀ (i : Nat) (v : Value), items[i]? = some v → ∃ k t, ns[i]? = some k ∧ v = .int k t := fun i v hv => by
          have hi : i < ns.length := by rw [← hisz]; exact (Array.getElem?_eq_some_iff.mp hv).1
          obtain ⟨t, e⟩ := PyProof.Rows.IntsAre.int_at hit i v (by rw [Array.getElem?_toList]; exact hv)
          refine ⟨ns[i], t, List.getElem?_eq_getElem hi, ?_⟩
          rw [e, List.getD_eq_getElem?_getD, List.getElem?_eq_getElem hi] <;> rfl
        refine set_update_ints ((Walks.list hh3 _ l hneI items).toS) s.heap.objs.size
          hSf ns hisz hb hval (items.size - 0) 0 _ (by omega) (Nat.zero_le _)
          ⟨⟨_, Heap.get?_push_size _ rfl, rfl, rfl⟩, (hl1.push _)⟩ ?hS0 ?hR
        case hS0 =>
          have hget : ((s.heap.push { cls := .type "set", dict := none, data := .set #[] 0 (.fresh 0 0 (!w.params.followText "set-order")) }).push { cls := .type "list_iterator", data := .fields #[.ref l, .int 0 0] }).get? s.heap.objs.size
              = some { cls := .type "set", dict := none, data := .set #[] 0 (.fresh 0 0 (!w.params.followText "set-order")) } := Heap.get?_push_of_some _ hS
          exact ⟨0, Nat.le_refl 0, setR_new_at hget⟩
        case hR =>
          intro s' c' hm hc' hS'
          obtain ⟨h', g2, d', tk', os'⟩ := s'
          have eg : g2 = s.gens := hm.gens
          have ed : d' = s.drawn := hm.drawn
          have eo : os' = s.os := hm.os
          subst eg; subst ed; subst eo
          show wpAny _ _ _ _ _ _
          refine wpAny_pure ?_
          show wpAny _ _ (ret Value.none) _ _ _
          rw [hisz] at hc'
          refine wpAny_pure ⟨rfl, h', tk', c', rfl, hS', hc', fun b o e => ?_⟩
          have hb0 : b < s.heap.objs.size := Heap.lt_size e
          have hb1 : b ≠ s.heap.objs.size := Nat.ne_of_lt hb0
          have hb2 : b ≠ (s.heap.push { cls := .type "set", dict := none, data := .set #[] 0 (.fresh 0 0 (!w.params.followText "set-order")) }).objs.size := by
            rw [Heap.size_push]; exact Nat.ne_of_lt (Nat.lt_succ_of_lt hb0)
          exact hm.heap b o (by simp only [List.mem_cons, List.mem_singleton, List.not_mem_nil, or_false, not_or]; exact ⟨hb1, hb2⟩) (Heap.get?_push_of_some _ (Heap.get?_push_of_some _ e))

      · cases r₂ with
        | error e => exact hr₂
        | ok fl₂ =>
          cases fl₂ with
          | ret r =>
            obtain ⟨rfl, h', tk, c', rfl, hS', hc', hk'⟩ := hr₂
            repeat (any_goals (first | assumption | wp_step))
            exact h _ _ _ hS' hc' hk'
          | _ => exact hr₂.elim
    | _ => exact hr.elim
end
/-- what sorted(set(ns)) is -/
def dSortSetI (T : TD) : TD := fun E M Q => T E M fun v M1 => match v with
  | .d (.lst xs) => oq (intsD xs) fun ns => ns.length < 64 ∧ ∀ ks : List Int, ks.Pairwise (· < ·) → (∀ k, k ∈ ks ↔ k ∈ ns) → Q (.d (.lst (ks.map D.int))) M1
  | _ => False
def tSortSetI (K : PySem.W.Frag) (ta : TE) : TE := fun σ H Q => ta σ H fun x H1 => ∃ (l : Addr) (ns : List Int), x = V.ref l ∧ SqL K H1 l (ns.map V.int) ∧ ns.length < 64 ∧
  ∀ (ks : List Int) (p : Addr), ks.Pairwise (· < ·) → (∀ k, k ∈ ks ↔ k ∈ ns) → H1 p = none → Q (.ref p) (upd H1 p (.lst (ks.map V.int)))
theorem sort_set_at {X : Cx} {pins : List (Addr × Obj)} {σ : L2.St} {H : Hp} {s : Shared} {a : Addr} {S : Int → Bool} {n : Nat} {E : Value → Shared → Prop} {Q : VK} (hc : X.calm = true) (I : Inv X pins σ H s) (R : SetR X.w s.heap a S n) (h64 : n < 64)
    (q : ∀ (ks : List Int) (p : Addr), ks.Pairwise (· < ·) → (∀ k, k ∈ ks ↔ S k = true) → H p = none → Q (.ref p) (upd H p (.lst (ks.map V.int)))) :
    wpAny (model X.prog X.w) X.A (call (.builtin "sorted") [.ref a]) (EP X pins σ Q) E s := by
  refine sorted_set R (I.ok.hd hc) h64 fun s' p out c2 ks k g o hp hg hi hs hmem hl => ?_
  have hlen : (ks.map V.int).length ≤ sizeLine := by rw [List.length_map, hl, sizeLine_eq]; omega
  have hn : H p = none := I.hok.fresh hp
  have J : Inv X pins σ (upd H p (.lst (ks.map V.int))) { s with heap := s'.heap, gens := s'.gens, drawn := s'.drawn, toks := s'.toks } :=
    I.call (ch := []) (Un.laid k hp hn) (I.hok.laid k hp ⟨hlen, out.toList, c2, vals_of_ints hi, hg⟩) (by rw [g]; exact I.bare) (fun _ z => nomatch z)
  have e : s' = { s with heap := s'.heap, gens := s'.gens, drawn := s'.drawn, toks := s'.toks } := by
    cases s'
    cases s
    cases o
    rfl
  rw [e]
  exact ⟨.ref p, _, J, rfl, q ks p hs hmem hn⟩
theorem pe_sortSetI {X : Cx} {a : Expr} {ta : TE} {p p2 q pos : Pos} (hc : X.calm = true) (hg : Gl X "sorted") (hm : X.mg "sorted" = none) (hg2 : Gl X "set") (hm2 : X.mg "set" = none) (ha : PE X a ta)
    (na : starEach [a] X.env = (false, eval a X.env) :: starEach [] X.env := by rfl) : PE X (.Call (.Name "sorted" p) [.Call (.Name "set" p2) [a] [] q] [] pos) (tSortSetI X.K ta) := by
  refine ⟨fun pins s σ H Q I h => ?_⟩
  refine Call_ (ld_blt I hg hm PyProof.Rows.boot_sorted ?_)
  refine PyProof.Rows.callWith_builtin1 (PyProof.Rows.args_cons ?_ rfl) rfl rfl
  refine Call_ (ld_blt I hg2 hm2 PyProof.Rows.boot_set ?_)
  refine PyProof.Rows.callWith_type1 (PyProof.Rows.args_cons (thn (ha.run pins s σ H _ I h) fun v s1 ⟨x, H1, I1, r1, q1⟩ => PyProof.Rows.args_nil ?_) na) na rfl
  obtain ⟨l, ns, rfl, hq, h64, q1⟩ := q1
  cases r1
  obtain ⟨its, r, pl, hz⟩ := I1.list hq
  refine call_set_listR ns (I1.ok.hd hc) pl.isList (by simpa using r.ints) (by unfold scanBound; omega) fun h' tk c hS hcl hk => ?_
  refine PyProof.Rows.args_nil ?_
  have I2 : Inv X pins σ H1 { s1 with heap := h', toks := tk } := I1.kept fun b o e => hk b o e
  exact sort_set_at hc I2 hS (by omega) fun ks p hs hmem hn => q1 ks p hs (fun k => by rw [hmem k]; exact decide_eq_true_iff) hn
theorem repL_ints {K : PySem.W.Frag} {R : Hp} : ∀ ns : List Int, RepL K R (ns.map D.int) (ns.map V.int)
  | [] => rfl
  | n :: ns => ⟨.int n, _, rfl, rfl, repL_ints ns⟩
theorem de_sortSetI {X : Cx} {g : Gh} {a : Expr} {T : TD} {p p2 q pos : Pos} (hc : X.calm = true) (hg : Gl X "sorted") (hm : X.mg "sorted" = none) (hg2 : Gl X "set") (hm2 : X.mg "set" = none) (ha : DE X g a T)
    (na : starEach [a] X.env = (false, eval a X.env) :: starEach [] X.env := by rfl) : DE X g (.Call (.Name "sorted" p) [.Call (.Name "set" p2) [a] [] q] [] pos) (dSortSetI T) :=
  PEm (pe_sortSetI hc hg hm hg2 hm2 ha na) fun σ H Q ⟨E, M, R, A, Qd, ok, h, k⟩ => by
    refine ⟨E, M, R, A, _, ok, h, fun v M1 x H1 R1 A1 q1 ok1 s1 x1 r1 => ?_⟩
    split at q1
    · obtain ⟨ns, e1, h64, q⟩ := oq_elim q1
      obtain ⟨l, vs, ex, h1, h2⟩ := r1
      have e2 := ints_rep ns (intsD_eq e1) h2
      subst e2
      refine ⟨l, ns, ex, .of (ok1.sub _ _ h1), h64, fun ks p hp hk hn => ?_⟩
      exact k _ _ _ _ _ _ (q ks hp hk) (ok1.ro hn) (s1.trans (Sub.upd (ok1.nR hn))) x1 ⟨p, _, rfl, upd_same, repL_ints ks⟩
    · exact q1.elim
end DL

end
section
set_option maxRecDepth 100000
/-! name = {k: v for ..} on one line. -/
namespace DL
open PySem L2 PyProof.Rows
section
variable {X : Cx} {g : Gh} {i : Nat} {y : Str} {py pos spos : Pos} {kx vx tg iter : Expr} {ifs : List Expr} {scope : Scope} {own : List (Str × Nat)}
theorem ps_setDc {wi : TI} {g : TG} {tt : TT} {tk tv : TE} (hc : X.calm = true) (hN : X.N.Nodup) (hy : X.N[i]? = some y) (hyl : X.env.scope.names.lookup y = some .local)
    (hsw : swapsWith (.DictComp kx vx [⟨tg, iter, ifs, 0⟩] scope pos) (some (.Name y py)) spos.line X.env = pure true) (hi : PI X tg iter wi) (ok : BlkOk X.N X.env.scope scope own)
    (hg : ∀ (s : Shared) (H : Hp) (C : Addr) (cl : List (Str × Addr)) (fp : List Addr), PG (X.blk s H scope (compEnvC scope cl C X.env) fp) tg g) (ht : ∀ (s : Shared) (H : Hp) (C : Addr) (cl : List (Str × Addr)) (fp : List Addr), PTs (X.blk s H scope (compEnvC scope cl C X.env) fp) ifs tt)
    (hk : ∀ (s : Shared) (H : Hp) (C : Addr) (cl : List (Str × Addr)) (fp : List Addr), PE (X.blk s H scope (compEnvC scope cl C X.env) fp) kx tk)
    (he : ∀ (s : Shared) (H : Hp) (C : Addr) (cl : List (Str × Addr)) (fp : List Addr), PE (X.blk s H scope (compEnvC scope cl C X.env) fp) vx tv) (hs : ∀ x, foldedSetIterable iter X.env x = pure x := by intro _; rfl) :
    PS X (.Assign [.Name y py] (.DictComp kx vx [⟨tg, iter, ifs, 0⟩] scope pos) spos) (tAsg (tDc wi g tt tk tv (own.map (·.2))) (gName i)) := by
  refine ⟨fun pins s σ H D I h => ?_⟩
  rw [exec_Assign_Name_used _ _ _ _ hsw]
  refine wpAny_bind (wpAny_standAt (wpAny_bind ?_))
  show wpAny _ X.A (do let _ ← comprehension (.DictComp kx vx [⟨tg, iter, ifs, 0⟩] scope pos) scope X.env (firstIterPos [⟨tg, iter, ifs, 0⟩] pos) newDict false (eval iter X.env) (some (assign (.Name y py) X.env))) _ _ s
  have h : tDc wi g tt tk tv (own.map (·.2)) σ H (fun x H1 => gName i x σ H1 D.nx) := h
  refine wpAny_bind (thn (dc_core (Qf := fun _ s' => SP X pins D .next s') hc hN I hi ok hg ht hk he hs h fun L C s' m H' I' q hn f => ?_) fun _ s' hq => wpAny_pure (wpAny_pure hq))
  show wpAny _ _ (assign (.Name y py) X.env (.ref L)) _ _ _
  refine wpAny_assign_Name (store_ok2 (v := V.ref L) I' hN hy (.inl hyl) rfl (fun s2 I2 ⟨a, sb, ha⟩ => ?_) (.inr hyl))
  obtain ⟨f0, f1, f2, f3, f4, f5⟩ := f
  have haC : C ≠ a := by
    rcases ha with z | z
    · rw [z]; exact f1
    · exact fun e => f4 y a z e.symm
  refine ⟨m, hn.sameBut sb haC, fun h3 sb3 => ?_⟩
  exact ⟨_, H', I2.turned (t' := s2.toks) (fun b o hb e => (sb3.2 b hb).trans e) f0 f1 f3 f4 f5, q⟩
theorem sw_trueD {gs : List Comprehension} {l : Nat} {env : Env} (hk : env.scope.kind = .function) (hy : env.scope.names.lookup y = some .local) (hl : (py.line == pos.line) = true)
    (ha : (scope.names.any fun (n, k) => n == y && (k == .local || k == .cell)) = false) : swapsWith (.DictComp kx vx gs scope pos) (some (.Name y py)) l env = pure true := by
  have ky : env.kindOf y = some .local := hy
  have hb : env.blockKind = .function := by unfold Env.blockKind; rw [hk]; rfl
  unfold swapsWith
  simp only [hb, ky, ha, Expr.pos, hl]
  rfl
variable {T : TDI} {t : TDG} {tt : TDT} {tk tv : TD} {is : List Nat}
theorem ds_setDcM (hc : X.calm = true) (hN : X.N.Nodup) (hy : X.N[i]? = some y) (hyl : X.env.scope.names.lookup y = some .local)
    (hsw : swapsWith (.DictComp kx vx [⟨tg, iter, ifs, 0⟩] scope pos) (some (.Name y py)) spos.line X.env = pure true) (hi : DI X g tg iter T) (ok : BlkOk X.N X.env.scope scope own)
    (hg : ∀ (s : Shared) (H : Hp) (C : Addr) (cl : List (Str × Addr)) (fp : List Addr) (g' : Gh), DG (X.blk s H scope (compEnvC scope cl C X.env) fp) g' tg is t)
    (ht : ∀ (s : Shared) (H : Hp) (C : Addr) (cl : List (Str × Addr)) (fp : List Addr) (g' : Gh), DTs (X.blk s H scope (compEnvC scope cl C X.env) fp) g' ifs tt)
    (hk : ∀ (s : Shared) (H : Hp) (C : Addr) (cl : List (Str × Addr)) (fp : List Addr) (g' : Gh), DE (X.blk s H scope (compEnvC scope cl C X.env) fp) g' kx tk)
    (he : ∀ (s : Shared) (H : Hp) (C : Addr) (cl : List (Str × Addr)) (fp : List Addr) (g' : Gh), DE (X.blk s H scope (compEnvC scope cl C X.env) fp) g' vx tv) (his : ∀ i ∈ is, i ∈ own.map (·.2) := by decide) (hs : ∀ x, foldedSetIterable iter X.env x = pure x := by intro _; rfl) :
    DS X g (.Assign [.Name y py] (.DictComp kx vx [⟨tg, iter, ifs, 0⟩] scope pos) spos) (sSet i (dDictM T t tt tk tv (own.map (·.2)))) :=
  PSm (ps_setDc hc hN hy hyl hsw hi ok (fun s H C cl fp => PG.ex (hg s H C cl fp)) (fun s H C cl fp => PTs.ex (ht s H C cl fp)) (fun s H C cl fp => PE.ex (hk s H C cl fp)) (fun s H C cl fp => PE.ex (he s H C cl fp)) hs) fun D σ H h => by
    obtain ⟨E, M, R, A, De, ok, h, k1, _⟩ := h
    exact lift_dc his ok h fun acc M' D' xs H' R' A' q ok' s' x' eD ra h0 rD aD =>
      k1 _ _ _ _ _ _ q ((ok'.adoptM (d := .dk acc) h0 rD aD ⟨D', xs, rfl, eD, ra⟩).setSlot (v := .mu M'.length) (y := .ref D') ⟨D', [], ok'.at_len _, rfl⟩ i) s' (x'.trans (ExtA.app _ _))
end
end DL

end
section
set_option maxRecDepth 100000
/-! The end: defs from facts, the law's promise. -/
namespace DL
open PySem L2 PyProof.Rows
section
variable {K : PySem.W.Frag} {mg : Str → Option Value} {h : Heap}
theorem defAt_mk {x : Str} {st : Stmt} {ps : List Str} {f : Addr} {oc kV doc pm cdv ct : Value} {od an : Option Addr} {osl : Array (Option Value)} (X : K.In h) (G : h.Ns mainGlobals mg)
    (hb : ∀ (kV doc pm : Value) (an : Option Addr) (cdv ct : Value) (us : List Value), us.length = ps.length → bindArgs (PySem.W.fnOf x x (defArgs st) (defBody st) (defScope st) .none kV doc pm an cdv ct) ⟨us, []⟩ = pure (ps.zip us))
    (a : PySem.W.nsIn K mainGlobals x = some (some (.ref f))) (l : K.lookup f = some ⟨oc, od, .func (PySem.W.fnOf x x (defArgs st) (defBody st) (defScope st) .none kV doc pm an cdv ct), osl⟩)
    (c : PySem.W.codeIn K cdv x = true) (k : PySem.W.keepIn K (.ref f) = true) : DefAt K mg x st ps :=
  have F := fun_mk (st := st) l c k
  ⟨f, _, PySem.W.mg_of X G a, F, F.binds hb⟩
end
def spLw (K : PySem.W.Frag) : Sp := fun vs H Q _ => ∃ (a : Addr) (ns : List Int), vs = [.ref a] ∧ SqL K H a (ns.map V.int) ∧ ns.length ≤ 63 ∧ ∀ H', Q (.bl true) H'
def F_lawOk : PSp := fun ds Q _ => ∃ ns, ds = [.scr ns] ∧ ns.length ≤ 63 ∧ Q (.bl true)
theorem len_lawOk : ∀ ds Q E, F_lawOk ds Q E → ds.length = 1 := by rintro _ _ _ ⟨_, rfl, _⟩; rfl
theorem law_fn {P : Program} {w : World} {K : PySem.W.Frag} {mg : Str → Option Value} {base : Heap} {xa : Str → Addr} {k : Nat} {fa : Addr} (D : DefOk P w K mg base xa "law" k ["script"] (fP F_lawOk)) (hf : mg "law" = some (.ref fa)) {oL : Obj} {fd : FuncData} (lk : K.lookup fa = some oL) (ld : oL.data = .func fd) :
    FnOk P w K mg base (L2N.CX P w) k fa fd ["script"] (spLw K) := by
  obtain ⟨f, fd', h1, h2, h3, h4, o', e1, e2⟩ := D.ex
  have e : f = fa := by
    rw [h1] at hf
    cases hf
    rfl
  subst e
  have e3 : fd' = fd := by
    rw [e1] at lk
    cases lk
    rw [e2] at ld
    cases ld
    rfl
  subst e3
  refine h4.imp fun vs H Q E h => ?_
  obtain ⟨a, ns, rfl, hs, hl, q⟩ := h
  refine ⟨H, [], [], [.d (.scr ns)], fun v _ => v = .d (.bl true), fun _ _ => False, ⟨Sub.refl _, List.nodup_nil, fun l hl => by simp at hl, rfl⟩, ⟨.ref a, [], rfl, ⟨a, rfl, hs⟩, rfl⟩, ⟨rfl, [.scr ns], rfl, ns, rfl, hl, rfl⟩, ?_, fun n M' H' R' h => h.elim⟩
  intro v M' x H' R' A' hv _ _ _ r
  subst hv
  have r : x = .bl true := r
  subst r
  exact q H'
end DL

end
section

/-! Folk and plans as data; what the defs about them promise. -/
namespace DL
open PySem L2 PyProof.Rows
structure Fk where
  nm : Str
  cr : Str
  sn : Int
def encFk (f : Fk) : D := .tup [.str f.nm, .str f.cr, .int f.sn]
def encFs (F : List Fk) : D := .tup (F.map encFk)
def isOneD (L : List Ln) (d : D) : Bool := match d with | .tup [n, c, s] => isNameD n && isCrD L c && isWholeD s 0 50 | _ => false
def F_is_one : PSp := fun ds Q _ => ∃ L d, ds = [encLs L, d] ∧ (L.map Ln.nm).Nodup ∧ L.length ≤ 1000 ∧ small2 d = true ∧ Q (.bl (isOneD L d))
def ltFk (a b : Option Fk) : Bool := match a, b with | some a, some b => decide (a.nm.cps.toList < b.nm.cps.toList) | _, _ => false
def sortedF (F : List Fk) : Bool := (List.range (F.length - 1)).all fun k => ltFk F[k]? F[k + 1]?
def fkD : D → Option Fk | .tup [.str n, .str c, .int s] => some ⟨n, c, s⟩ | _ => none
def fksD : List D → Option (List Fk)
  | [] => some []
  | d :: ds => match fkD d, fksD ds with | some f, some F => some (f :: F) | _, _ => none
def areFolkD (L : List Ln) (d : D) : Bool := match d with
  | .tup xs => decide (1 ≤ xs.length) && decide (xs.length ≤ 10) && xs.all (isOneD L) && (match fksD xs with | some F => sortedF F | none => false)
  | _ => false
def F_are_folk_of : PSp := fun ds Q _ => ∃ L d, ds = [encLs L, d] ∧ (L.map Ln.nm).Nodup ∧ L.length ≤ 1000 ∧ small3 d = true ∧ Q (.bl (areFolkD L d))
def F_need_folk : PSp := fun ds Q E => ∃ d e, ds = [d, e] ∧ small3 d = true ∧ small3 e = true ∧ (areLanesD d = false → E "NoLanes") ∧
  ∀ L, d = encLs L → areLanesD d = true → (areFolkD L e = true → Q .non) ∧ (areFolkD L e = false → E "NoFolk")
end DL

end
section

namespace DL
open PySem L2 PyProof.Rows
/-- is_one: lanes thing -/
def t_is_one (Wd : Str → List DO → Prop) : TDS :=
  sSeq (sIf (dOr (dNot (dB (dIsi DL.isTup (dVar 1)))) (dOr (dB (dOp dNe (dCB dLen (daCons (dVar 1) (daNil))) (dC (.int 3)))) (dNot (dB (dCall F_is_name Wd (daCons (dOp dIx (dVar 1) (dC (.int 0))) (daNil))))))) (sRet (dC (.bl false))) (sNext)) (sRet (dAndV (dCall F_is_crossing Wd (daCons (dVar 0) (daCons (dOp dIx (dVar 1) (dC (.int 1))) (daNil)))) (dCall F_is_whole Wd (daCons (dOp dIx (dVar 1) (dC (.int 2))) (daCons (dC (.int 0)) (daCons (dC c_MOST_TICK) (daNil)))))))
/-- are_folk_of: lanes thing k one -/
def t_are_folk_of (Wd : Str → List DO → Prop) : TDS :=
  sSeq (sIf (dOr (dNot (dB (dIsi DL.isTup (dVar 1)))) (dNot (dB (dChain dLe dLe (dC (.int 1)) (dCB dLen (daCons (dVar 1) (daNil))) (dC c_MOST_FOLK))))) (sRet (dC (.bl false))) (sNext)) (sSeq (sIf (dNot (dB (dCB dAll (daCons (dComp (iSeq (dVar 1)) (gN 3) (dYes) (dCall F_is_one (fun _ _ => False) (daCons (dVar 0) (daCons (dVar 3) (daNil)))) [3]) (daNil))))) (sRet (dC (.bl false))) (sNext)) (sRet (dCB dAll (daCons (dComp (iRange1 (daCons (dOp dSub (dCB dLen (daCons (dVar 1) (daNil))) (dC (.int 1))) (daNil))) (gN 2) (dYes) (dOp dLtA (dOp dIx (dOp dIx (dVar 1) (dVar 2)) (dC (.int 0))) (dOp dIx (dOp dIx (dVar 1) (dOp dAdd (dVar 2) (dC (.int 1)))) (dC (.int 0)))) [2]) (daNil)))))
/-- need_folk: lanes folk -/
def t_need_folk (Wd : Str → List DO → Prop) : TDS :=
  sSeq (sExpr (dCall F_need_lanes Wd (daCons (dVar 0) (daNil)))) (sIf (dNot (dB (dCall F_are_folk_of Wd (daCons (dVar 0) (daCons (dVar 1) (daNil)))))) (sRaise Wd "NoFolk") (sNext))
end DL

end
section

namespace DL
open PySem L2 PyProof.Rows
local macro_rules | `(tactic| walk_at "w") => `(tactic| ((conv => whnf); repeat (first | (refine br_t rfl ?_; conv => whnf) | (refine br_f rfl ?_; conv => whnf))))
theorem w_is_one : WPP 2 t_is_one F_is_one := by
  rintro _ Q E ⟨L, d, rfl, nd, hlL, hd, q⟩
  have e : ∀ c : Bool, isOneD L d = c → Q (.bl c) := fun c h => h ▸ q
  cases d with
  | tup xs =>
    obtain ⟨hl, hs⟩ := Bool.and_eq_true_iff.mp hd
    walk_at "w"
    refine ⟨rfl, ?_⟩
    walk_at "w"
    refine ⟨rfl, rfl, ?_⟩
    walk_at "w"
    refine br_of (fun h => ?_) (fun h => ?_) <;> walk_at "w"
    · refine e _ ?_
      rw [eqD_int] at h
      have h' : ¬ (xs.length = 3) := by
        intro q
        rw [q] at h
        exact absurd h (by decide)
      rcases xs with _ | ⟨a, _ | ⟨b, _ | ⟨c, _ | ⟨f, r⟩⟩⟩⟩ <;> first | rfl | (exact absurd rfl h')
    · rw [eqD_int] at h
      have h' : xs.length = 3 := by
        have : (xs.length : Int) = 3 := by simpa using h
        omega
      obtain ⟨n, c, s, rfl⟩ := len3 h'
      simp only [List.all_cons, List.all_nil, Bool.and_true, Bool.and_eq_true] at hs
      obtain ⟨s1, s2, s3⟩ := hs
      refine ⟨n, rfl, s1, ?_⟩
      walk_at "w"
      refine br_of (fun hn => ?_) (fun hn => ?_) <;> walk_at "w"
      · refine e _ ?_
        show (isNameD n && isCrD L c && isWholeD s 0 50) = false
        have : isNameD n = false := by simpa using hn
        rw [this]
        rfl
      · have hn : isNameD n = true := by simpa using hn
        have ex : ∀ b : Bool, (isCrD L c && isWholeD s 0 50) = b → Q (.bl b) := fun b hb => e b (by
          show (isNameD n && isCrD L c && isWholeD s 0 50) = b
          rw [hn]
          exact hb)
        refine ⟨L, c, rfl, nd, hlL, ty_small s2, ?_⟩
        walk_at "w"
        refine br_of (fun hc => ?_) (fun hc => ?_) <;> walk_at "w"
        · refine ⟨s, 0, 50, rfl, ty_small s3, ?_⟩
          walk_at "w"
          refine ex _ ?_
          rw [hc]
          rfl
        · refine ex _ ?_
          rw [hc]
          rfl
  | _ =>
    first
    | (cases hd; done)
    | (walk_at "w"
       refine ⟨rfl, ?_⟩
       walk_at "w"
       exact e _ rfl)
structure FkV (L : List Ln) (f : Fk) : Prop where
  nm : isNameS f.nm = true
  cr : (lookL L f.cr).isSome = true
  lo : 0 ≤ f.sn
  hi : f.sn ≤ 50
theorem one_of {L : List Ln} {d : D} (h : isOneD L d = true) : ∃ f : Fk, d = encFk f ∧ FkV L f := by
  unfold isOneD at h
  split at h
  · rename_i n c s
    rw [Bool.and_eq_true, Bool.and_eq_true] at h
    obtain ⟨⟨h1, h2⟩, h3⟩ := h
    cases n <;> first | (cases h1; done) | skip
    cases c <;> first | (cases h2; done) | skip
    cases s <;> first | (cases h3; done) | skip
    rename_i n c s
    have h3 : (decide (0 ≤ s) && decide (s ≤ 50)) = true := h3
    rw [Bool.and_eq_true] at h3
    exact ⟨⟨n, c, s⟩, rfl, h1, h2, of_decide_eq_true h3.1, of_decide_eq_true h3.2⟩
  · cases h
theorem fkD_enc (f : Fk) : fkD (encFk f) = some f := rfl
theorem fksD_enc : ∀ F : List Fk, fksD (F.map encFk) = some F
  | [] => rfl
  | f :: F => by rw [List.map_cons, fksD, fkD_enc, fksD_enc F]
theorem ones_all {L : List Ln} : ∀ {xs : List D}, xs.all (isOneD L) = true → ∃ F : List Fk, xs = F.map encFk ∧ ∀ f ∈ F, FkV L f
  | [], _ => ⟨[], rfl, fun _ h => by simp at h⟩
  | x :: xs, h => by
    rw [List.all_cons, Bool.and_eq_true] at h
    obtain ⟨f, rfl, hf⟩ := one_of h.1
    obtain ⟨F, rfl, hF⟩ := ones_all h.2
    refine ⟨f :: F, rfl, fun g hg => ?_⟩
    rcases List.mem_cons.mp hg with e | e
    · rw [e]; exact hf
    · exact hF g e
theorem w_are_folk_of : WPP 4 t_are_folk_of F_are_folk_of := by
  rintro _ Q E ⟨L, d, rfl, nd, hlL, hd, q⟩
  have e : ∀ c : Bool, areFolkD L d = c → Q (.bl c) := fun c h => h ▸ q
  cases d with
  | tup xs =>
    obtain ⟨hl, hs⟩ := Bool.and_eq_true_iff.mp hd
    have hl' : xs.length ≤ 1000 := of_decide_eq_true hl
    have hsm : ∀ x ∈ xs, small2 x = true := List.all_eq_true.mp hs
    walk_at "w"
    refine ⟨rfl, ?_⟩
    walk_at "w"
    have f1 : ∀ {c : Bool}, decide ((1 : Int) ≤ (xs.length : Int)) = c → decide (1 ≤ xs.length) = c := fun h => dec_cast (a := 1) h
    have f2 : ∀ {c : Bool}, decide ((xs.length : Int) ≤ 10) = c → decide (xs.length ≤ 10) = c := fun h => dec_cast (b := 10) h
    refine br_of (fun h1 => ?_) (fun h1 => ?_) <;> walk_at "w"
    · refine br_of (fun h2 => ?_) (fun h2 => ?_)
      · have h2 : decide ((xs.length : Int) ≤ 10) = false := by simpa using h2
        walk_at "w"
        refine e _ ?_
        show (decide (1 ≤ xs.length) && decide (xs.length ≤ 10) && _ && _) = false
        rw [f2 h2, Bool.and_false]
        rfl
      · have h2 : decide ((xs.length : Int) ≤ 10) = true := by simpa using h2
        walk_at "w"
        refine dLC_self (fun x => .bl (isOneD L x)) trivial _ (small_len hl') (fun x hx Y N hy => ?_) ?_
        · walk_at "w"
          exact ⟨L, x, rfl, nd, hlL, hsm x hx, hy⟩
        walk_at "w"
        rw [blsD_map]
        walk_at "w"
        rw [all_id_map]
        have ea : ∀ c : Bool, (xs.all (isOneD L) && (match fksD xs with | some F => sortedF F | none => false)) = c → Q (.bl c) := fun c hc => e c (by
          show (decide (1 ≤ xs.length) && decide (xs.length ≤ 10) && xs.all (isOneD L) && (match fksD xs with | some F => sortedF F | none => false)) = c
          rw [f1 h1, f2 h2]
          exact hc)
        refine br_of (fun h3 => ?_) (fun h3 => ?_)
        · have h3 : xs.all (isOneD L) = false := by simpa using h3
          walk_at "w"
          refine ea _ ?_
          rw [h3]
          rfl
        · have h3 : xs.all (isOneD L) = true := by simpa using h3
          obtain ⟨F, rfl, hv⟩ := ones_all h3
          rw [h3, fksD_enc] at ea
          have hlF : F.length ≤ 1000 := by rwa [List.length_map] at hl'
          have h1F : 1 ≤ F.length := by simpa using f1 h1
          walk_at "w"
          refine ⟨?_, ?_, ?_⟩
          · rw [List.length_map]
            omega
          · rw [List.length_map]
            omega
          · have en : (((F.map encFk).length : Int) - 1).toNat = F.length - 1 := by rw [List.length_map]; omega
            rw [en]
            refine dLC_map (fun i : Nat => .int ((0 : Int) + (i : Nat))) (fun k => .bl (ltFk F[k]? F[k + 1]?)) trivial _ (by rw [List.length_range]; exact small_len (by omega)) (fun k hk Y N hy => ?_) ?_
            · have hk := List.mem_range.mp hk
              have ga : F[k]? = some F[k] := List.getElem?_eq_getElem (by omega)
              have gb : F[k + 1]? = some F[k + 1] := List.getElem?_eq_getElem (by omega)
              rw [ga, gb] at hy
              walk_at "w"
              rw [atI_off _ k _ (by omega), List.getElem?_map, ga]
              walk_at "w"
              rw [atI_off _ (k + 1) _ (by omega), List.getElem?_map, gb]
              walk_at "w"
              exact hy
            · walk_at "w"
              rw [blsD_map]
              walk_at "w"
              rw [all_id_map]
              refine ea _ ?_
              show sortedF F = _
              rfl
    · refine e _ ?_
      show (decide (1 ≤ xs.length) && decide (xs.length ≤ 10) && _ && _) = false
      rw [f1 h1]
      rfl
  | _ =>
    first
    | (cases hd; done)
    | (walk_at "w"
       refine ⟨rfl, ?_⟩
       walk_at "w"
       exact e _ rfl)
structure LanesV (L : List Ln) : Prop where
  lo : 1 ≤ L.length
  hi : L.length ≤ 8
  lane : ∀ l ∈ L, LaneV l
  srt : sortedB L = true
  way : ∀ l ∈ L, (wayOf L l.nm).isSome = true
theorem LanesV.nd {L : List Ln} (v : LanesV L) : (L.map Ln.nm).Nodup := sorted_nodup v.srt
theorem lanes_of {d : D} (h : areLanesD d = true) : ∃ L, d = encLs L ∧ LanesV L := by
  cases d with
  | tup xs =>
    have h : (decide (1 ≤ xs.length) && decide (xs.length ≤ 8) && xs.all isLaneD && (match lnsD xs with | some L => areLanesL L | none => false)) = true := h
    rw [Bool.and_eq_true, Bool.and_eq_true, Bool.and_eq_true] at h
    obtain ⟨⟨⟨h1, h2⟩, h3⟩, h4⟩ := h
    obtain ⟨L, rfl, hv⟩ := lanes_all h3
    rw [lnsD_enc] at h4
    have h4 : areLanesL L = true := h4
    unfold areLanesL at h4
    rw [Bool.and_eq_true, List.all_eq_true] at h4
    rw [List.length_map] at h1 h2
    exact ⟨L, rfl, of_decide_eq_true h1, of_decide_eq_true h2, hv, h4.1, h4.2⟩
  | _ => cases h
theorem lanes_enc {L : List Ln} (v : LanesV L) : areLanesD (encLs L) = true := by
  show (decide (1 ≤ (L.map encLn).length) && decide ((L.map encLn).length ≤ 8) && (L.map encLn).all isLaneD && (match lnsD (L.map encLn) with | some L => areLanesL L | none => false)) = true
  rw [lnsD_enc, List.length_map]
  have h3 : (L.map encLn).all isLaneD = true := by
    rw [List.all_map, List.all_eq_true]
    exact fun l hl => encLn_lane (v.lane l hl)
  have h4 : areLanesL L = true := by
    unfold areLanesL
    rw [v.srt, Bool.true_and, List.all_eq_true]
    exact v.way
  rw [h3, decide_eq_true v.lo, decide_eq_true v.hi]
  exact h4
theorem w_need_folk : WPP 2 t_need_folk F_need_folk := by
  rintro _ Q E ⟨d, f, rfl, hd, hf, q0, q⟩
  walk_at "w"
  refine ⟨d, rfl, hd, fun h => ?_, fun h => ?_⟩
  · walk_at "w"
    obtain ⟨L, rfl, v⟩ := lanes_of h
    have hh := v.hi
    refine ⟨L, f, rfl, v.nd, by omega, hf, ?_⟩
    walk_at "w"
    refine br_of (fun h2 => ?_) (fun h2 => ?_)
    · exact (q L rfl h).2 (by simpa using h2)
    · exact (q L rfl h).1 (by simpa using h2)
  · exact q0 h
end DL

end
section

namespace DL
open PySem L2 PyProof.Rows
/-- going on by the ticks: what is come out of each lane -/
def outGo (L : List Ln) : List Str → List Int → Int → List Int → Option (List Int)
  | c :: cs, t :: ts, since, acc => if t < since then none else match lookL L c with
    | some l => outGo L cs ts (t + l.lg) (acc ++ [t + l.lg])
    | none => none
  | _, _, _, acc => some acc
def intD : D → Bool | .int _ => true | _ => false
def wayL (L : List Ln) (c : Str) : List Str := (wayOf L c).getD []
def outD (L : List Ln) (f : Fk) (d : D) : Option (List Int) := match d with
  | .tup xs => if xs.length = (wayL L f.cr).length then (match intsD xs with | some ts => outGo L (wayL L f.cr) ts f.sn [] | none => none) else none
  | _ => none
def intsL (ts : List Int) : D := .lst (ts.map .int)
def F_comes_out : PSp := fun ds Q _ => ∃ L f d, ds = [encLs L, encFk f, d] ∧ LanesV L ∧ FkV L f ∧ small2 d = true ∧ Q (match outD L f d with | some hs => intsL hs | none => .non)
end DL

end
section

namespace DL
open PySem L2 PyProof.Rows
/-- comes_out: lanes one ticks table way found there here tick -/
def t_comes_out (Wd : Str → List DO → Prop) : TDS :=
  sSeq (sPar 3 4 (daCons (dCall F_table_of Wd (daCons (dVar 0) (daNil))) (daCons (dCall F_way_of Wd (daCons (dVar 0) (daCons (dOp dIx (dVar 1) (dC (.int 1))) (daNil)))) (daNil)))) (sSeq (sIf (dOr (dNot (dB (dIsi DL.isTup (dVar 2)))) (dB (dOp dNe (dCB dLen (daCons (dVar 2) (daNil))) (dCB dLen (daCons (dVar 4) (daNil)))))) (sRet (dC .non)) (sNext)) (sSeq (sIf (dNot (dB (dCB dAll (daCons (dComp (iSeq (dVar 2)) (gN 8) (dYes) (dAndV (dIsi DL.isInt (dVar 8)) (dNotV (dIsi DL.isBool (dVar 8)))) [8]) (daNil))))) (sRet (dC .non)) (sNext)) (sSeq (sPar 5 6 (daCons (dLstM (daNil)) (daCons (dOp dIx (dVar 1) (dC (.int 2))) (daNil)))) (sSeq (sFor (iZip2 (daCons (dVar 4) (daCons (dVar 2) (daNil)))) (gT 2 (gsCons (gN 7) (gsCons (gN 8) (gsNil)))) (sSeq (sIf (dB (dOp dLtA (dVar 8) (dVar 6))) (sRet (dC .non)) (sNext)) (sSeq (sSet 6 (dOp dAdd (dVar 8) (dOp dIx (dOp dIx (dVar 3) (dVar 7)) (dC (.int 2))))) (sExpr (dMeth isLst rAppendD (dVar 5) (daCons (dVar 6) (daNil))))))) (sRet (dVar 5))))))
end DL

end
section

namespace DL
open PySem L2 PyProof.Rows
local macro_rules | `(tactic| walk_at "w") => `(tactic| ((conv => whnf); repeat (first | (refine br_t rfl ?_; conv => whnf) | (refine br_f rfl ?_; conv => whnf))))
theorem wayGo_mem {L : List Ln} : ∀ (n : Nat) (c : Str) (found w : List Str), wayGo L n c found = some w → ∀ x ∈ w, x ∈ found ∨ (lookL L x).isSome = true
  | 0, c, found, w, h => by simp [wayGo] at h
  | n + 1, c, found, w, h => by
    rw [wayGo] at h
    split at h
    · cases h
      exact fun x hx => .inl hx
    · split at h
      · cases h
      · rename_i l e
        split at h
        · cases h
        · intro x hx
          rcases wayGo_mem n _ _ _ h x hx with q | q
          · rcases List.mem_append.mp q with q | q
            · exact .inl q
            · simp at q
              subst q
              exact .inr (by rw [e]; rfl)
          · exact .inr q
theorem way_mem {L : List Ln} {c : Str} : ∀ x ∈ wayL L c, (lookL L x).isSome = true := by
  intro x hx
  unfold wayL at hx
  cases e : wayOf L c with
  | none => rw [e] at hx; simp at hx
  | some w =>
    rw [e] at hx
    rcases wayGo_mem _ _ _ _ e x hx with q | q
    · simp at q
    · exact q
theorem way_eq {L : List Ln} {c : Str} (v : LanesV L) (h : (lookL L c).isSome = true) : wayOf L c = some (wayL L c) := by
  obtain ⟨l, hl⟩ := Option.isSome_iff_exists.mp h
  obtain ⟨h1, h2⟩ := lookL_some hl
  have := v.way l h1
  rw [h2] at this
  obtain ⟨w, e⟩ := Option.isSome_iff_exists.mp this
  unfold wayL
  rw [e]
  rfl
theorem cr_ok {L : List Ln} (v : LanesV L) {c : Str} (h : (lookL L c).isSome = true) : okS c := by
  obtain ⟨l, hl⟩ := Option.isSome_iff_exists.mp h
  obtain ⟨h1, h2⟩ := lookL_some hl
  exact h2 ▸ name_okS (v.lane l h1).1
abbrev coT : TDG := gT 2 (gsCons (gN 7) (gsCons (gN 8) (gsNil)))
abbrev coB : TDS := (sSeq (sIf (dB (dOp dLtA (dVar 8) (dVar 6))) (sRet (dC .non)) (sNext)) (sSeq (sSet 6 (dOp dAdd (dVar 8) (dOp dIx (dOp dIx (dVar 3) (dVar 7)) (dC (.int 2))))) (sExpr (dMeth isLst rAppendD (dVar 5) (daCons (dVar 6) (daNil))))))
theorem co_loop {L : List Ln} {De : DEnds} {Kp : List DO → Prop} (hk : ∀ M, Kp M) {a0 a1 a2 a4 : Option Val} : ∀ (cs : List Str) (ts : List Int) (since : Int) (acc : List Int) (y7 y8 : Option Val),
    (∀ c ∈ cs, (lookL L c).isSome = true) → cs.length = ts.length → acc.length + cs.length ≤ 1000 → (outGo L cs ts since acc = none → ∀ M, De.rt (.d .non) M) →
    (∀ r, outGo L cs ts since acc = some r → ∀ s y7 y8, De.nx [a0, a1, a2, some (.d (.dk (tableL L))), a4, some (.mu 0), s, y7, y8] [.lst (r.map .int)]) →
    dLoop Kp coT coB De (pair2 (cs.map .str) (ts.map .int)) [a0, a1, a2, some (.d (.dk (tableL L))), a4, some (.mu 0), some (.d (.int since)), y7, y8] [.lst (acc.map .int)]
  | [], [], since, acc, y7, y8, _, _, _, _, q => ⟨hk _, q acc rfl _ _ _⟩
  | [], _ :: _, _, _, _, _, _, h, _, _, _ => by simp at h
  | _ :: _, [], _, _, _, _, _, h, _, _, _ => by simp at h
  | c :: cs, t :: ts, since, acc, y7, y8, hc, hl, ha, hn, q => by
    refine ⟨hk _, ?_⟩
    walk_at "w"
    refine ⟨rfl, ?_⟩
    walk_at "w"
    refine ⟨rfl, ?_⟩
    walk_at "w"
    refine br_of (fun h => ?_) (fun h => ?_)
    · walk_at "w"
      exact hn (by rw [outGo, if_pos (of_decide_eq_true h)]) _
    · obtain ⟨l, el⟩ := Option.isSome_iff_exists.mp (hc c List.mem_cons_self)
      walk_at "w"
      rw [dlook_table, el]
      walk_at "w"
      have hb : ¬ t < since := of_decide_eq_false h
      have hq : outGo L (c :: cs) (t :: ts) since acc = outGo L cs ts (t + l.lg) (acc ++ [t + l.lg]) := by
        rw [outGo, if_neg hb, el]
      refine ⟨rfl, ?_⟩
      walk_at "w"
      refine ⟨?_, ?_⟩
      · rw [List.length_map]
        exact Nat.lt_of_lt_of_le (by rw [List.length_cons] at ha; omega) (small_len (Nat.le_refl 1000))
      · have := co_loop (L := L) (De := De) hk (a0 := a0) (a1 := a1) (a2 := a2) (a4 := a4) cs ts (t + l.lg) (acc ++ [t + l.lg]) (some (.d (.str c))) (some (.d (.int t))) (fun x hx => hc x (List.mem_cons_of_mem _ hx)) (by simpa using hl) (by rw [List.length_append, List.length_singleton]; rw [List.length_cons] at ha; omega) (fun hr => hn (hq.trans hr)) (fun r hr => q r (hq.trans hr))
        rw [List.map_append] at this
        exact this
theorem intsD_all : ∀ {xs : List D}, xs.all intD = true → ∃ ts : List Int, xs = ts.map .int
  | [], _ => ⟨[], rfl⟩
  | x :: xs, h => by
    rw [List.all_cons, Bool.and_eq_true] at h
    obtain ⟨ts, e⟩ := intsD_all h.2
    cases x <;> first | (cases h.1; done) | skip
    rename_i i
    exact ⟨i :: ts, by rw [e]; rfl⟩
theorem intsD_none : ∀ {xs : List D}, xs.all intD = false → intsD xs = none
  | [], h => by cases h
  | x :: xs, h => by
    cases x <;> first | rfl | skip
    rename_i i
    rw [List.all_cons] at h
    have h : xs.all intD = false := h
    rw [intsD, intsD_none h]
theorem w_comes_out : WPP 9 t_comes_out F_comes_out := by
  rintro _ Q E ⟨L, f, d, rfl, v, hf, hd, q⟩
  have h8 := v.hi
  have e : ∀ r, outD L f d = r → Q (match r with | some hs => intsL hs | none => .non) := fun r h => h ▸ q
  walk_at "w"
  refine ⟨L, rfl, v.nd, by omega, ?_⟩
  walk_at "w"
  refine ⟨L, f.cr, rfl, v.nd, by omega, cr_ok v hf.cr, fun l hl => name_okS (v.lane l hl).2.1, ?_⟩
  rw [way_eq v hf.cr]
  walk_at "w"
  cases d with
  | tup xs =>
    obtain ⟨hl, hs⟩ := Bool.and_eq_true_iff.mp hd
    have hl' : xs.length ≤ 1000 := of_decide_eq_true hl
    have hsm : ∀ x ∈ xs, small1 x = true := List.all_eq_true.mp hs
    refine ⟨rfl, ?_⟩
    walk_at "w"
    refine ⟨rfl, rfl, ?_⟩
    rw [eqD_int, List.length_map]
    walk_at "w"
    refine br_of (fun h => ?_) (fun h => ?_)
    · have h : ¬ xs.length = (wayL L f.cr).length := fun z => by rw [z] at h; simp at h
      walk_at "w"
      refine e none ?_
      show (if xs.length = (wayL L f.cr).length then _ else none) = none
      rw [if_neg h]
    · have h : xs.length = (wayL L f.cr).length := by
        have : (xs.length : Int) = ((wayL L f.cr).length : Int) := by simpa using h
        omega
      have e2 : ∀ r, (match intsD xs with | some ts => outGo L (wayL L f.cr) ts f.sn [] | none => none) = r → Q (match r with | some hs => intsL hs | none => .non) := fun r hr => e r (by
        show (if xs.length = (wayL L f.cr).length then _ else none) = r
        rw [if_pos h]
        exact hr)
      walk_at "w"
      refine dLC_self (fun x => .bl (intD x)) trivial _ (small_len hl') (fun x hx Y N hy => ?_) ?_
      · have hx1 := hsm x hx
        walk_at "w"
        refine ⟨ty_small hx1, br_of (fun g => ?_) (fun g => ?_)⟩ <;> walk_at "w"
        · refine ⟨ty_small hx1, ?_⟩
          cases x <;> first | (cases g; done) | exact hy
        · cases x <;> first | (cases g; done) | exact hy
      · walk_at "w"
        rw [blsD_map]
        walk_at "w"
        rw [all_id_map]
        refine br_of (fun h3 => ?_) (fun h3 => ?_)
        · have h3 : xs.all intD = false := by simpa using h3
          walk_at "w"
          refine e2 none ?_
          rw [intsD_none h3]
        · have h3 : xs.all intD = true := by simpa using h3
          obtain ⟨ts, rfl⟩ := intsD_all h3
          rw [intsD_map, List.map_id'] at e2
          rw [List.length_map] at h
          walk_at "w"
          refine ⟨Nat.zero_le _, ?_⟩
          walk_at "w"
          refine co_loop (L := L) (fun _ => ⟨trivial, trivial⟩) (wayL L f.cr) ts f.sn [] none none (way_mem) h.symm ?_ (fun hr M => e2 none hr) (fun r hr s y7 y8 => e2 (some r) hr)
          rw [List.length_map] at hl'
          show 0 + _ ≤ 1000
          omega
  | _ =>
    first
    | (cases hd; done)
    | (refine ⟨rfl, ?_⟩
       walk_at "w"
       exact e none rfl)
end DL

end
section

namespace DL
open PySem L2 PyProof.Rows
/-- the ticks of one, told as data -/
def encTs (ts : List Int) : D := .tup (ts.map .int)
def encP (P : List (List Int)) : D := .tup (P.map encTs)
def tsD : D → Option (List Int) | .tup xs => intsD xs | _ => none
def tssD : List D → Option (List (List Int))
  | [] => some []
  | d :: ds => match tsD d, tssD ds with | some t, some T => some (t :: T) | _, _ => none
/-- one goes out of each lane in time -/
def outOk (L : List Ln) (f : Fk) (ts : List Int) : Bool := decide (ts.length = (wayL L f.cr).length) && (outGo L (wayL L f.cr) ts f.sn []).isSome
/-- who goes into which lane, when -/
def goesIn (L : List Ln) (F : List Fk) (P : List (List Int)) : List (Str × Int) := (F.zip P).flatMap fun p => (wayL L p.1.cr).zip p.2
def widthOf (L : List Ln) (c : Str) : Int := match lookL L c with | some l => l.wd | none => 0
def roomOk (L : List Ln) (G : List (Str × Int)) : Bool := G.all fun p => decide ((G.count p : Int) ≤ widthOf L p.1)
def isPlanP (L : List Ln) (F : List Fk) (P : List (List Int)) : Bool := decide (P.length = F.length) && (F.zip P).all (fun p => outOk L p.1 p.2) && roomOk L (goesIn L F P)
def isPlanD (L : List Ln) (F : List Fk) (d : D) : Bool := match d with
  | .tup xs => (match tssD xs with | some P => isPlanP L F P | none => false)
  | _ => false
def F_is_plan_of : PSp := fun ds Q _ => ∃ L F d, ds = [encLs L, encFs F, d] ∧ LanesV L ∧ (∀ f ∈ F, FkV L f) ∧ F.length ≤ 10 ∧ small3 d = true ∧ Q (.bl (isPlanD L F d))
def F_is_plan : PSp := fun ds Q E => ∃ d e x, ds = [d, e, x] ∧ small3 d = true ∧ small3 e = true ∧ small3 x = true ∧ (areLanesD d = false → E "NoLanes") ∧
  ∀ L, d = encLs L → areLanesD d = true → (areFolkD L e = false → E "NoFolk") ∧ ∀ F, e = encFs F → areFolkD L e = true → Q (.bl (isPlanD L F x))
end DL

end
section

namespace DL
open PySem L2 PyProof.Rows
/-- is_plan_of: lanes folk thing goes_in table one ticks pair -/
def t_is_plan_of (Wd : Str → List DO → Prop) : TDS :=
  sSeq (sIf (dOr (dNot (dB (dIsi DL.isTup (dVar 2)))) (dB (dOp dNe (dCB dLen (daCons (dVar 2) (daNil))) (dCB dLen (daCons (dVar 1) (daNil)))))) (sRet (dC (.bl false))) (sNext)) (sSeq (sIf (dNot (dB (dCB dAll (daCons (dComp (iZip2 (daCons (dVar 1) (daCons (dVar 2) (daNil)))) (gT 2 (gsCons (gN 5) (gsCons (gN 6) (gsNil)))) (dYes) (dOp dNotN (dCall F_comes_out (fun _ _ => False) (daCons (dVar 0) (daCons (dVar 5) (daCons (dVar 6) (daNil))))) (dC .non)) [5, 6]) (daNil))))) (sRet (dC (.bl false))) (sNext)) (sSeq (sSet 3 (dComp2 (iZip2 (daCons (dVar 1) (daCons (dVar 2) (daNil)))) (gT 2 (gsCons (gN 5) (gsCons (gN 6) (gsNil)))) (iZip2 (daCons (dCall F_way_of (fun _ _ => False) (daCons (dVar 0) (daCons (dOp dIx (dVar 5) (dC (.int 1))) (daNil)))) (daCons (dVar 6) (daNil)))) (gN 7) (dVar 7) [5, 6, 7] [7])) (sSeq (sSet 4 (dCall F_table_of Wd (daCons (dVar 0) (daNil)))) (sRet (dCB dAll (daCons (dComp (iSeq (dVar 3)) (gN 7) (dYes) (dOp dLe (dCount (dVar 3) (daCons (dVar 7) (daNil))) (dOp dIx (dOp dIx (dVar 4) (dOp dIx (dVar 7) (dC (.int 0)))) (dC (.int 1)))) [7]) (daNil)))))))
/-- is_plan: lanes folk thing -/
def t_is_plan (Wd : Str → List DO → Prop) : TDS :=
  sSeq (sExpr (dCall F_need_folk Wd (daCons (dVar 0) (daCons (dVar 1) (daNil))))) (sRet (dCall F_is_plan_of Wd (daCons (dVar 0) (daCons (dVar 1) (daCons (dVar 2) (daNil))))))
end DL

end
section

namespace DL
open PySem L2 PyProof.Rows
local macro_rules | `(tactic| walk_at "w") => `(tactic| ((conv => whnf); repeat (first | (refine br_t rfl ?_; conv => whnf) | (refine br_f rfl ?_; conv => whnf))))
theorem pair2_map {α β : Type} (f : α → D) (h : β → D) : ∀ (xs : List α) (ys : List β), pair2 (xs.map f) (ys.map h) = (xs.zip ys).map fun p => .tup [f p.1, h p.2]
  | [], ys => by simp [pair2]
  | x :: xs, [] => by simp [pair2]
  | x :: xs, y :: ys => by
    have := pair2_map f h xs ys
    unfold pair2 at this ⊢
    rw [List.map_cons, List.map_cons, List.zipWith_cons_cons, this]
    rfl
theorem pair2_mapl {α : Type} (f : α → D) (xs : List α) (ys : List D) : pair2 (xs.map f) ys = (xs.zip ys).map fun p => .tup [f p.1, p.2] := by
  have := pair2_map f id xs ys
  rwa [List.map_id] at this
/-- when all go out in time, the datum is ticks -/
theorem out_ts {L : List Ln} {f : Fk} {d : D} (h : (outD L f d).isSome = true) : ∃ ts : List Int, d = encTs ts ∧ outOk L f ts = true := by
  unfold outD at h
  split at h
  · rename_i xs
    split at h
    · rename_i hl
      split at h
      · rename_i ts et
        have := intsD_eq et
        refine ⟨ts, by rw [this]; rfl, ?_⟩
        unfold outOk
        rw [this, List.length_map] at hl
        rw [decide_eq_true hl, h]
        rfl
      · cases h
    · cases h
  · cases h
theorem out_enc {L : List Ln} {f : Fk} (ts : List Int) : (outD L f (encTs ts)).isSome = outOk L f ts := by
  show (if (ts.map D.int).length = (wayL L f.cr).length then (match intsD (ts.map D.int) with | some ts => outGo L (wayL L f.cr) ts f.sn [] | none => none) else none).isSome = _
  rw [List.length_map]
  unfold outOk
  by_cases h : ts.length = (wayL L f.cr).length
  · rw [if_pos h, decide_eq_true h]
    have : intsD (ts.map D.int) = some ts := by
      have := intsD_map (fun x : Int => x) ts
      rwa [List.map_id'] at this
    rw [this]
    rfl
  · rw [if_neg h, decide_eq_false h]
    rfl
end DL

end
section

/-! Going home by lanes: plain mathematics, no program in sight. -/
namespace MX
universe u v
variable {C : Type} {N : Type} [DecidableEq C] [DecidableEq N]
/-- who waited where from when, and went in when -/
structure Row (C : Type) where
  c : C
  s : Int
  g : Int
structure PS (C : Type) where
  cr : C
  sn : Int
  rw : List (Row C)
structure Net (C : Type) where
  home : C
  to : C → C
  lg : C → Int
def updF {α : Type} (f : N → α) (n : N) (a : α) : N → α := fun m => if m = n then a else f m
variable (G : Net C)
def waits (t : Int) (p : PS C) : Bool := decide (p.cr ≠ G.home) && decide (p.sn ≤ t)
def moved (t : Int) (p : PS C) : PS C := ⟨G.to p.cr, t + G.lg p.cr, p.rw ++ [⟨p.cr, p.sn, t⟩]⟩
def pass (t : Int) : List N → (C → Int) → (N → PS C) → (N → PS C)
  | [], _, σ => σ
  | n :: ns, lf, σ => if waits G t (σ n) = true ∧ 0 < lf (σ n).cr then pass t ns (updF lf (σ n).cr (lf (σ n).cr - 1)) (updF σ n (moved G t (σ n))) else pass t ns lf σ
/-- who goes in -/
def went (t : Int) : List N → (C → Int) → (N → PS C) → List N
  | [], _, _ => []
  | n :: ns, lf, σ => if waits G t (σ n) = true ∧ 0 < lf (σ n).cr then n :: went t ns (updF lf (σ n).cr (lf (σ n).cr - 1)) σ else went t ns lf σ
variable {G}
theorem went_sub {t : Int} {σ : N → PS C} : ∀ {ns : List N} {lf : C → Int}, ∀ n ∈ went G t ns lf σ, n ∈ ns ∧ waits G t (σ n) = true
  | [], lf, n, h => by simp [went] at h
  | m :: ns, lf, n, h => by
    rw [went] at h
    split at h
    · rename_i hw
      rcases List.mem_cons.mp h with q | q
      · subst q; exact ⟨List.mem_cons_self, hw.1⟩
      · have := went_sub n q
        exact ⟨List.mem_cons_of_mem _ this.1, this.2⟩
    · have := went_sub n h
      exact ⟨List.mem_cons_of_mem _ this.1, this.2⟩
theorem went_nodup {t : Int} {σ : N → PS C} : ∀ {ns : List N} {lf : C → Int}, ns.Nodup → (went G t ns lf σ).Nodup
  | [], lf, _ => by simp [went]
  | m :: ns, lf, h => by
    obtain ⟨h1, h2⟩ := List.nodup_cons.mp h
    rw [went]
    split
    · refine List.nodup_cons.mpr ⟨fun q => h1 (went_sub m q).1, went_nodup h2⟩
    · exact went_nodup h2
theorem went_congr {t : Int} : ∀ {ns : List N} {lf : C → Int} {σ τ : N → PS C}, (∀ n ∈ ns, σ n = τ n) → went G t ns lf σ = went G t ns lf τ
  | [], _, _, _, _ => rfl
  | n :: ns, lf, σ, τ, h => by
    have e := h n List.mem_cons_self
    rw [went, went, e, went_congr (fun m hm => h m (List.mem_cons_of_mem _ hm)), went_congr (lf := lf) (fun m hm => h m (List.mem_cons_of_mem _ hm))]
/-- one turn said at once -/
def after (G : Net C) (t : Int) (ws : List N) (σ : N → PS C) : N → PS C := fun n => if n ∈ ws then moved G t (σ n) else σ n
theorem pass_eq {t : Int} : ∀ {ns : List N} {lf : C → Int} {σ : N → PS C}, ns.Nodup → pass G t ns lf σ = after G t (went G t ns lf σ) σ
  | [], lf, σ, _ => by funext n; simp [pass, went, after]
  | m :: ns, lf, σ, h => by
    obtain ⟨h1, h2⟩ := List.nodup_cons.mp h
    rw [pass, went]
    split
    · rw [pass_eq h2]
      have e : went G t ns (updF lf (σ m).cr (lf (σ m).cr - 1)) (updF σ m (moved G t (σ m))) = went G t ns (updF lf (σ m).cr (lf (σ m).cr - 1)) σ := went_congr fun n hn => by
        unfold updF
        rw [if_neg (fun q => h1 (by rw [← q]; exact hn))]
      rw [e]
      funext n
      unfold after updF
      by_cases q : n = m
      · subst q
        have : n ∉ went G t ns (updF lf (σ n).cr (lf (σ n).cr - 1)) σ := fun z => h1 (went_sub n z).1
        rw [if_neg (by unfold updF at this; exact this)]
        simp
      · simp [q]
    · exact pass_eq h2
/-- as many go in as may -/
theorem went_count {t : Int} {σ : N → PS C} (x : C) : ∀ {ns : List N} {lf : C → Int}, 0 ≤ lf x →
    (((went G t ns lf σ).countP fun n => decide ((σ n).cr = x) : Nat) : Int) = min (lf x) ((ns.countP fun n => waits G t (σ n) && decide ((σ n).cr = x) : Nat) : Int)
  | [], lf, h => by simp [went]; omega
  | m :: ns, lf, h => by
    rw [went, List.countP_cons]
    by_cases hx : (σ m).cr = x
    · by_cases hw : waits G t (σ m) = true
      · by_cases hl : 0 < lf (σ m).cr
        · rw [if_pos ⟨hw, hl⟩, List.countP_cons]
          have := went_count (t := t) (σ := σ) x (ns := ns) (lf := updF lf (σ m).cr (lf (σ m).cr - 1)) (by unfold updF; rw [if_pos hx.symm]; omega)
          have e : updF lf (σ m).cr (lf (σ m).cr - 1) x = lf x - 1 := by unfold updF; rw [if_pos hx.symm, hx]
          rw [e] at this
          rw [hx] at hl
          simp [hx, hw] at this ⊢
          omega
        · rw [if_neg (fun q => hl q.2)]
          have := went_count (t := t) (σ := σ) x (ns := ns) (lf := lf) h
          rw [hx] at hl
          simp [hx, hw] at this ⊢
          omega
      · rw [if_neg (fun q => hw q.1)]
        have := went_count (t := t) (σ := σ) x (ns := ns) (lf := lf) h
        simp [hx, hw] at this ⊢
        omega
    · by_cases hw : waits G t (σ m) = true ∧ 0 < lf (σ m).cr
      · rw [if_pos hw, List.countP_cons]
        have e : updF lf (σ m).cr (lf (σ m).cr - 1) x = lf x := by unfold updF; rw [if_neg (fun q => hx q.symm)]
        have := went_count (t := t) (σ := σ) x (ns := ns) (lf := updF lf (σ m).cr (lf (σ m).cr - 1)) (by rw [e]; exact h)
        rw [e] at this
        simp [hx] at this ⊢
        omega
      · rw [if_neg hw]
        have := went_count (t := t) (σ := σ) x (ns := ns) (lf := lf) h
        simp [hx] at this ⊢
        omega
/-- the run -/
def runS (G : Net C) (w : Nat → C → Int) (ord : Nat → List N) (σ0 : N → PS C) : Nat → (N → PS C)
  | 0 => σ0
  | t + 1 => pass G t (ord t) (w t) (runS G w ord σ0 t)
def startS (st : N → C × Int) : N → PS C := fun n => ⟨(st n).1, (st n).2, []⟩

/-! ### chains of rows -/
/-- from a crossing and a tick by rows to a crossing and a tick -/
def chain (G : Net C) : C → Int → List (Row C) → C → Int → Prop
  | c, s, [], c', s' => c = c' ∧ s = s'
  | c, s, r :: rs, c', s' => r.c = c ∧ c ≠ G.home ∧ r.s = s ∧ s ≤ r.g ∧ chain G (G.to c) (r.g + G.lg c) rs c' s'
theorem chain_snoc {c' : C} {s' t : Int} (hc : c' ≠ G.home) (ht : s' ≤ t) : ∀ {rs : List (Row C)} {c : C} {s : Int}, chain G c s rs c' s' → chain G c s (rs ++ [⟨c', s', t⟩]) (G.to c') (t + G.lg c')
  | [], c, s, h => by
    obtain ⟨h1, h2⟩ := h
    subst h1 h2
    exact ⟨rfl, hc, rfl, ht, rfl, rfl⟩
  | r :: rs, c, s, h => by
    obtain ⟨h1, h2, h3, h4, h5⟩ := h
    exact ⟨h1, h2, h3, h4, chain_snoc hc ht h5⟩
def arrB (x : C) (t : Int) (r : Row C) : Bool := decide (r.c = x) && decide (r.s ≤ t)
def gonB (x : C) (t : Int) (r : Row C) : Bool := decide (r.c = x) && decide (r.g < t)
/-- comes out to x by t -/
def outB (G : Net C) (x : C) (t : Int) (r : Row C) : Bool := decide (G.to r.c = x) && decide (r.g + G.lg r.c ≤ t)
def hereN (x : C) (t : Int) (c : C) (s : Int) : Nat := if c = x ∧ s ≤ t then 1 else 0
/-- who was at x by t: from the start, or come out there -/
theorem chain_arr (x : C) (t : Int) : ∀ {rs : List (Row C)} {c c' : C} {s s' : Int}, chain G c s rs c' s' →
    rs.countP (arrB x t) + hereN x t c' s' = hereN x t c s + rs.countP (outB G x t)
  | [], c, c', s, s', h => by
    obtain ⟨h1, h2⟩ := h
    subst h1 h2
    simp
  | r :: rs, c, c', s, s', h => by
    obtain ⟨h1, h2, h3, h4, h5⟩ := h
    have ih := chain_arr x t h5
    rw [List.countP_cons, List.countP_cons]
    have e1 : (if arrB x t r = true then 1 else 0) = hereN x t c s := by
      unfold arrB hereN
      rw [h1, h3]
      by_cases q : c = x <;> by_cases q2 : s ≤ t <;> simp [q, q2]
    have e2 : (if outB G x t r = true then 1 else 0) = hereN x t (G.to c) (r.g + G.lg c) := by
      unfold outB hereN
      rw [h1]
      by_cases q : G.to c = x <;> by_cases q2 : r.g + G.lg c ≤ t <;> simp [q, q2]
    rw [e1, e2]
    omega
theorem chain_le {rs : List (Row C)} : ∀ {c c' : C} {s s' : Int}, chain G c s rs c' s' → ∀ r ∈ rs, r.s ≤ r.g ∧ r.c ≠ G.home := by
  induction rs with
  | nil => intro c c' s s' _ r hr; simp at hr
  | cons q rs ih =>
    intro c c' s s' h r hr
    obtain ⟨h1, h2, h3, h4, h5⟩ := h
    rcases List.mem_cons.mp hr with e | e
    · subst e; exact ⟨by omega, by rw [h1]; exact h2⟩
    · exact ih h5 r e
/-- waits and lengths together are the ticks from the start to the end -/
theorem chain_sum : ∀ {rs : List (Row C)} {c c' : C} {s s' : Int}, chain G c s rs c' s' → s' = s + (rs.map fun r => r.g - r.s).sum + (rs.map fun r => G.lg r.c).sum
  | [], c, c', s, s', h => by
    obtain ⟨h1, h2⟩ := h
    simp; omega
  | r :: rs, c, c', s, s', h => by
    obtain ⟨h1, h2, h3, h4, h5⟩ := h
    have ih := chain_sum h5
    simp only [List.map_cons, List.sum_cons]
    rw [h1, h3]
    omega
end MX

end
section

namespace MX
variable {C : Type} {N N' : Type} [DecidableEq C]
/-! ### sums -/
def sm {α : Type} (xs : List α) (f : α → Nat) : Nat := (xs.map f).sum
theorem sm_nil {α : Type} (f : α → Nat) : sm [] f = 0 := rfl
theorem sm_cons {α : Type} (x : α) (xs : List α) (f : α → Nat) : sm (x :: xs) f = f x + sm xs f := by simp [sm]
theorem sm_app {α : Type} (xs ys : List α) (f : α → Nat) : sm (xs ++ ys) f = sm xs f + sm ys f := by simp [sm]
theorem sm_add {α : Type} (f g : α → Nat) : ∀ xs : List α, sm xs (fun x => f x + g x) = sm xs f + sm xs g
  | [] => rfl
  | x :: xs => by rw [sm_cons, sm_cons, sm_cons, sm_add f g xs]; omega
theorem sm_congr {α : Type} {f g : α → Nat} : ∀ {xs : List α}, (∀ x ∈ xs, f x = g x) → sm xs f = sm xs g
  | [], _ => rfl
  | x :: xs, h => by rw [sm_cons, sm_cons, h x List.mem_cons_self, sm_congr fun y hy => h y (List.mem_cons_of_mem _ hy)]
theorem sm_le {α : Type} {f g : α → Nat} : ∀ {xs : List α}, (∀ x ∈ xs, f x ≤ g x) → sm xs f ≤ sm xs g
  | [], _ => Nat.le_refl _
  | x :: xs, h => by
    rw [sm_cons, sm_cons]
    have := h x List.mem_cons_self
    have := sm_le (xs := xs) fun y hy => h y (List.mem_cons_of_mem _ hy)
    omega
theorem sm_zero {α : Type} {f : α → Nat} {xs : List α} (h : ∀ x ∈ xs, f x = 0) : sm xs f = 0 := by
  rw [sm_congr (g := fun _ => 0) h]
  induction xs with
  | nil => rfl
  | cons x xs ih => rw [sm_cons, ih fun y hy => h y (List.mem_cons_of_mem _ hy)]
theorem sm_swap {α β : Type} (f : α → β → Nat) (ys : List β) : ∀ xs : List α, sm xs (fun x => sm ys (f x)) = sm ys (fun y => sm xs fun x => f x y)
  | [] => by rw [sm_nil, sm_zero]; intro y _; rfl
  | x :: xs => by
    rw [sm_cons, sm_swap f ys xs, ← sm_add]
    exact sm_congr fun y _ => by rw [sm_cons]
theorem sm_perm {α : Type} {f : α → Nat} {xs ys : List α} (h : xs.Perm ys) : sm xs f = sm ys f := (h.map f).sum_nat
theorem sm_one {α : Type} [DecidableEq α] (a : α) (k : Nat) : ∀ {xs : List α}, xs.Nodup → sm xs (fun x => if x = a then k else 0) = if a ∈ xs then k else 0
  | [], _ => by simp [sm]
  | x :: xs, h => by
    obtain ⟨h1, h2⟩ := List.nodup_cons.mp h
    rw [sm_cons, sm_one a k h2]
    by_cases q : x = a
    · subst q
      simp [h1]
    · have q' : ¬ a = x := fun z => q z.symm
      simp [q, q']
theorem sm_countP {α : Type} (p : α → Bool) : ∀ xs : List α, sm xs (fun x => if p x = true then 1 else 0) = xs.countP p
  | [] => rfl
  | x :: xs => by rw [sm_cons, List.countP_cons, sm_countP p xs]; omega
theorem sm_filter {α : Type} (p : α → Bool) (f : α → Nat) : ∀ xs : List α, sm (xs.filter p) f = sm xs fun x => if p x = true then f x else 0
  | [] => rfl
  | x :: xs => by
    rw [List.filter_cons, sm_cons]
    by_cases h : p x = true
    · rw [if_pos h, sm_cons, sm_filter p f xs, if_pos h]
    · rw [if_neg h, sm_filter p f xs, if_neg h]; omega
/-- those from which a lane leads to x -/
def into (G : Net C) (cs : List C) (x : C) : List C := cs.filter fun y => decide (G.to y = x)
theorem out_rows (G : Net C) {cs : List C} (nd : cs.Nodup) (x : C) (t : Int) : ∀ {rs : List (Row C)}, (∀ r ∈ rs, r.c ∈ cs) →
    rs.countP (outB G x t) = sm (into G cs x) fun y => rs.countP (gonB y (t + 1 - G.lg y))
  | [], _ => by rw [sm_zero]; rfl; intro y _; rfl
  | r :: rs, h => by
    have ih := out_rows G nd x t (rs := rs) fun q hq => h q (List.mem_cons_of_mem _ hq)
    have e : (fun y => (r :: rs).countP (gonB y (t + 1 - G.lg y))) = fun y => rs.countP (gonB y (t + 1 - G.lg y)) + (if y = r.c then (if r.g + G.lg r.c ≤ t then 1 else 0) else 0) := by
      funext y
      rw [List.countP_cons]
      congr 1
      unfold gonB
      by_cases q : r.c = y
      · subst q
        by_cases q2 : r.g + G.lg r.c ≤ t
        · have : r.g < t + 1 - G.lg r.c := by omega
          simp [q2, this]
        · have : ¬ r.g < t + 1 - G.lg r.c := by omega
          simp [q2, this]
      · have q' : ¬ y = r.c := fun z => q z.symm
        simp [q, q']
    rw [e, sm_add, ← ih, List.countP_cons]
    congr 1
    unfold into
    rw [sm_one _ _ (nd.filter _)]
    have hr := h r List.mem_cons_self
    unfold outB
    by_cases q : G.to r.c = x <;> by_cases q2 : r.g + G.lg r.c ≤ t <;> simp [q, q2, hr]
def EE (ns : List N) (R : N → List (Row C)) (x : C) (t : Int) : Nat := sm ns fun n => (R n).countP (gonB x t)
def AA (ns : List N) (R : N → List (Row C)) (x : C) (t : Int) : Nat := sm ns fun n => (R n).countP (arrB x t)
def SS (ns : List N) (st : N → C × Int) (x : C) (t : Int) : Nat := sm ns fun n => hereN x t (st n).1 (st n).2
def HH (ns : List N) (h : N → Int) (t : Int) : Nat := ns.countP fun n => decide (h n ≤ t)
def atB (x : C) (t : Int) (r : Row C) : Bool := decide (r.c = x) && decide (r.g = t)
/-- how many go in at x at t -/
def GG (ns : List N) (R : N → List (Row C)) (x : C) (t : Int) : Nat := sm ns fun n => (R n).countP (atB x t)
/-- everybody goes home by rows -/
structure Sys (G : Net C) (cs : List C) (ns : List N) (st : N → C × Int) (R : N → List (Row C)) (h : N → Int) : Prop where
  nd : cs.Nodup
  hm : G.home ∉ cs
  lg : ∀ x ∈ cs, 1 ≤ G.lg x
  s0 : ∀ n ∈ ns, 0 ≤ (st n).2
  ch : ∀ n ∈ ns, chain G (st n).1 (st n).2 (R n) G.home (h n)
  inn : ∀ n ∈ ns, ∀ r ∈ R n, r.c ∈ cs
  sc : ∀ n ∈ ns, (st n).1 ∈ cs
variable {G : Net C} {cs : List C} {ns : List N} {st : N → C × Int} {R : N → List (Row C)} {h : N → Int}
theorem outs (nd : cs.Nodup) (inn : ∀ n ∈ ns, ∀ r ∈ R n, r.c ∈ cs) (x : C) (t : Int) : (sm ns fun n => (R n).countP (outB G x t)) = sm (into G cs x) fun y => EE ns R y (t + 1 - G.lg y) := by
  unfold EE
  rw [← sm_swap]
  exact sm_congr fun n hn => out_rows G nd x t (inn n hn)
theorem Sys.arr (S : Sys G cs ns st R h) {x : C} (hx : x ∈ cs) (t : Int) : AA ns R x t = SS ns st x t + sm (into G cs x) fun y => EE ns R y (t + 1 - G.lg y) := by
  rw [← outs S.nd S.inn, SS, AA, ← sm_add]
  refine sm_congr fun n hn => ?_
  have := chain_arr x t (S.ch n hn)
  have e : hereN x t G.home (h n) = 0 := by
    unfold hereN
    rw [if_neg]
    intro q
    exact S.hm (by rw [q.1]; exact hx)
  omega
theorem Sys.home (S : Sys G cs ns st R h) (t : Int) : HH ns h t = sm (into G cs G.home) fun y => EE ns R y (t + 1 - G.lg y) := by
  rw [← outs S.nd S.inn, HH, ← sm_countP]
  refine sm_congr fun n hn => ?_
  have := chain_arr G.home t (S.ch n hn)
  have e : hereN G.home t (st n).1 (st n).2 = 0 := by
    unfold hereN
    rw [if_neg]
    intro q
    exact S.hm (by rw [← q.1]; exact S.sc n hn)
  have e2 : (R n).countP (arrB G.home t) = 0 := by
    rw [List.countP_eq_zero]
    intro r hr
    have := S.inn n hn r hr
    unfold arrB
    have : ¬ r.c = G.home := fun q => S.hm (by rw [← q]; exact this)
    simp [this]
  have e3 : hereN G.home t G.home (h n) = if decide (h n ≤ t) = true then 1 else 0 := by
    unfold hereN; simp
  omega
theorem chain_ge {rs : List (Row C)} : ∀ {c c' : C} {s s' : Int}, (∀ r ∈ rs, 0 ≤ G.lg r.c) → chain G c s rs c' s' → (∀ r ∈ rs, s ≤ r.s) ∧ s ≤ s' := by
  induction rs with
  | nil => intro c c' s s' _ h; obtain ⟨h1, h2⟩ := h; exact ⟨by simp, by omega⟩
  | cons q rs ih =>
    intro c c' s s' hl h
    obtain ⟨h1, h2, h3, h4, h5⟩ := h
    have i := ih (fun r hr => hl r (List.mem_cons_of_mem _ hr)) h5
    have l := hl q List.mem_cons_self
    rw [h1] at l
    refine ⟨fun r hr => ?_, by omega⟩
    rcases List.mem_cons.mp hr with e | e
    · subst e; omega
    · have := i.1 r e; omega
theorem Sys.pos (S : Sys G cs ns st R h) : ∀ n ∈ ns, ∀ r ∈ R n, 0 ≤ r.s ∧ r.s ≤ r.g := fun n hn r hr => by
  have h1 := chain_ge (fun r hr => by have := S.lg _ (S.inn n hn r hr); omega) (S.ch n hn)
  have h2 := chain_le (S.ch n hn) r hr
  have := S.s0 n hn
  have := h1.1 r hr
  exact ⟨by omega, h2.1⟩
theorem Sys.E0 (S : Sys G cs ns st R h) (x : C) {t : Int} (ht : t ≤ 0) : EE ns R x t = 0 := by
  refine sm_zero fun n hn => List.countP_eq_zero.mpr fun r hr => ?_
  have := S.pos n hn r hr
  unfold gonB
  have : ¬ r.g < t := by omega
  simp [this]
theorem E_step (x : C) (t : Int) : EE ns R x (t + 1) = EE ns R x t + GG ns R x t := by
  unfold EE GG
  rw [← sm_add]
  refine sm_congr fun n _ => ?_
  induction R n with
  | nil => rfl
  | cons r rs ih =>
    rw [List.countP_cons, List.countP_cons, List.countP_cons, ih]
    have e : (if gonB x (t + 1) r = true then 1 else 0) = (if gonB x t r = true then 1 else 0) + (if atB x t r = true then 1 else 0) := by
      unfold gonB atB
      by_cases q : r.c = x
      · by_cases q2 : r.g < t
        · have a : r.g < t + 1 := by omega
          have b : ¬ r.g = t := by omega
          simp [q, q2, a, b]
        · by_cases q3 : r.g = t
          · subst q3; simp [q]; omega
          · have a : ¬ r.g < t + 1 := by omega
            simp [q, q2, q3, a]
      · simp [q]
    omega
theorem E_mono (x : C) {t t' : Int} (ht : t ≤ t') : EE ns R x t ≤ EE ns R x t' := by
  refine sm_le fun n _ => List.countP_mono_left fun r _ hr => ?_
  unfold gonB at *
  simp at hr ⊢
  exact ⟨hr.1, by omega⟩
/-- none goes in who has not come -/
theorem Sys.E_le_A (S : Sys G cs ns st R h) (x : C) (t : Int) : EE ns R x (t + 1) ≤ AA ns R x t := by
  refine sm_le fun n hn => List.countP_mono_left fun r hr hq => ?_
  have := S.pos n hn r hr
  unfold gonB at hq
  unfold arrB
  simp at hq ⊢
  exact ⟨hq.1, by omega⟩
/-- a plan: no lane lets in more than its width -/
def Fits (cs : List C) (w : C → Int) (ns : List N) (R : N → List (Row C)) : Prop := ∀ x ∈ cs, ∀ t, ((GG ns R x t : Nat) : Int) ≤ w x
/-- whoever waits goes as soon as can be -/
def Full (cs : List C) (w : C → Int) (ns : List N) (R : N → List (Row C)) : Prop := ∀ x ∈ cs, ∀ t : Int, 0 ≤ t → ((EE ns R x (t + 1) : Nat) : Int) = min ((EE ns R x t : Nat) + w x) (AA ns R x t : Nat)
theorem cmp (cs : List C) (to : C → C) (home : C) (l1 l2 w1 w2 : C → Int) (e1 e2 s1 s2 : C → Int → Nat) (hl1 : ∀ x ∈ cs, 1 ≤ l1 x) (hl : ∀ x ∈ cs, l2 x ≤ l1 x) (hw : ∀ x ∈ cs, w1 x ≤ w2 x)
    (hs : ∀ x ∈ cs, ∀ t, s1 x t ≤ s2 x t) (z1 : ∀ x ∈ cs, ∀ t, t ≤ 0 → e1 x t = 0) (m2 : ∀ x ∈ cs, ∀ t t', t ≤ t' → e2 x t ≤ e2 x t')
    (u1 : ∀ x ∈ cs, ∀ t : Int, 0 ≤ t → (e1 x (t + 1) : Int) ≤ e1 x t + w1 x) (v1 : ∀ x ∈ cs, ∀ t : Int, 0 ≤ t → e1 x (t + 1) ≤ s1 x t + sm (cs.filter fun y => decide (to y = x)) fun y => e1 y (t + 1 - l1 y))
    (g2 : ∀ x ∈ cs, ∀ t : Int, 0 ≤ t → (e2 x (t + 1) : Int) = min (e2 x t + w2 x) ((s2 x t + sm (cs.filter fun y => decide (to y = x)) fun y => e2 y (t + 1 - l2 y) : Nat) : Int)) :
    ∀ x ∈ cs, ∀ t, e1 x t ≤ e2 x t := by
  have key : ∀ k : Nat, ∀ x ∈ cs, ∀ t : Int, t ≤ k → e1 x t ≤ e2 x t := by
    intro k
    induction k with
    | zero => intro x hx t ht; rw [z1 x hx t (by simpa using ht)]; exact Nat.zero_le _
    | succ k ih =>
      intro x hx t ht
      by_cases hk : t ≤ k
      · exact ih x hx t hk
      · have e : t = (k : Int) + 1 := by omega
        subst e
        have a := u1 x hx k (by omega)
        have b := v1 x hx k (by omega)
        have c := g2 x hx k (by omega)
        have i1 := ih x hx k (Int.le_refl _)
        have i2 := hw x hx
        have i3 := hs x hx k
        have i4 : sm (cs.filter fun y => decide (to y = x)) (fun y => e1 y ((k : Int) + 1 - l1 y)) ≤ sm (cs.filter fun y => decide (to y = x)) (fun y => e2 y ((k : Int) + 1 - l2 y)) := by
          refine sm_le fun y hy => ?_
          have hy := (List.mem_filter.mp hy).1
          have h1 := hl1 y hy
          have h2 := hl y hy
          exact Nat.le_trans (ih y hy _ (by omega)) (m2 y hy _ _ (by omega))
        omega
  intro x hx t
  exact key t.toNat x hx t (by omega)
variable {ns' : List N'} {st' : N' → C × Int} {R' : N' → List (Row C)} {h' : N' → Int} {w w' : C → Int} {G' : Net C}
/-- nobody brings more home than those who all go as soon as can be -/
theorem home_le (hto : G'.to = G.to) (hho : G'.home = G.home) (S : Sys G cs ns st R h) (F : Fits cs w ns R) (S' : Sys G' cs ns' st' R' h') (F' : Full cs w' ns' R') (hl : ∀ x ∈ cs, G'.lg x ≤ G.lg x) (hw : ∀ x ∈ cs, w x ≤ w' x)
    (hs : ∀ x ∈ cs, ∀ t, SS ns st x t ≤ SS ns' st' x t) : (∀ x ∈ cs, ∀ t, EE ns R x t ≤ EE ns' R' x t) ∧ ∀ t, HH ns h t ≤ HH ns' h' t := by
  have key := cmp cs G.to G.home G.lg G'.lg w w' (EE ns R) (EE ns' R') (SS ns st) (SS ns' st') S.lg hl hw hs (fun x _ t ht => S.E0 x ht) (fun x _ t t' ht => E_mono x ht)
    (fun x hx t ht => by rw [E_step]; have := F x hx t; omega)
    (fun x hx t ht => by have := S.E_le_A x t; rw [S.arr hx] at this; exact this)
    (fun x hx t ht => by have := F' x hx t ht; rw [S'.arr hx, into, hto] at this; exact this)
  refine ⟨key, fun t => ?_⟩
  rw [S.home, S'.home, hho]
  unfold into
  rw [hto]
  refine sm_le fun y hy => ?_
  have hy := (List.mem_filter.mp hy).1
  exact Nat.le_trans (key y hy _) (E_mono y (by have := hl y hy; omega))
theorem Full.fits (F : Full cs w ns R) (S : Sys G cs ns st R h) (hw : ∀ x ∈ cs, 0 ≤ w x) : Fits cs w ns R := fun x hx t => by
  by_cases ht : 0 ≤ t
  · have := F x hx t ht
    rw [E_step] at this
    omega
  · have a := S.E0 x (t := t + 1) (by omega)
    have b := E_step (ns := ns) (R := R) x t
    have := hw x hx
    omega
end MX

end
section

namespace MX
variable {C : Type} {N : Type} [DecidableEq C] [DecidableEq N]
variable {G : Net C} {cs : List C} {ns : List N} {st : N → C × Int} {w : Nat → C → Int} {ord : Nat → List N}
/-- what a run needs -/
structure Ground (G : Net C) (cs : List C) : Prop where
  nd : cs.Nodup
  hm : G.home ∉ cs
  lg : ∀ x ∈ cs, 1 ≤ G.lg x
  to : ∀ x ∈ cs, G.to x ∈ cs ∨ G.to x = G.home
structure Runs (G : Net C) (cs : List C) (ns : List N) (st : N → C × Int) (w : Nat → C → Int) (ord : Nat → List N) : Prop where
  gr : Ground G cs
  nn : ns.Nodup
  pm : ∀ t, (ord t).Perm ns
  wd : ∀ t, ∀ x ∈ cs, 0 ≤ w t x
  s0 : ∀ n ∈ ns, 0 ≤ (st n).2
  sc : ∀ n ∈ ns, (st n).1 ∈ cs
abbrev rn (G : Net C) (w : Nat → C → Int) (ord : Nat → List N) (st : N → C × Int) (t : Nat) : N → PS C := runS G w ord (startS st) t
theorem Runs.on (S : Runs G cs ns st w ord) (t : Nat) : (ord t).Nodup := (S.pm t).nodup_iff.mpr S.nn
theorem rn_succ (S : Runs G cs ns st w ord) (t : Nat) (n : N) : rn G w ord st (t + 1) n = if n ∈ went G t (ord t) (w t) (rn G w ord st t) then moved G t (rn G w ord st t n) else rn G w ord st t n := by
  show pass G t (ord t) (w t) (rn G w ord st t) n = _
  rw [pass_eq (S.on t)]
  rfl
/-- what is so of each at t -/
structure At (G : Net C) (cs : List C) (st : C × Int) (t : Int) (p : PS C) : Prop where
  ch : chain G st.1 st.2 p.rw p.cr p.sn
  gt : ∀ r ∈ p.rw, r.g < t
  inn : ∀ r ∈ p.rw, r.c ∈ cs
  cr : p.cr ∈ cs ∨ p.cr = G.home
theorem at_run (S : Runs G cs ns st w ord) : ∀ t : Nat, ∀ n ∈ ns, At G cs (st n) t (rn G w ord st t n)
  | 0, n, hn => ⟨⟨rfl, rfl⟩, (fun r hr => by cases hr), (fun r hr => by cases hr), .inl (S.sc n hn)⟩
  | t + 1, n, hn => by
    have ih := at_run S t n hn
    rw [rn_succ S]
    split
    · rename_i hw
      have hw := (went_sub n hw).2
      unfold waits at hw
      simp at hw
      have hc : (rn G w ord st t n).cr ∈ cs := ih.cr.resolve_right hw.1
      refine ⟨chain_snoc hw.1 hw.2 ih.ch, fun r hr => ?_, fun r hr => ?_, S.gr.to _ hc⟩
      · rcases List.mem_append.mp hr with q | q
        · have := ih.gt r q; omega
        · simp at q; subst q; show (t : Int) < _; omega
      · rcases List.mem_append.mp hr with q | q
        · exact ih.inn r q
        · simp at q; subst q; exact hc
    · exact ⟨ih.ch, fun r hr => by have := ih.gt r hr; omega, ih.inn, ih.cr⟩
/-- who is home stays so -/
theorem home_stays (S : Runs G cs ns st w ord) {t : Nat} {n : N} (h : (rn G w ord st t n).cr = G.home) : ∀ k : Nat, rn G w ord st (t + k) n = rn G w ord st t n
  | 0 => rfl
  | k + 1 => by
    have ih := home_stays S h k
    rw [← Nat.add_assoc, rn_succ S, ih]
    split
    · rename_i q
      have := (went_sub n q).2
      rw [ih] at this
      unfold waits at this
      simp [h] at this
    · rfl
def Fut (G : Net C) (t : Int) (p : PS C) (rest : List (Row C)) : Prop := (p.cr = G.home ∧ rest = []) ∨ (p.cr ≠ G.home ∧ ∃ g r', rest = ⟨p.cr, p.sn, g⟩ :: r' ∧ t ≤ g ∧ ∀ r ∈ r', t < r.s ∧ t ≤ r.g)
theorem fut_run (S : Runs G cs ns st w ord) {T : Nat} (hT : ∀ n ∈ ns, (rn G w ord st T n).cr = G.home) : ∀ (k t : Nat), t + k = T → ∀ n ∈ ns, ∃ rest, (rn G w ord st T n).rw = (rn G w ord st t n).rw ++ rest ∧ Fut G t (rn G w ord st t n) rest
  | 0, t, e, n, hn => by
    have e : t = T := by omega
    subst e
    exact ⟨[], by simp, .inl ⟨hT n hn, rfl⟩⟩
  | k + 1, t, e, n, hn => by
    obtain ⟨rest, e1, f⟩ := fut_run S hT k (t + 1) (by omega) n hn
    rw [rn_succ S] at e1 f
    split at e1
    · rename_i hw
      rw [if_pos hw] at f
      have hw := (went_sub n hw).2
      unfold waits at hw
      simp at hw
      refine ⟨⟨(rn G w ord st t n).cr, (rn G w ord st t n).sn, t⟩ :: rest, by rw [e1]; simp [moved], .inr ⟨hw.1, t, rest, rfl, Int.le_refl _, ?_⟩⟩
      rcases f with ⟨_, f2⟩ | ⟨f1, g, r', f2, f3, f4⟩
      · subst f2; intro r hr; simp at hr
      · subst f2
        intro r hr
        rcases List.mem_cons.mp hr with q | q
        · subst q
          show (t : Int) < (t : Int) + G.lg _ ∧ (t : Int) ≤ g
          have := S.gr.lg _ ((at_run S t n hn).cr.resolve_right hw.1)
          omega
        · have := f4 r q; omega
    · rename_i hw
      rw [if_neg hw] at f
      refine ⟨rest, e1, ?_⟩
      rcases f with f | ⟨f1, g, r', f2, f3, f4⟩
      · exact .inl f
      · exact .inr ⟨f1, g, r', f2, by omega, fun r hr => by have := f4 r hr; omega⟩
theorem sm_in {α : Type} [DecidableEq α] {ws : List α} (P : α → Bool) (nw : ws.Nodup) {o : List α} (no : o.Nodup) (hs : ∀ n ∈ ws, n ∈ o) : sm o (fun n => if n ∈ ws ∧ P n = true then 1 else 0) = ws.countP P := by
  rw [← sm_countP]
  have e : sm o (fun n => if n ∈ ws ∧ P n = true then 1 else 0) = sm (o.filter fun n => decide (n ∈ ws)) fun n => if P n = true then 1 else 0 := by
    rw [sm_filter]
    refine sm_congr fun n _ => ?_
    by_cases a : n ∈ ws <;> by_cases b : P n = true <;> simp [a, b]
  rw [e]
  refine sm_perm ((List.perm_ext_iff_of_nodup (no.filter _) nw).mpr fun n => ?_)
  simp
  exact fun h => hs n h
def isAt (x : C) (r : Row C) : Bool := decide (r.c = x)
section
variable (S : Runs G cs ns st w ord) {T : Nat} (hT : ∀ n ∈ ns, (rn G w ord st T n).cr = G.home)
include S hT
theorem run_E {t : Nat} (ht : t ≤ T) (x : C) : EE ns (fun n => (rn G w ord st T n).rw) x t = sm ns fun n => (rn G w ord st t n).rw.countP (isAt x) := by
  refine sm_congr fun n hn => ?_
  obtain ⟨rest, e, f⟩ := fut_run S hT (T - t) t (by omega) n hn
  have a := at_run S t n hn
  dsimp only
  rw [e, List.countP_append]
  have e1 : rest.countP (gonB x t) = 0 := by
    rw [List.countP_eq_zero]
    intro r hr
    have : (t : Int) ≤ r.g := by
      rcases f with ⟨_, f⟩ | ⟨_, g, r', f2, f3, f4⟩
      · subst f; simp at hr
      · subst f2
        rcases List.mem_cons.mp hr with q | q
        · subst q; exact f3
        · exact (f4 r q).2
    unfold gonB
    have : ¬ r.g < t := by omega
    simp [this]
  have e2 : (rn G w ord st t n).rw.countP (gonB x t) = (rn G w ord st t n).rw.countP (isAt x) := by
    refine List.countP_congr fun r hr => ?_
    have := a.gt r hr
    unfold gonB isAt
    simp [this]
  omega
theorem run_A {t : Nat} (ht : t ≤ T) {x : C} (hx : x ≠ G.home) : AA ns (fun n => (rn G w ord st T n).rw) x t = EE ns (fun n => (rn G w ord st T n).rw) x t + ns.countP fun n => waits G t (rn G w ord st t n) && decide ((rn G w ord st t n).cr = x) := by
  rw [run_E S hT ht, ← sm_countP, ← sm_add]
  refine sm_congr fun n hn => ?_
  obtain ⟨rest, e, f⟩ := fut_run S hT (T - t) t (by omega) n hn
  have a := at_run S t n hn
  have pos : ∀ r ∈ (rn G w ord st t n).rw, r.s ≤ r.g := fun r hr => (chain_le a.ch r hr).1
  dsimp only
  rw [e, List.countP_append]
  have e2 : (rn G w ord st t n).rw.countP (arrB x t) = (rn G w ord st t n).rw.countP (isAt x) := by
    refine List.countP_congr fun r hr => ?_
    have := a.gt r hr
    have := pos r hr
    have : r.s ≤ t := by omega
    unfold arrB isAt
    simp [this]
  rw [e2]
  congr 1
  rcases f with ⟨f1, f⟩ | ⟨f1, g, r', f2, f3, f4⟩
  · subst f
    have : ¬ G.home = x := fun q => hx q.symm
    simp [f1, this, waits]
  · subst f2
    rw [List.countP_cons]
    have : r'.countP (arrB x t) = 0 := by
      rw [List.countP_eq_zero]
      intro r hr
      have := (f4 r hr).1
      have : ¬ r.s ≤ t := by omega
      unfold arrB
      simp [this]
    rw [this]
    unfold arrB waits
    by_cases q : (rn G w ord st t n).cr = x <;> by_cases q2 : (rn G w ord st t n).sn ≤ t <;> simp [q, q2, f1, hx]
theorem run_G {t : Nat} (ht : t < T) (x : C) (hx : x ∈ cs) : ((GG ns (fun n => (rn G w ord st T n).rw) x t : Nat) : Int) = min (w t x) ((ns.countP fun n => waits G t (rn G w ord st t n) && decide ((rn G w ord st t n).cr = x) : Nat) : Int) := by
  have a := run_E S hT (t := t + 1) (by omega) x
  have b := run_E S hT (t := t) (by omega) x
  have c := E_step (ns := ns) (R := fun n => (rn G w ord st T n).rw) x t
  have e : sm ns (fun n => (rn G w ord st (t + 1) n).rw.countP (isAt x)) = sm ns (fun n => (rn G w ord st t n).rw.countP (isAt x)) + (went G t (ord t) (w t) (rn G w ord st t)).countP fun n => decide ((rn G w ord st t n).cr = x) := by
    rw [← sm_in _ (went_nodup (S.on t)) S.nn (fun n hn => (S.pm t).mem_iff.mp (went_sub n hn).1), ← sm_add]
    refine sm_congr fun n hn => ?_
    rw [rn_succ S]
    by_cases q : n ∈ went G t (ord t) (w t) (rn G w ord st t)
    · rw [if_pos q]
      unfold moved
      rw [List.countP_append]
      by_cases q2 : (rn G w ord st t n).cr = x <;> simp [q, q2, isAt]
    · rw [if_neg q]; simp [q]
  have k := went_count (G := G) (t := t) (σ := rn G w ord st t) x (ns := ord t) (lf := w t) (S.wd t x hx)
  have k2 : (ord t).countP (fun n => waits G t (rn G w ord st t n) && decide ((rn G w ord st t n).cr = x)) = ns.countP fun n => waits G t (rn G w ord st t n) && decide ((rn G w ord st t n).cr = x) := (S.pm t).countP_eq _
  rw [k2] at k
  have c' : (((t + 1 : Nat) : Int)) = (t : Int) + 1 := by omega
  rw [c'] at a
  omega
/-- no row at T or later -/
theorem run_G0 {t : Int} (ht : (T : Int) ≤ t ∨ t < 0) (x : C) : GG ns (fun n => (rn G w ord st T n).rw) x t = 0 := by
  refine sm_zero fun n hn => List.countP_eq_zero.mpr fun r hr => ?_
  have a := at_run S T n hn
  have := a.gt r hr
  have b := (chain_ge (fun r hr => by have := S.gr.lg _ (a.inn r hr); omega) a.ch).1 r hr
  have c := (chain_le a.ch r hr).1
  have d := S.s0 n hn
  unfold atB
  have : ¬ r.g = t := by omega
  simp [this]
theorem run_sys : Sys G cs ns st (fun n => (rn G w ord st T n).rw) (fun n => (rn G w ord st T n).sn) where
  nd := S.gr.nd
  hm := S.gr.hm
  lg := S.gr.lg
  s0 := S.s0
  ch := fun n hn => by have := (at_run S T n hn).ch; rwa [hT n hn] at this
  inn := fun n hn => (at_run S T n hn).inn
  sc := S.sc
/-- held back or not: it fits -/
theorem run_fits {wd : C → Int} (hw : ∀ t, ∀ x ∈ cs, w t x ≤ wd x) : Fits cs wd ns (fun n => (rn G w ord st T n).rw) := fun x hx t => by
  have := hw 0 x hx
  have := S.wd 0 x hx
  by_cases h : (T : Int) ≤ t ∨ t < 0
  · rw [run_G0 S hT h]; simp; omega
  · have e : ((t.toNat : Nat) : Int) = t := by omega
    have := run_G S hT (t := t.toNat) (by omega) x hx
    rw [e] at this
    have := hw t.toNat x hx
    omega
/-- not held back: all go as soon as can be -/
theorem run_full {wd : C → Int} (hw : ∀ t, ∀ x ∈ cs, w t x = wd x) : Full cs wd ns (fun n => (rn G w ord st T n).rw) := fun x hx t ht => by
  have hxh : x ≠ G.home := fun q => S.gr.hm (by rw [← q]; exact hx)
  have w0 := S.wd 0 x hx
  rw [hw 0 x hx] at w0
  by_cases h : t < T
  · have e : ((t.toNat : Nat) : Int) = t := by omega
    have a := run_G S hT (t := t.toNat) (by omega) x hx
    have b := run_A S hT (t := t.toNat) (by omega) hxh
    rw [e] at a b
    rw [E_step, hw _ _ hx] at *
    omega
  · have a := run_G0 S hT (t := t) (.inl (by omega)) x
    rw [E_step, a]
    have b := (run_sys S hT).E_le_A x t
    rw [E_step, a] at b
    have c : AA ns (fun n => (rn G w ord st T n).rw) x t ≤ EE ns (fun n => (rn G w ord st T n).rw) x t := by
      refine sm_le fun n hn => List.countP_mono_left fun r hr hq => ?_
      have := (at_run S T n hn).gt r hr
      have : r.g < t := by omega
      unfold arrB at hq
      unfold gonB
      simp at hq ⊢
      exact ⟨hq.1, this⟩
    omega
end
/-! ### the first of an order, as if alone -/
theorem went_app {t : Int} {σ : N → PS C} : ∀ (a b : List N) (lf : C → Int), ∃ lf', went G t (a ++ b) lf σ = went G t a lf σ ++ went G t b lf' σ
  | [], b, lf => ⟨lf, rfl⟩
  | n :: a, b, lf => by
    rw [List.cons_append, went, went]
    split
    · obtain ⟨l, e⟩ := went_app a b (updF lf (σ n).cr (lf (σ n).cr - 1))
      exact ⟨l, by rw [e]; rfl⟩
    · exact went_app a b lf
theorem alone {w : Nat → C → Int} {a b : List N} (nd : (a ++ b).Nodup) : ∀ t : Nat, ∀ n ∈ a, rn G w (fun _ => a ++ b) st t n = rn G w (fun _ => a) st t n
  | 0, n, hn => rfl
  | t + 1, n, hn => by
    have ih := alone (w := w) nd t
    obtain ⟨na, nb, dis⟩ := List.nodup_append.mp nd
    show pass G t (a ++ b) (w t) (rn G w (fun _ => a ++ b) st t) n = pass G t a (w t) (rn G w (fun _ => a) st t) n
    rw [pass_eq nd, pass_eq na]
    unfold after
    rw [ih n hn]
    obtain ⟨lf', e⟩ := went_app (G := G) (t := (t : Int)) (σ := rn G w (fun _ => a ++ b) st t) a b (w t)
    rw [e, went_congr ih]
    have : n ∉ went G t b lf' (rn G w (fun _ => a ++ b) st t) := fun q => dis n hn n (went_sub n q).1 rfl
    simp [this]
/-- who goes first waits for nobody -/
theorem first {w : Nat → C → Int} {n : N} {b : List N} (gr : Ground G cs) (nd : (n :: b).Nodup) (hw : ∀ t, ∀ x ∈ cs, 1 ≤ w t x) (hs : 0 ≤ (st n).2) (hc : (st n).1 ∈ cs) : ∀ t : Nat,
    (∀ r ∈ (rn G w (fun _ => n :: b) st t n).rw, r.g = r.s) ∧ ((rn G w (fun _ => n :: b) st t n).cr ∈ cs ∨ (rn G w (fun _ => n :: b) st t n).cr = G.home) ∧ ((rn G w (fun _ => n :: b) st t n).cr ≠ G.home → (t : Int) ≤ (rn G w (fun _ => n :: b) st t n).sn)
  | 0 => ⟨(fun r hr => by cases hr), .inl hc, fun _ => hs⟩
  | t + 1 => by
    obtain ⟨i1, i2, i3⟩ := first (w := w) gr nd hw hs hc t
    have e : rn G w (fun _ => n :: b) st (t + 1) n = if waits G t (rn G w (fun _ => n :: b) st t n) = true ∧ 0 < w t (rn G w (fun _ => n :: b) st t n).cr then moved G t (rn G w (fun _ => n :: b) st t n) else rn G w (fun _ => n :: b) st t n := by
      show pass G t (n :: b) (w t) (rn G w (fun _ => n :: b) st t) n = _
      rw [pass_eq nd, after, went]
      split
      · simp
      · rw [if_neg]
        exact fun q => (List.nodup_cons.mp nd).1 (went_sub n q).1
    rw [e]
    split
    · rename_i hq
      have hw1 := hq.1
      unfold waits at hw1
      simp at hw1
      have hcc := i2.resolve_right hw1.1
      refine ⟨fun r hr => ?_, gr.to _ hcc, fun _ => ?_⟩
      · rcases List.mem_append.mp hr with q | q
        · exact i1 r q
        · simp at q
          subst q
          have := i3 hw1.1
          show (t : Int) = _
          have := hw1.2
          dsimp only at *
          omega
      · show _ ≤ (t : Int) + G.lg _
        have := gr.lg _ hcc
        omega
    · rename_i hq
      refine ⟨i1, i2, fun hh => ?_⟩
      have a := i3 hh
      have b' := hw t _ (i2.resolve_right hh)
      have : ¬ (rn G w (fun _ => n :: b) st t n).sn ≤ t := fun q => hq ⟨by unfold waits; simp [hh, q], by omega⟩
      omega
end MX

end
section

namespace MX
variable {C : Type} {N N' : Type} [DecidableEq C]
variable {G : Net C} {cs : List C} {ns : List N} {st : N → C × Int} {w : Nat → C → Int} {ord : Nat → List N}
/-! ### from counts to sums and greatest ones -/
theorem cnt_le (h : Int) : ∀ B : Nat, 0 ≤ h → h ≤ B → ((List.range B).countP fun (t : Nat) => decide (h ≤ (t : Int))) = ((B : Int) - h).toNat
  | 0, h0, h1 => by simp; omega
  | B + 1, h0, h1 => by
    rw [List.range_succ, List.countP_append, List.countP_cons, List.countP_nil]
    by_cases q : h ≤ B
    · rw [cnt_le h B h0 q]
      simp [q]; omega
    · have : (List.range B).countP (fun (t : Nat) => decide (h ≤ (t : Int))) = 0 := by
        rw [List.countP_eq_zero]
        intro t ht
        have := List.mem_range.mp ht
        simp; omega
      rw [this]
      simp [q]; omega
/-- the sum of the rests to B is the sum of the counts -/
theorem rest_sum (ns : List N) (h : N → Int) {B : Nat} (h0 : ∀ n ∈ ns, 0 ≤ h n) (h1 : ∀ n ∈ ns, h n ≤ B) : sm ns (fun n => ((B : Int) - h n).toNat) = sm (List.range B) fun t => HH ns h t := by
  have e : sm ns (fun n => ((B : Int) - h n).toNat) = sm ns fun n => sm (List.range B) fun (t : Nat) => if decide (h n ≤ (t : Int)) = true then 1 else 0 := sm_congr fun n hn => by
    rw [sm_countP, cnt_le _ B (h0 n hn) (h1 n hn)]
  rw [e, sm_swap]
  exact sm_congr fun t _ => by rw [HH, sm_countP]
theorem isum_rest : ∀ (ns : List N) (h : N → Int) (B : Nat), (∀ n ∈ ns, h n ≤ B) → (ns.map h).sum = ns.length * B - (sm ns fun n => ((B : Int) - h n).toNat : Nat)
  | [], h, B, _ => by simp [sm]
  | n :: ns, h, B, hh => by
    have ih := isum_rest ns h B fun m hm => hh m (List.mem_cons_of_mem _ hm)
    have := hh n List.mem_cons_self
    rw [List.map_cons, List.sum_cons, ih, sm_cons, List.length_cons]
    have e : ((ns.length + 1 : Nat) : Int) * B = ns.length * B + B := by
      rw [Int.natCast_add, Int.add_mul]; simp
    rw [e]
    omega
theorem top_of1 (ns : List N) (h : N → Int) : ∃ B : Nat, ∀ n ∈ ns, h n ≤ B := by
  induction ns with
  | nil => exact ⟨0, by simp⟩
  | cons n ns ih =>
    obtain ⟨B, b1⟩ := ih
    refine ⟨max B (h n).toNat, fun m hm => ?_⟩
    rcases List.mem_cons.mp hm with q | q
    · subst q; omega
    · have := b1 m q; omega
/-- more are home at each tick: the sum is no greater -/
theorem sum_le_of {ns : List N} {ns' : List N'} {h : N → Int} {h' : N' → Int} (hl : ns.length = ns'.length) (h0 : ∀ n ∈ ns, 0 ≤ h n) (h0' : ∀ n ∈ ns', 0 ≤ h' n) (hc : ∀ t, HH ns h t ≤ HH ns' h' t) : (ns'.map h').sum ≤ (ns.map h).sum := by
  obtain ⟨B1, b1⟩ := top_of1 ns h
  obtain ⟨B2, b2⟩ := top_of1 ns' h'
  have c1 : ∀ n ∈ ns, h n ≤ (max B1 B2 : Nat) := fun n hn => by have := b1 n hn; omega
  have c2 : ∀ n ∈ ns', h' n ≤ (max B1 B2 : Nat) := fun n hn => by have := b2 n hn; omega
  rw [isum_rest ns h _ c1, isum_rest ns' h' _ c2, rest_sum ns h h0 c1, rest_sum ns' h' h0' c2, hl]
  have := sm_le (xs := List.range (max B1 B2)) (f := fun (t : Nat) => HH ns h t) (g := fun (t : Nat) => HH ns' h' t) fun t _ => hc t
  omega
/-- and the last is no later -/
theorem last_le_of {ns : List N} {ns' : List N'} {h : N → Int} {h' : N' → Int} (hl : ns.length = ns'.length) (hc : ∀ t, HH ns h t ≤ HH ns' h' t) {T : Int} (hT : ∀ n ∈ ns, h n ≤ T) : ∀ n ∈ ns', h' n ≤ T := by
  have a := hc T
  have b : HH ns h T = ns.length := by
    unfold HH
    rw [List.countP_eq_length]
    intro n hn
    simpa using hT n hn
  have c : HH ns' h' T = ns'.length := by
    have : HH ns' h' T ≤ ns'.length := List.countP_le_length
    omega
  unfold HH at c
  rw [List.countP_eq_length] at c
  intro n hn
  simpa using c n hn
theorem HH_perm {ns ns' : List N} (h : N → Int) (p : ns.Perm ns') (t : Int) : HH ns h t = HH ns' h t := p.countP_eq _
/-! ### a run comes to its end -/
section
variable [DecidableEq N]
structure Far (G : Net C) (cs : List C) (d : C → Nat) : Prop where
  h0 : d G.home = 0
  st : ∀ x ∈ cs, d x = d (G.to x) + 1
  hi : ∀ x ∈ cs, G.lg x ≤ 20
def togo (d : C → Nat) (ns : List N) (σ : N → PS C) : Nat := sm ns fun n => d (σ n).cr
theorem togo_pass {d : C → Nat} (F : Far G cs d) (nn : ns.Nodup) {o : List N} (pm : o.Perm ns) {t : Int} {lf : C → Int} {σ : N → PS C} (hc : ∀ n ∈ ns, (σ n).cr ∈ cs ∨ (σ n).cr = G.home) :
    togo d ns (pass G t o lf σ) + (went G t o lf σ).length = togo d ns σ := by
  have no := pm.nodup_iff.mpr nn
  rw [pass_eq no]
  have e : (went G t o lf σ).length = sm ns fun n => if n ∈ went G t o lf σ ∧ (fun _ => true) n = true then 1 else 0 := by
    rw [sm_in (fun _ => true) (went_nodup no) nn fun n hn => pm.mem_iff.mp (went_sub n hn).1]
    simp
  rw [e, togo, togo, ← sm_add]
  refine sm_congr fun n hn => ?_
  unfold after
  by_cases q : n ∈ went G t o lf σ
  · have hw := (went_sub n q).2
    unfold waits at hw
    simp at hw
    have := F.st _ ((hc n hn).resolve_right hw.1)
    simp [q, moved]
    omega
  · simp [q]
/-- the measure: lanes still to go, then ticks until all wait -/
def Meas (G : Net C) (d : C → Nat) (ns : List N) (low : Nat) (m t : Nat) (σ : N → PS C) : Prop := ∃ B : Nat, low ≤ B ∧ (∀ n ∈ ns, (σ n).cr ≠ G.home → (σ n).sn ≤ B) ∧ m = 64 * togo d ns σ + (B - t)
theorem meas_step {d : C → Nat} (F : Far G cs d) (nn : ns.Nodup) {o : List N} (pm : o.Perm ns) {t low m : Nat} {lf : C → Int} {σ : N → PS C} (hc : ∀ n ∈ ns, (σ n).cr ∈ cs ∨ (σ n).cr = G.home)
    (hl : ∀ x ∈ cs, 0 ≤ lf x) (hlow : low ≤ t → ∀ x ∈ cs, 0 < lf x) (hm : Meas G d ns low m t σ) (hn : ∃ n ∈ ns, (σ n).cr ≠ G.home) : ∃ m', m' < m ∧ Meas G d ns low m' (t + 1) (pass G t o lf σ) := by
  obtain ⟨B, b1, b2, b3⟩ := hm
  have k := togo_pass F nn pm (t := t) (lf := lf) hc
  have no := pm.nodup_iff.mpr nn
  by_cases hz : went G t o lf σ = []
  · have e : pass G t o lf σ = σ := by
      rw [pass_eq no, hz]
      funext n
      simp [after]
    have ht : t < B := by
      refine Nat.lt_of_not_le fun hle => ?_
      obtain ⟨n, hn, hh⟩ := hn
      have h1 := b2 n hn hh
      have hx := (hc n hn).resolve_right hh
      have c := went_count (G := G) (t := t) (σ := σ) (σ n).cr (ns := o) (lf := lf) (hl _ hx)
      rw [hz] at c
      have p := hlow (by omega) _ hx
      have : 0 < o.countP fun m => waits G t (σ m) && decide ((σ m).cr = (σ n).cr) := by
        rw [List.countP_pos_iff]
        refine ⟨n, pm.mem_iff.mpr hn, ?_⟩
        unfold waits
        have : (σ n).sn ≤ t := by omega
        simp [hh, this]
      simp at c
      omega
    refine ⟨64 * togo d ns σ + (B - (t + 1)), by omega, B, b1, ?_, ?_⟩
    · rw [e]; exact b2
    · rw [e]
  · have hpos : 0 < (went G t o lf σ).length := List.length_pos_iff.mpr hz
    refine ⟨64 * togo d ns (pass G t o lf σ) + (max B (t + 20) - (t + 1)), by omega, max B (t + 20), by omega, fun n hn hh => ?_, rfl⟩
    rw [pass_eq no] at hh ⊢
    unfold after at hh ⊢
    by_cases q : n ∈ went G t o lf σ
    · rw [if_pos q] at hh ⊢
      have hw := (went_sub n q).2
      unfold waits at hw
      simp at hw
      have := F.hi _ ((hc n hn).resolve_right hw.1)
      show (t : Int) + G.lg _ ≤ _
      omega
    · rw [if_neg q] at hh ⊢
      have := b2 n hn hh
      omega
theorem ends {w : Nat → C → Int} {ord : Nat → List N} {st : N → C × Int} {d : C → Nat} (F : Far G cs d) (S : Runs G cs ns st w ord) {low : Nat} (hlow : ∀ t, low ≤ t → ∀ x ∈ cs, 0 < w t x) : ∀ (m t : Nat), Meas G d ns low m t (rn G w ord st t) → ∃ k, k ≤ m ∧ ∀ n ∈ ns, (rn G w ord st (t + k) n).cr = G.home := by
  intro m
  induction m using Nat.strongRecOn with
  | _ m ih =>
    intro t hm
    by_cases hn : ∃ n ∈ ns, (rn G w ord st t n).cr ≠ G.home
    · obtain ⟨m', h1, h2⟩ := meas_step F S.nn (S.pm t) (lf := w t) (fun n hn => (at_run S t n hn).cr) (S.wd t) (fun h => hlow t h) hm hn
      obtain ⟨k, h3, h4⟩ := ih m' h1 (t + 1) h2
      exact ⟨k + 1, by omega, fun n hn => by rw [show t + (k + 1) = t + 1 + k by omega]; exact h4 n hn⟩
    · exact ⟨0, by omega, fun n hnn => Classical.byContradiction fun q => hn ⟨n, hnn, q⟩⟩
/-- all are home at the latest then -/
theorem done {w : Nat → C → Int} {ord : Nat → List N} {st : N → C × Int} {d : C → Nat} (F : Far G cs d) (S : Runs G cs ns st w ord) {low : Nat} (hlow : ∀ t, low ≤ t → ∀ x ∈ cs, 0 < w t x) {B D : Nat} (hB : low ≤ B) (hs : ∀ n ∈ ns, (st n).2 ≤ B) (hd : ∀ c, d c ≤ D) {T : Nat} (hT : 64 * (ns.length * D) + B ≤ T) : ∀ n ∈ ns, (rn G w ord st T n).cr = G.home := by
  have tg : togo d ns (rn G w ord st 0) ≤ ns.length * D := by
    unfold togo
    generalize rn G w ord st 0 = σ
    clear hT hs S
    induction ns with
    | nil => simp [sm]
    | cons n ns ih =>
      rw [sm_cons, List.length_cons, Nat.add_mul]
      have := hd (σ n).cr
      omega
  obtain ⟨k, h1, h2⟩ := ends F S hlow _ 0 ⟨B, hB, fun n hn _ => hs n hn, rfl⟩
  intro n hn
  have h3 := h2 n hn
  rw [Nat.zero_add] at h3
  have := home_stays S h3 (T - k)
  rw [show k + (T - k) = T by omega] at this
  rw [this]
  exact h3
end
end MX

end
section

/-! Lanes, folk and plans as data, in the words of the plain mathematics. -/
namespace DL
open PySem L2 PyProof.Rows MX
def toL (L : List Ln) (c : Str) : Str := match lookL L c with | some l => l.to | none => "home"
def lgL (L : List Ln) (c : Str) : Int := match lookL L c with | some l => l.lg | none => 1
def netL (L : List Ln) : Net Str := ⟨"home", toL L, lgL L⟩
def csL (L : List Ln) : List Str := L.map Ln.nm
theorem lookL_mem {L : List Ln} (nd : (L.map Ln.nm).Nodup) {l : Ln} (h : l ∈ L) : lookL L l.nm = some l := by
  unfold lookL
  induction L with
  | nil => cases h
  | cons m L ih =>
    rw [List.find?_cons]
    by_cases q : m.nm = l.nm
    · rcases List.mem_cons.mp h with e | e
      · subst e; simp
      · rw [List.map_cons] at nd
        exact absurd (by rw [q]; exact List.mem_map.mpr ⟨l, e, rfl⟩) (List.nodup_cons.mp nd).1
    · simp only [q, decide_false]
      rcases List.mem_cons.mp h with e | e
      · subst e; exact absurd rfl q
      · rw [List.map_cons] at nd
        exact ih (List.nodup_cons.mp nd).2 e
theorem cs_some {L : List Ln} {c : Str} : (lookL L c).isSome = true ↔ c ∈ csL L := by
  constructor
  · intro h
    obtain ⟨l, e⟩ := Option.isSome_iff_exists.mp h
    obtain ⟨h1, h2⟩ := lookL_some e
    exact List.mem_map.mpr ⟨l, h1, h2⟩
  · intro h
    obtain ⟨l, h1, h2⟩ := List.mem_map.mp h
    unfold lookL
    rw [List.find?_isSome]
    exact ⟨l, h1, by simpa using h2⟩
theorem cs_get {L : List Ln} (v : LanesV L) {c : Str} (h : c ∈ csL L) : ∃ l ∈ L, lookL L c = some l ∧ l.nm = c ∧ LaneV l := by
  obtain ⟨l, e⟩ := Option.isSome_iff_exists.mp (cs_some.mpr h)
  obtain ⟨h1, h2⟩ := lookL_some e
  exact ⟨l, h1, e, h2, v.lane l h1⟩
theorem wayGo_ext {L : List Ln} : ∀ (n : Nat) (c : Str) (found r : List Str), wayGo L n c found = some r → ∃ w, r = found ++ w ∧ ∀ m found', n ≤ m → (∀ x ∈ found', x ∈ found) → wayGo L m c found' = some (found' ++ w)
  | 0, c, found, r, h => by simp [wayGo] at h
  | n + 1, c, found, r, h => by
    rw [wayGo] at h
    split at h
    · rename_i hc
      cases h
      refine ⟨[], by simp, fun m found' hm _ => ?_⟩
      cases m with
      | zero => omega
      | succ m => rw [wayGo, if_pos hc]; simp
    · rename_i hc
      split at h
      · cases h
      · rename_i l e
        split at h
        · cases h
        · rename_i hn
          obtain ⟨w, e1, e2⟩ := wayGo_ext n _ _ _ h
          refine ⟨c :: w, by rw [e1]; simp, fun m found' hm hs => ?_⟩
          cases m with
          | zero => omega
          | succ m =>
            rw [wayGo, if_neg hc, e]
            dsimp only
            rw [if_neg (fun q => hn (hs c q)), e2 m (found' ++ [c]) (by omega) fun x hx => by
              rcases List.mem_append.mp hx with q | q
              · exact List.mem_append_left _ (hs x q)
              · exact List.mem_append_right _ q]
            simp
theorem way_home (L : List Ln) : wayL L "home" = [] := by
  unfold wayL wayOf
  rw [wayGo, if_pos rfl]
  rfl
theorem way_cons {L : List Ln} (v : LanesV L) {c : Str} {l : Ln} (h : lookL L c = some l) : wayL L c = c :: wayL L l.to ∧ (l.to = "home" ∨ l.to ∈ csL L) := by
  have hm := lookL_some h
  have hv := v.lane l hm.1
  have e := way_eq v (by rw [h]; rfl : (lookL L c).isSome = true)
  have hc : ¬ c = "home" := by rw [← hm.2]; exact hv.2.2.1
  have e0 := e
  unfold wayOf at e
  rw [wayGo, if_neg hc, h] at e
  dsimp only at e
  rw [if_neg (by simp)] at e
  obtain ⟨w, e1, e2⟩ := wayGo_ext _ _ _ _ e
  have e3 := e2 (L.length + 1) [] (by omega) (by simp)
  have e4 : wayL L l.to = w := by
    unfold wayL wayOf
    rw [e3]; rfl
  refine ⟨by rw [e4, e1]; rfl, ?_⟩
  by_cases q : l.to = "home"
  · exact .inl q
  · refine .inr (cs_some.mp ?_)
    cases hL : L.length with
    | zero => rw [hL] at e; simp [wayGo] at e
    | succ n =>
      rw [hL, wayGo, if_neg q] at e
      split at e
      · cases e
      · rename_i l' e'; rw [e']; rfl
theorem ground {L : List Ln} (v : LanesV L) : Ground (netL L) (csL L) where
  nd := v.nd
  hm := fun h => by
    obtain ⟨l, h1, h2⟩ := List.mem_map.mp h
    exact (v.lane l h1).2.2.1 h2
  lg := fun x hx => by
    obtain ⟨l, _, e, _, hv⟩ := cs_get v hx
    show 1 ≤ lgL L x
    rw [lgL, e]
    exact hv.2.2.2.2.2.1
  to := fun x hx => by
    obtain ⟨l, _, e, _, hv⟩ := cs_get v hx
    show toL L x ∈ _ ∨ toL L x = "home"
    rw [toL, e]
    exact (way_cons v e).2.symm
def dL (L : List Ln) (c : Str) : Nat := (wayL L c).length
theorem far {L : List Ln} (v : LanesV L) : Far (netL L) (csL L) (dL L) where
  h0 := by show (wayL L "home").length = 0; rw [way_home]; rfl
  st := fun x hx => by
    obtain ⟨l, _, e, _, _⟩ := cs_get v hx
    show (wayL L x).length = (wayL L (toL L x)).length + 1
    rw [(way_cons v e).1, toL, e]; rfl
  hi := fun x hx => by
    obtain ⟨l, _, e, _, hv⟩ := cs_get v hx
    show lgL L x ≤ 20
    rw [lgL, e]
    exact hv.2.2.2.2.2.2
theorem way_nodup_len {L : List Ln} (v : LanesV L) {c : Str} (h : c ∈ csL L) : (wayL L c).length ≤ L.length := by
  have key : ∀ (n : Nat) (c : Str) (found r : List Str), wayGo L n c found = some r → found.Nodup → (∀ x ∈ found, x ∈ csL L) → r.length ≤ L.length := by
    intro n
    induction n with
    | zero => intro c found r h; simp [wayGo] at h
    | succ n ih =>
      intro c found r h hn hs
      rw [wayGo] at h
      split at h
      · cases h
        have := nodup_le hn hs
        rwa [csL, List.length_map] at this
      · split at h
        · cases h
        · rename_i l e
          split at h
          · cases h
          · rename_i hc
            refine ih _ _ _ h (List.nodup_append.mpr ⟨hn, by simp, fun a ha b hb q => ?_⟩) fun x hx => ?_
            · simp at hb; subst hb q; exact hc ha
            · rcases List.mem_append.mp hx with q | q
              · exact hs x q
              · simp at q; subst q; exact cs_some.mp (by rw [e]; rfl)
  exact key _ _ _ _ (way_eq v (cs_some.mpr h)) (by simp) (by simp)
theorem way_len8 {L : List Ln} (v : LanesV L) (c : Str) : (wayL L c).length ≤ 8 := by
  by_cases h : c ∈ csL L
  · exact Nat.le_trans (way_nodup_len v h) v.hi
  · by_cases q : c = "home"
    · rw [q, way_home]; simp
    · unfold wayL wayOf
      have : lookL L c = none := by
        cases e : lookL L c with
        | none => rfl
        | some l => exact absurd (cs_some.mp (by rw [e]; rfl)) h
      rw [wayGo, if_neg q, this]
      simp
/-! ### folk -/
structure FolkV (L : List Ln) (F : List Fk) : Prop where
  lo : 1 ≤ F.length
  hi : F.length ≤ 10
  one : ∀ f ∈ F, FkV L f
  srt : sortedF F = true
theorem sortedF_get {L : List Fk} (h : sortedF L = true) {k : Nat} {a b : Fk} (ha : L[k]? = some a) (hb : L[k + 1]? = some b) : a.nm.cps.toList < b.nm.cps.toList := by
  unfold sortedF at h
  rw [List.all_eq_true] at h
  have := h k (by
    rw [List.mem_range]
    have := (List.getElem?_eq_some_iff.mp hb).1
    omega)
  rw [ha, hb] at this
  exact of_decide_eq_true this
theorem sortedF_lt {L : List Fk} (h : sortedF L = true) : ∀ (d : Nat) {k : Nat} {a b : Fk}, L[k]? = some a → L[k + d + 1]? = some b → a.nm.cps.toList < b.nm.cps.toList
  | 0, k, a, b, ha, hb => sortedF_get h ha hb
  | d + 1, k, a, b, ha, hb => by
    have hlt := (List.getElem?_eq_some_iff.mp hb).1
    have e : L[k + d + 1]? = some L[k + d + 1] := List.getElem?_eq_getElem (by omega)
    exact List.lt_trans (sortedF_lt h d ha e) (sortedF_get h e hb)
theorem sortedF_pw {L : List Fk} (h : sortedF L = true) : L.Pairwise fun a b => a.nm.cps.toList < b.nm.cps.toList := by
  refine List.pairwise_iff_getElem.mpr fun i j hi hj hij => ?_
  exact sortedF_lt h (j - i - 1) (k := i) (a := L[i]) (b := L[j]) (List.getElem?_eq_getElem (by omega)) (by
    rw [show i + (j - i - 1) + 1 = j by omega]
    exact List.getElem?_eq_getElem hj)
theorem sortedF_of {L : List Fk} (h : L.Pairwise fun a b => a.nm.cps.toList < b.nm.cps.toList) : sortedF L = true := by
  unfold sortedF
  rw [List.all_eq_true]
  intro k hk
  have hk := List.mem_range.mp hk
  rw [List.getElem?_eq_getElem (by omega : k < L.length), List.getElem?_eq_getElem (by omega : k + 1 < L.length)]
  exact decide_eq_true (List.pairwise_iff_getElem.mp h k (k + 1) (by omega) (by omega) (by omega))
theorem FolkV.nd {L : List Ln} {F : List Fk} (v : FolkV L F) : (F.map Fk.nm).Nodup :=
  List.pairwise_map.mpr ((sortedF_pw v.srt).imp fun h q => by rw [q] at h; exact absurd h (List.lt_irrefl _))
theorem folk_of {L : List Ln} {d : D} (h : areFolkD L d = true) : ∃ F, d = encFs F ∧ FolkV L F := by
  cases d with
  | tup xs =>
    have h : (decide (1 ≤ xs.length) && decide (xs.length ≤ 10) && xs.all (isOneD L) && (match fksD xs with | some F => sortedF F | none => false)) = true := h
    rw [Bool.and_eq_true, Bool.and_eq_true, Bool.and_eq_true] at h
    obtain ⟨⟨⟨h1, h2⟩, h3⟩, h4⟩ := h
    obtain ⟨F, rfl, hv⟩ := ones_all h3
    rw [fksD_enc] at h4
    rw [List.length_map] at h1 h2
    exact ⟨F, rfl, of_decide_eq_true h1, of_decide_eq_true h2, hv, h4⟩
  | _ => cases h
theorem encFk_one {L : List Ln} {f : Fk} (v : FkV L f) : isOneD L (encFk f) = true := by
  show (isNameS f.nm && (lookL L f.cr).isSome && (decide (0 ≤ f.sn) && decide (f.sn ≤ 50))) = true
  simp [v.nm, v.cr, v.lo, v.hi]
theorem folk_enc {L : List Ln} {F : List Fk} (v : FolkV L F) : areFolkD L (encFs F) = true := by
  show (decide (1 ≤ (F.map encFk).length) && decide ((F.map encFk).length ≤ 10) && (F.map encFk).all (isOneD L) && (match fksD (F.map encFk) with | some F => sortedF F | none => false)) = true
  rw [fksD_enc, List.length_map]
  have h3 : (F.map encFk).all (isOneD L) = true := by
    rw [List.all_map, List.all_eq_true]
    exact fun f hf => encFk_one (v.one f hf)
  rw [h3, decide_eq_true v.lo, decide_eq_true v.hi]
  exact v.srt
theorem enc_inj_Ln {a b : Ln} (h : encLn a = encLn b) : a = b := by
  cases a; cases b
  simp [encLn] at h
  simp [h]
theorem encLs_inj {L L' : List Ln} (h : encLs L = encLs L') : L = L' := by
  unfold encLs at h
  injection h with h
  exact inj_map (fun _ _ => enc_inj_Ln) h
theorem enc_inj_Fk {a b : Fk} (h : encFk a = encFk b) : a = b := by
  cases a; cases b
  simp [encFk] at h
  simp [h]
theorem encFs_inj {L L' : List Fk} (h : encFs L = encFs L') : L = L' := by
  unfold encFs at h
  injection h with h
  exact inj_map (fun _ _ => enc_inj_Fk) h
end DL

end
section

/-! Plans as rows; runs as plans. -/
namespace DL
open PySem L2 PyProof.Rows MX
def rowsAt (L : List Ln) : List Str → List Int → Int → List (Row Str)
  | c :: cs, t :: ts, s => ⟨c, s, t⟩ :: rowsAt L cs ts (t + lgL L c)
  | _, _, _ => []
def endT (L : List Ln) : List Str → List Int → Int → Int
  | c :: cs, t :: ts, _ => endT L cs ts (t + lgL L c)
  | _, _, s => s
def outsL (L : List Ln) (way : List Str) (ts : List Int) : List Int := List.zipWith (fun c t => t + lgL L c) way ts
theorem outs_last (L : List Ln) : ∀ (way : List Str) (ts : List Int) (s : Int), way.length = ts.length → way ≠ [] → (outsL L way ts).getLast? = some (endT L way ts s)
  | [], _, _, _, h => absurd rfl h
  | _ :: _, [], _, h, _ => by simp at h
  | [c], [t], s, _, _ => rfl
  | [c], _ :: _ :: _, s, h, _ => by simp at h
  | c :: c' :: cs, [t], s, h, _ => by simp at h
  | c :: c' :: cs, t :: t' :: ts, s, h, _ => by
    have ih := outs_last L (c' :: cs) (t' :: ts) (t + lgL L c) (by simpa using h) (by simp)
    unfold outsL at ih ⊢
    rw [List.zipWith_cons_cons] at ih
    rw [List.zipWith_cons_cons, endT, List.zipWith_cons_cons, List.getLast?_cons_cons]
    exact ih
theorem lgL_eq {L : List Ln} {c : Str} {l : Ln} (h : lookL L c = some l) : lgL L c = l.lg := by rw [lgL, h]
theorem toL_eq {L : List Ln} {c : Str} {l : Ln} (h : lookL L c = some l) : toL L c = l.to := by rw [toL, h]
theorem outGo_chain {L : List Ln} (v : LanesV L) : ∀ (way : List Str) (ts : List Int) (c : Str) (s : Int) (acc r : List Int), (c = "home" ∨ c ∈ csL L) → way = wayL L c → ts.length = way.length → outGo L way ts s acc = some r →
    chain (netL L) c s (rowsAt L way ts s) "home" (endT L way ts s) ∧ r = acc ++ outsL L way ts ∧ ∀ x ∈ rowsAt L way ts s, x.c ∈ csL L
  | [], ts, c, s, acc, r, hc, hw, hl, h => by
    have : c = "home" := by
      rcases hc with q | q
      · exact q
      · obtain ⟨l, _, e, _, _⟩ := cs_get v q
        rw [(way_cons v e).1] at hw
        cases hw
    subst this
    cases ts with
    | nil => rw [outGo] at h; cases h; exact ⟨⟨rfl, rfl⟩, by simp [outsL], by simp [rowsAt]⟩; all_goals simp
    | cons t ts => simp at hl
  | c' :: way, [], c, s, acc, r, hc, hw, hl, h => by simp at hl
  | c' :: way, t :: ts, c, s, acc, r, hc, hw, hl, h => by
    rcases hc with q | q
    · rw [q, way_home] at hw; cases hw
    · obtain ⟨l, _, e, _, hv⟩ := cs_get v q
      have wc := way_cons v e
      rw [wc.1] at hw
      injection hw with hw1 hw2
      subst hw1
      rw [outGo] at h
      split at h
      · cases h
      · rename_i hlt
        rw [e] at h
        dsimp only at h
        obtain ⟨i1, i2, i3⟩ := outGo_chain v way ts l.to (t + l.lg) (acc ++ [t + l.lg]) r wc.2 hw2 (by simpa using hl) h
        refine ⟨?_, ?_, ?_⟩
        · rw [rowsAt, endT, lgL_eq e]
          refine ⟨rfl, ?_, rfl, by show s ≤ t; omega, ?_⟩
          · show c' ≠ "home"
            intro z
            rw [z] at q
            exact (ground v).hm q
          · show chain (netL L) (toL L c') (t + lgL L c') _ _ _
            rw [toL_eq e, lgL_eq e]
            exact i1
        · rw [i2]
          unfold outsL
          rw [List.zipWith_cons_cons, lgL_eq e]
          simp
        · intro x hx
          rw [rowsAt, lgL_eq e] at hx
          rcases List.mem_cons.mp hx with z | z
          · subst z; exact q
          · exact i3 x z
/-- rows that go home are the way's -/
theorem chain_rows {L : List Ln} (v : LanesV L) {h : Int} : ∀ {rs : List (Row Str)} {c : Str} {s : Int}, (c = "home" ∨ c ∈ csL L) → chain (netL L) c s rs "home" h →
    rs.map Row.c = wayL L c ∧ rs = rowsAt L (wayL L c) (rs.map Row.g) s ∧ h = endT L (wayL L c) (rs.map Row.g) s ∧ ∀ acc, outGo L (wayL L c) (rs.map Row.g) s acc = some (acc ++ outsL L (wayL L c) (rs.map Row.g))
  | [], c, s, hc, hh => by
    obtain ⟨h1, h2⟩ := hh
    subst h1 h2
    rw [way_home]
    exact ⟨rfl, rfl, rfl, fun acc => by simp [outGo, outsL]⟩
  | r :: rs, c, s, hc, hh => by
    obtain ⟨h1, h2, h3, h4, h5⟩ := hh
    have q : c ∈ csL L := hc.resolve_left h2
    obtain ⟨l, _, e, _, hv⟩ := cs_get v q
    have wc := way_cons v e
    have h5 : chain (netL L) (toL L c) (r.g + lgL L c) rs "home" h := h5
    rw [toL_eq e, lgL_eq e] at h5
    obtain ⟨i1, i2, i3, i4⟩ := chain_rows v wc.2 h5
    rw [wc.1]
    refine ⟨by rw [List.map_cons, i1, h1], ?_, ?_, fun acc => ?_⟩
    · rw [List.map_cons, rowsAt, lgL_eq e, ← i2]
      cases r
      dsimp only at *
      rw [h1, h3]
    · rw [List.map_cons, endT, lgL_eq e]; exact i3
    · rw [List.map_cons, outGo, if_neg (by omega), e]
      dsimp only
      rw [i4]
      unfold outsL
      rw [List.zipWith_cons_cons, lgL_eq e]
      simp
/-! ### plans -/
abbrev FP := Fk × List Int
def stP (p : FP) : Str × Int := (p.1.cr, p.1.sn)
def RP (L : List Ln) (p : FP) : List (Row Str) := rowsAt L (wayL L p.1.cr) p.2 p.1.sn
def hP (L : List Ln) (p : FP) : Int := endT L (wayL L p.1.cr) p.2 p.1.sn
theorem plan_parts {L : List Ln} {F : List Fk} {P : List (List Int)} (h : isPlanP L F P = true) : P.length = F.length ∧ (∀ p ∈ F.zip P, p.2.length = (wayL L p.1.cr).length ∧ (outGo L (wayL L p.1.cr) p.2 p.1.sn []).isSome = true) ∧ ∀ q ∈ goesIn L F P, ((goesIn L F P).count q : Int) ≤ widthOf L q.1 := by
  unfold isPlanP at h
  rw [Bool.and_eq_true, Bool.and_eq_true] at h
  obtain ⟨⟨h1, h2⟩, h3⟩ := h
  refine ⟨of_decide_eq_true h1, fun p hp => ?_, fun q hq => ?_⟩
  · have := List.all_eq_true.mp h2 p hp
    unfold outOk at this
    rw [Bool.and_eq_true] at this
    exact ⟨of_decide_eq_true this.1, this.2⟩
  · unfold roomOk at h3
    exact of_decide_eq_true (List.all_eq_true.mp h3 q hq)
theorem cr_cs {L : List Ln} {f : Fk} (v : FkV L f) : f.cr ∈ csL L := cs_some.mp v.cr
theorem plan_chain {L : List Ln} (v : LanesV L) {p : FP} (hf : FkV L p.1) (h : p.2.length = (wayL L p.1.cr).length ∧ (outGo L (wayL L p.1.cr) p.2 p.1.sn []).isSome = true) :
    chain (netL L) p.1.cr p.1.sn (RP L p) "home" (hP L p) ∧ outGo L (wayL L p.1.cr) p.2 p.1.sn [] = some (outsL L (wayL L p.1.cr) p.2) ∧ ∀ x ∈ RP L p, x.c ∈ csL L := by
  obtain ⟨r, e⟩ := Option.isSome_iff_exists.mp h.2
  obtain ⟨h1, h2, h3⟩ := outGo_chain v _ _ _ _ _ _ (.inr (cr_cs hf)) rfl h.1 e
  exact ⟨h1, by rw [e, h2]; rfl, h3⟩
theorem sysP {L : List Ln} (v : LanesV L) {ps : List FP} (hF : ∀ p ∈ ps, FkV L p.1) (h : ∀ p ∈ ps, p.2.length = (wayL L p.1.cr).length ∧ (outGo L (wayL L p.1.cr) p.2 p.1.sn []).isSome = true) : Sys (netL L) (csL L) ps stP (RP L) (hP L) where
  nd := (ground v).nd
  hm := (ground v).hm
  lg := (ground v).lg
  s0 := fun p hp => (hF p hp).lo
  ch := fun p hp => (plan_chain v (hF p hp) (h p hp)).1
  inn := fun p hp => (plan_chain v (hF p hp) (h p hp)).2.2
  sc := fun p hp => cr_cs (hF p hp)
theorem rows_at (L : List Ln) (x : Str) (t : Int) : ∀ (way : List Str) (ts : List Int) (s : Int), (way.zip ts).count (x, t) = (rowsAt L way ts s).countP (atB x t)
  | [], ts, s => by simp [rowsAt]
  | c :: way, [], s => by simp [rowsAt]
  | c :: way, t' :: ts, s => by
    rw [List.zip_cons_cons, rowsAt, List.count_cons, List.countP_cons, rows_at L x t way ts (t' + lgL L c)]
    congr 1
theorem goes_count (L : List Ln) (x : Str) (t : Int) : ∀ ps : List FP, (ps.flatMap fun p => (wayL L p.1.cr).zip p.2).count (x, t) = GG ps (RP L) x t
  | [] => rfl
  | p :: ps => by
    rw [List.flatMap_cons, List.count_append, goes_count L x t ps]
    unfold GG
    rw [sm_cons, rows_at L x t _ _ p.1.sn]
    rfl
theorem width_cs {L : List Ln} (v : LanesV L) {x : Str} (h : x ∈ csL L) : 1 ≤ widthOf L x ∧ widthOf L x ≤ 9 := by
  obtain ⟨l, _, e, _, hv⟩ := cs_get v h
  unfold widthOf
  rw [e]
  exact ⟨hv.2.2.2.1, hv.2.2.2.2.1⟩
theorem fitsP {L : List Ln} (v : LanesV L) {F : List Fk} {P : List (List Int)} (h : isPlanP L F P = true) : Fits (csL L) (widthOf L) (F.zip P) (RP L) := fun x hx t => by
  have hp := (plan_parts h).2.2
  have e := goes_count L x t (F.zip P)
  have := (width_cs v hx).1
  by_cases q : (x, t) ∈ goesIn L F P
  · have := hp _ q
    unfold goesIn at this
    rw [e] at this
    exact this
  · have z : (goesIn L F P).count (x, t) = 0 := List.count_eq_zero.mpr q
    unfold goesIn at z
    rw [e] at z
    omega
/-! ### runs -/
def stF (F : List Fk) (n : Str) : Str × Int := match F.find? (fun f => decide (f.nm = n)) with | some f => (f.cr, f.sn) | none => ("home", 0)
def finS (L : List Ln) (F : List Fk) (w : Nat → Str → Int) (ord : Nat → List Str) : Str → PS Str := rn (netL L) w ord (stF F) 6000
def planR (L : List Ln) (F : List Fk) (w : Nat → Str → Int) (ord : Nat → List Str) : List (List Int) := F.map fun f => (finS L F w ord f.nm).rw.map Row.g
theorem find_nm {F : List Fk} (nd : (F.map Fk.nm).Nodup) {f : Fk} (h : f ∈ F) : F.find? (fun g => decide (g.nm = f.nm)) = some f := by
  induction F with
  | nil => cases h
  | cons m L ih =>
    rw [List.find?_cons]
    by_cases q : m.nm = f.nm
    · rcases List.mem_cons.mp h with e | e
      · subst e; simp
      · rw [List.map_cons] at nd
        exact absurd (by rw [q]; exact List.mem_map.mpr ⟨f, e, rfl⟩) (List.nodup_cons.mp nd).1
    · simp only [q, decide_false]
      rcases List.mem_cons.mp h with e | e
      · subst e; exact absurd rfl q
      · rw [List.map_cons] at nd
        exact ih (List.nodup_cons.mp nd).2 e
theorem stF_mem {F : List Fk} (nd : (F.map Fk.nm).Nodup) {f : Fk} (h : f ∈ F) : stF F f.nm = (f.cr, f.sn) := by
  unfold stF
  rw [find_nm nd h]
/-- folk, orders and widths by which a run goes to its end -/
structure RunV (L : List Ln) (F : List Fk) (w : Nat → Str → Int) (ord : Nat → List Str) : Prop where
  v : LanesV L
  hi : F.length ≤ 10
  one : ∀ f ∈ F, FkV L f
  nd : (F.map Fk.nm).Nodup
  pm : ∀ t, (ord t).Perm (F.map Fk.nm)
  w0 : ∀ t, ∀ x ∈ csL L, 0 ≤ w t x
  wl : ∀ t, ∀ x ∈ csL L, w t x ≤ widthOf L x
  low : ∀ t, 12 ≤ t → ∀ x ∈ csL L, 0 < w t x
section
variable {L : List Ln} {F : List Fk} {w : Nat → Str → Int} {ord : Nat → List Str}
theorem RunV.runs (S : RunV L F w ord) : Runs (netL L) (csL L) (F.map Fk.nm) (stF F) w ord where
  gr := ground S.v
  nn := S.nd
  pm := S.pm
  wd := S.w0
  s0 := fun n hn => by
    obtain ⟨f, hf, e⟩ := List.mem_map.mp hn
    subst e
    rw [stF_mem S.nd hf]
    exact (S.one f hf).lo
  sc := fun n hn => by
    obtain ⟨f, hf, e⟩ := List.mem_map.mp hn
    subst e
    rw [stF_mem S.nd hf]
    exact cr_cs (S.one f hf)
theorem RunV.done (S : RunV L F w ord) : ∀ n ∈ F.map Fk.nm, (finS L F w ord n).cr = "home" := by
  refine MX.done (far S.v) S.runs (low := 12) S.low (B := 50) (D := 8) (by omega) (fun n hn => ?_) (way_len8 S.v) ?_
  · obtain ⟨f, hf, e⟩ := List.mem_map.mp hn
    subst e
    rw [stF_mem S.nd hf]
    exact (S.one f hf).hi
  · have := S.hi
    rw [List.length_map]
    omega
theorem RunV.same (S : RunV L F w ord) {t : Nat} (h : ∀ n ∈ F.map Fk.nm, (rn (netL L) w ord (stF F) t n).cr = "home") : ∀ n ∈ F.map Fk.nm, rn (netL L) w ord (stF F) t n = finS L F w ord n := fun n hn => by
  have a := home_stays S.runs (h n hn) 6000
  have b := home_stays S.runs (S.done n hn) t
  rw [← a, Nat.add_comm, b]
  rfl
theorem RunV.chain (S : RunV L F w ord) {f : Fk} (hf : f ∈ F) : MX.chain (netL L) f.cr f.sn (finS L F w ord f.nm).rw "home" (finS L F w ord f.nm).sn := by
  have h := (run_sys S.runs S.done).ch f.nm (List.mem_map.mpr ⟨f, hf, rfl⟩)
  rw [stF_mem S.nd hf] at h
  exact h
theorem RunV.rows (S : RunV L F w ord) {f : Fk} (hf : f ∈ F) : RP L (f, (finS L F w ord f.nm).rw.map Row.g) = (finS L F w ord f.nm).rw ∧ hP L (f, (finS L F w ord f.nm).rw.map Row.g) = (finS L F w ord f.nm).sn ∧
    ((finS L F w ord f.nm).rw.map Row.g).length = (wayL L f.cr).length ∧ outGo L (wayL L f.cr) ((finS L F w ord f.nm).rw.map Row.g) f.sn [] = some (outsL L (wayL L f.cr) ((finS L F w ord f.nm).rw.map Row.g)) := by
  obtain ⟨h1, h2, h3, h4⟩ := chain_rows S.v (.inr (cr_cs (S.one f hf))) (S.chain hf)
  exact ⟨h2.symm, h3.symm, by rw [← h1, List.length_map, List.length_map], h4 []⟩
theorem zip_map_self {α β : Type} (g : α → β) : ∀ xs : List α, xs.zip (xs.map g) = xs.map fun x => (x, g x)
  | [] => rfl
  | x :: xs => by rw [List.map_cons, List.zip_cons_cons, zip_map_self g xs]; rfl
theorem sm_map {α β : Type} (g : α → β) (f : β → Nat) (xs : List α) : sm (xs.map g) f = sm xs fun x => f (g x) := by
  unfold sm
  rw [List.map_map]
  rfl
def prs (L : List Ln) (F : List Fk) (w : Nat → Str → Int) (ord : Nat → List Str) : List FP := F.zip (planR L F w ord)
theorem RunV.zip (L : List Ln) (F : List Fk) (w : Nat → Str → Int) (ord : Nat → List Str) : F.zip (planR L F w ord) = F.map fun f => (f, (finS L F w ord f.nm).rw.map Row.g) := zip_map_self _ _
theorem RunV.sm (S : RunV L F w ord) (k : List (Row Str) → Nat) : MX.sm (F.zip (planR L F w ord)) (fun p => k (RP L p)) = MX.sm (F.map Fk.nm) fun n => k (finS L F w ord n).rw := by
  rw [RunV.zip, sm_map, sm_map]
  exact sm_congr fun f hf => by rw [(S.rows hf).1]
theorem RunV.one' (S : RunV L F w ord) : ∀ p ∈ F.zip (planR L F w ord), FkV L p.1 := fun p hp => S.one _ (List.of_mem_zip hp).1
theorem RunV.out (S : RunV L F w ord) : ∀ p ∈ F.zip (planR L F w ord), p.2.length = (wayL L p.1.cr).length ∧ (outGo L (wayL L p.1.cr) p.2 p.1.sn []).isSome = true := fun p hp => by
  rw [RunV.zip] at hp
  obtain ⟨f, hf, e⟩ := List.mem_map.mp hp
  subst e
  obtain ⟨h1, h2, h3, h4⟩ := S.rows hf
  exact ⟨h3, by dsimp only; rw [h4]; rfl⟩
theorem RunV.sys (S : RunV L F w ord) : Sys (netL L) (csL L) (F.zip (planR L F w ord)) stP (RP L) (hP L) := sysP S.v S.one' S.out
theorem RunV.fits (S : RunV L F w ord) : Fits (csL L) (widthOf L) (F.zip (planR L F w ord)) (RP L) := fun x hx t => by
  have h := run_fits S.runs S.done S.wl x hx t
  have e : GG (F.zip (planR L F w ord)) (RP L) x t = _ := S.sm (fun rs => rs.countP (atB x t))
  rw [e]
  exact h
theorem RunV.full (S : RunV L F w ord) (hw : ∀ t, ∀ x ∈ csL L, w t x = widthOf L x) : Full (csL L) (widthOf L) (F.zip (planR L F w ord)) (RP L) := fun x hx t ht => by
  have h := run_full S.runs S.done hw x hx t ht
  have e1 : EE (F.zip (planR L F w ord)) (RP L) x (t + 1) = _ := S.sm (fun rs => rs.countP (gonB x (t + 1)))
  have e2 : EE (F.zip (planR L F w ord)) (RP L) x t = _ := S.sm (fun rs => rs.countP (gonB x t))
  have e3 : AA (F.zip (planR L F w ord)) (RP L) x t = _ := S.sm (fun rs => rs.countP (arrB x t))
  rw [e1, e2, e3]
  exact h
/-- a run is a plan -/
theorem RunV.plan (S : RunV L F w ord) : isPlanP L F (planR L F w ord) = true := by
  unfold isPlanP
  have h1 : (planR L F w ord).length = F.length := by unfold planR; rw [List.length_map]
  rw [decide_eq_true h1, Bool.true_and, Bool.and_eq_true]
  constructor
  · rw [List.all_eq_true]
    intro p hp
    obtain ⟨a, b⟩ := S.out p hp
    unfold outOk
    rw [decide_eq_true a, b]; rfl
  · unfold roomOk
    rw [List.all_eq_true]
    intro q hq
    obtain ⟨x, t⟩ := q
    have hx : x ∈ csL L := by
      unfold goesIn at hq
      obtain ⟨p, _, hp⟩ := List.mem_flatMap.mp hq
      exact cs_some.mp (way_mem _ (List.of_mem_zip hp).1)
    have h := S.fits x hx t
    have e : (goesIn L F (planR L F w ord)).count (x, t) = _ := goes_count L x t (F.zip (planR L F w ord))
    rw [e]
    exact decide_eq_true h
end
/-- the width, less one at ticks of holds -/
def wH (L : List Ln) (holds : List Int) (t : Nat) (x : Str) : Int := max 0 (widthOf L x - (if (t : Int) ∈ holds then 1 else 0))
def w0 (L : List Ln) (_ : Nat) (x : Str) : Int := widthOf L x
theorem runV0 {L : List Ln} {F : List Fk} {ord : Nat → List Str} (v : LanesV L) (hi : F.length ≤ 10) (one : ∀ f ∈ F, FkV L f) (nd : (F.map Fk.nm).Nodup) (pm : ∀ t, (ord t).Perm (F.map Fk.nm)) : RunV L F (w0 L) ord where
  v := v
  hi := hi
  one := one
  nd := nd
  pm := pm
  w0 := fun t x hx => by have := (width_cs v hx).1; show 0 ≤ widthOf L x; omega
  wl := fun t x hx => Int.le_refl _
  low := fun t _ x hx => by have := (width_cs v hx).1; show 0 < widthOf L x; omega
theorem runVH {L : List Ln} {F : List Fk} {ord : Nat → List Str} {holds : List Int} (hh : ∀ h ∈ holds, h < 12) (v : LanesV L) (hi : F.length ≤ 10) (one : ∀ f ∈ F, FkV L f) (nd : (F.map Fk.nm).Nodup) (pm : ∀ t, (ord t).Perm (F.map Fk.nm)) : RunV L F (wH L holds) ord where
  v := v
  hi := hi
  one := one
  nd := nd
  pm := pm
  w0 := fun t x hx => by unfold wH; omega
  wl := fun t x hx => by have := (width_cs v hx).1; unfold wH; split <;> omega
  low := fun t ht x hx => by
    have := (width_cs v hx).1
    unfold wH
    rw [if_neg (fun q => by have := hh _ q; omega)]
    omega
theorem wH_nil {L : List Ln} (v : LanesV L) : ∀ t, ∀ x ∈ csL L, wH L [] t x = widthOf L x := fun t x hx => by
  have := (width_cs v hx).1
  unfold wH
  simp
  omega
end DL

end
section

/-! What counts tell of plans and runs. -/
namespace DL
open PySem L2 PyProof.Rows MX
def tkP (F : List Fk) (P : List (List Int)) (f : Fk) : List Int := match (F.zip P).find? (fun p => decide (p.1.nm = f.nm)) with | some p => p.2 | none => []
theorem zip_nms {F : List Fk} {P : List (List Int)} (h : P.length = F.length) : (F.zip P).map (fun p => p.1) = F := by
  rw [List.map_fst_zip]
  omega
theorem find_zip {ps : List FP} (nd : (ps.map fun p => p.1.nm).Nodup) {p : FP} (h : p ∈ ps) : ps.find? (fun q => decide (q.1.nm = p.1.nm)) = some p := by
  induction ps with
  | nil => cases h
  | cons m L ih =>
    rw [List.find?_cons]
    by_cases q : m.1.nm = p.1.nm
    · rcases List.mem_cons.mp h with e | e
      · subst e; simp
      · rw [List.map_cons] at nd
        exact absurd (by rw [q]; exact List.mem_map.mpr ⟨p, e, rfl⟩) (List.nodup_cons.mp nd).1
    · simp only [q, decide_false]
      rcases List.mem_cons.mp h with e | e
      · subst e; exact absurd rfl q
      · rw [List.map_cons] at nd
        exact ih (List.nodup_cons.mp nd).2 e
theorem zip_nm_nd {F : List Fk} {P : List (List Int)} (nd : (F.map Fk.nm).Nodup) (h : P.length = F.length) : ((F.zip P).map fun p => p.1.nm).Nodup := by
  have : (F.zip P).map (fun p => p.1.nm) = ((F.zip P).map fun p => p.1).map Fk.nm := by rw [List.map_map]; rfl
  rw [this, zip_nms h]
  exact nd
theorem tk_zip {F : List Fk} {P : List (List Int)} (nd : (F.map Fk.nm).Nodup) (h : P.length = F.length) {p : FP} (hp : p ∈ F.zip P) : tkP F P p.1 = p.2 := by
  unfold tkP
  rw [find_zip (zip_nm_nd nd h) hp]
theorem zip_tk {F : List Fk} {P : List (List Int)} (nd : (F.map Fk.nm).Nodup) (h : P.length = F.length) : F.zip P = F.map fun f => (f, tkP F P f) := by
  have e : (F.zip P).map (fun p => (p.1, tkP F P p.1)) = F.zip P := by
    have : (F.zip P).map (fun p => (p.1, tkP F P p.1)) = (F.zip P).map id := List.map_congr_left fun p hp => by rw [tk_zip nd h hp]; rfl
    rw [this, List.map_id]
  have e2 : (F.zip P).map (fun p => (p.1, tkP F P p.1)) = ((F.zip P).map fun p => p.1).map fun f => (f, tkP F P f) := by rw [List.map_map]; rfl
  rw [← e, e2, zip_nms h]
theorem plan_len {L : List Ln} {F : List Fk} {P : List (List Int)} (h : isPlanP L F P = true) : P.length = F.length := (plan_parts h).1
theorem planR_len (L : List Ln) (F : List Fk) (w : Nat → Str → Int) (ord : Nat → List Str) : (planR L F w ord).length = F.length := by unfold planR; rw [List.length_map]
/-- some of the folk, by the ticks of a plan -/
def lotP (F : List Fk) (P : List (List Int)) (S : List Fk) : List FP := S.map fun f => (f, tkP F P f)
theorem lot_all {F : List Fk} {P : List (List Int)} (nd : (F.map Fk.nm).Nodup) (h : P.length = F.length) : lotP F P F = F.zip P := (zip_tk nd h).symm
theorem sm_sub {α : Type} {xs ys : List α} (h : xs.Sublist ys) (f : α → Nat) : sm xs f ≤ sm ys f := by
  induction h with
  | slnil => exact Nat.le_refl _
  | cons a _ ih => rw [sm_cons]; omega
  | cons_cons a _ ih => rw [sm_cons, sm_cons]; omega
/-- all by themselves as soon as can be: no plan brings more of a lot home -/
theorem lot_le {L : List Ln} {F S : List Fk} {P : List (List Int)} {ord : Nat → List Str} (v : LanesV L) (one : ∀ f ∈ F, FkV L f) (nd : (F.map Fk.nm).Nodup) (h : isPlanP L F P = true) (hS : S.Sublist F) (R : RunV L S (w0 L) ord) (t : Int) :
    HH (lotP F P S) (hP L) t ≤ HH (S.zip (planR L S (w0 L) ord)) (hP L) t := by
  have pl := plan_parts h
  have eq := zip_tk nd pl.1
  have sub : (lotP F P S).Sublist (F.zip P) := by rw [eq]; exact hS.map _
  have hF : ∀ p ∈ lotP F P S, FkV L p.1 := fun p hp => one _ (List.of_mem_zip (sub.subset hp)).1
  have hO : ∀ p ∈ lotP F P S, p.2.length = (wayL L p.1.cr).length ∧ (outGo L (wayL L p.1.cr) p.2 p.1.sn []).isSome = true := fun p hp => pl.2.1 p (sub.subset hp)
  have S1 := sysP v hF hO
  have F1 : Fits (csL L) (widthOf L) (lotP F P S) (RP L) := fun x hx t => by
    have a := fitsP v h x hx t
    have b : GG (lotP F P S) (RP L) x t ≤ GG (F.zip P) (RP L) x t := sm_sub sub _
    omega
  refine (home_le rfl rfl S1 F1 R.sys (R.full fun _ _ _ => rfl) (fun _ _ => Int.le_refl _) (fun _ _ => Int.le_refl _) fun x hx t => ?_).2 t
  have e1 : SS (lotP F P S) stP x t = sm S fun f => hereN x t f.cr f.sn := by unfold SS lotP; rw [sm_map]; rfl
  have e2 : SS (S.zip (planR L S (w0 L) ord)) stP x t = sm S fun f => hereN x t f.cr f.sn := by unfold SS; rw [RunV.zip, sm_map]; rfl
  rw [e1, e2]
  exact Nat.le_refl _
/-- whoever goes first: as many are home -/
theorem run_same {L : List Ln} {F : List Fk} {w : Nat → Str → Int} {ord ord' : Nat → List Str} (R : RunV L F w ord) (R' : RunV L F (w0 L) ord') (hw : ∀ t, ∀ x ∈ csL L, w t x = widthOf L x) :
    (∀ x ∈ csL L, ∀ t, EE (F.zip (planR L F w ord)) (RP L) x t = EE (F.zip (planR L F (w0 L) ord')) (RP L) x t) ∧ ∀ t, HH (F.zip (planR L F w ord)) (hP L) t = HH (F.zip (planR L F (w0 L) ord')) (hP L) t := by
  have s : ∀ x t, SS (F.zip (planR L F w ord)) stP x t = SS (F.zip (planR L F (w0 L) ord')) stP x t := fun x t => by
    unfold SS
    rw [RunV.zip, RunV.zip, sm_map, sm_map]
    rfl
  have a := home_le rfl rfl R.sys R.fits R'.sys (R'.full fun _ _ _ => rfl) (fun _ _ => Int.le_refl _) (fun _ _ => Int.le_refl _) fun x hx t => Nat.le_of_eq (s x t)
  have b := home_le rfl rfl R'.sys R'.fits R.sys (R.full hw) (fun _ _ => Int.le_refl _) (fun _ _ => Int.le_refl _) fun x hx t => Nat.le_of_eq (s x t).symm
  exact ⟨fun x hx t => Nat.le_antisymm (a.1 x hx t) (b.1 x hx t), fun t => Nat.le_antisymm (a.2 t) (b.2 t)⟩
/-! ### waits -/
def idleP (L : List Ln) (p : FP) : Int := ((RP L p).map fun r => r.g - r.s).sum
def wayT (L : List Ln) (c : Str) : Int := ((wayL L c).map (lgL L)).sum
theorem hP_eq {L : List Ln} (v : LanesV L) {p : FP} (hf : FkV L p.1) (h : p.2.length = (wayL L p.1.cr).length ∧ (outGo L (wayL L p.1.cr) p.2 p.1.sn []).isSome = true) : hP L p = p.1.sn + idleP L p + wayT L p.1.cr := by
  have c := (plan_chain v hf h).1
  have a := chain_sum c
  have b := (chain_rows v (.inr (cr_cs hf)) c).1
  rw [a]
  unfold idleP wayT
  rw [← b, List.map_map]
  rfl
theorem isum_add {α : Type} (f g : α → Int) : ∀ xs : List α, (xs.map fun x => f x + g x).sum = (xs.map f).sum + (xs.map g).sum
  | [] => rfl
  | x :: xs => by
    rw [List.map_cons, List.map_cons, List.map_cons, List.sum_cons, List.sum_cons, List.sum_cons, isum_add f g xs]
    omega
theorem sum_hP {L : List Ln} (v : LanesV L) {ps : List FP} (hF : ∀ p ∈ ps, FkV L p.1) (h : ∀ p ∈ ps, p.2.length = (wayL L p.1.cr).length ∧ (outGo L (wayL L p.1.cr) p.2 p.1.sn []).isSome = true) :
    (ps.map (hP L)).sum = ((ps.map (·.1)).map fun f => f.sn + wayT L f.cr).sum + (ps.map (idleP L)).sum := by
  have e : ps.map (hP L) = ps.map fun p => (p.1.sn + wayT L p.1.cr) + idleP L p := List.map_congr_left fun p hp => by
    rw [hP_eq v (hF p hp) (h p hp)]; omega
  rw [e, isum_add, List.map_map]
  rfl
theorem chain_end {G : Net Str} {c c' : Str} {s s' : Int} {rs : List (Row Str)} (hl : ∀ r ∈ rs, 0 ≤ G.lg r.c) (h : chain G c s rs c' s') : s ≤ s' := (chain_ge hl h).2
theorem hP_ge {L : List Ln} (v : LanesV L) {p : FP} (hf : FkV L p.1) (h : p.2.length = (wayL L p.1.cr).length ∧ (outGo L (wayL L p.1.cr) p.2 p.1.sn []).isSome = true) : p.1.sn ≤ hP L p := by
  obtain ⟨a, _, c⟩ := plan_chain v hf h
  exact chain_end (fun r hr => by have := (ground v).lg _ (c r hr); omega) a
/-- no plan makes wait less -/
theorem idle_le {L : List Ln} {F : List Fk} {P : List (List Int)} {ord : Nat → List Str} (v : LanesV L) (nd : (F.map Fk.nm).Nodup) (h : isPlanP L F P = true) (R : RunV L F (w0 L) ord) :
    ((F.zip (planR L F (w0 L) ord)).map (hP L)).sum ≤ ((F.zip P).map (hP L)).sum ∧ ((F.zip (planR L F (w0 L) ord)).map (idleP L)).sum ≤ ((F.zip P).map (idleP L)).sum ∧
    ∀ T, (∀ p ∈ F.zip P, hP L p ≤ T) → ∀ p ∈ F.zip (planR L F (w0 L) ord), hP L p ≤ T := by
  have pl := plan_parts h
  have hF : ∀ p ∈ F.zip P, FkV L p.1 := fun p hp => R.one _ (List.of_mem_zip hp).1
  have hc : ∀ t, HH (F.zip P) (hP L) t ≤ HH (F.zip (planR L F (w0 L) ord)) (hP L) t := fun t => by
    have := lot_le v R.one nd h (List.Sublist.refl F) R t
    rwa [lot_all nd pl.1] at this
  have hl : (F.zip P).length = (F.zip (planR L F (w0 L) ord)).length := by
    rw [List.length_zip, List.length_zip, pl.1, planR_len]
  have hs := sum_le_of hl (fun p hp => by have := (hF p hp).lo; have := hP_ge v (hF p hp) (pl.2.1 p hp); omega) (fun p hp => by have := (R.one' p hp).lo; have := hP_ge v (R.one' p hp) (R.out p hp); omega) hc
  have a := sum_hP v hF pl.2.1
  have b := sum_hP v R.one' R.out
  have e1 : (F.zip P).map (·.1) = F := zip_nms pl.1
  have e2 : (F.zip (planR L F (w0 L) ord)).map (·.1) = F := zip_nms (planR_len _ _ _ _)
  rw [e1] at a
  rw [e2] at b
  exact ⟨hs, by omega, fun T hT => last_le_of hl hc hT⟩
end DL

end
section

namespace DL
open PySem L2 PyProof.Rows MX
local macro_rules | `(tactic| walk_at "w") => `(tactic| ((conv => whnf); repeat (first | (refine br_t rfl ?_; conv => whnf) | (refine br_f rfl ?_; conv => whnf))))
local macro_rules | `(tactic| walk_at "g") => `(tactic| (walk_at "w"; repeat (refine ⟨rfl, ?_⟩; walk_at "w")))
/-! ### loops of two clauses -/
theorem dLCi_of {β : Type} {Kp : List DO → Prop} {t : TDG} {te : TD} {E : Sl} {Q : List D → List DO → Prop} {M : List DO} (enc : β → D) (f : β → D) (hk : Kp M) : ∀ (xs : List β) (acc : List D), acc.length + xs.length ≤ sizeLine →
    (∀ x ∈ xs, ∀ (Y : D → List DO → Prop), Y (f x) M → t (.d (enc x)) E M fun E1 M1 => te E1 M1 (onD Y)) → Q (acc ++ xs.map f) M → dLCi Kp t te E Q (xs.map enc) acc M
  | [], acc, _, _, q => by
    rw [List.map_nil, List.append_nil] at q
    exact ⟨hk, q⟩
  | x :: xs, acc, hl, st, q => by
    rw [List.length_cons] at hl
    refine ⟨hk, st x List.mem_cons_self _ ⟨by omega, ?_⟩⟩
    refine dLCi_of enc f hk xs _ (by rw [List.length_append, List.length_singleton]; omega) (fun y hy => st y (List.mem_cons_of_mem _ hy)) ?_
    rw [List.append_assoc]
    exact q
theorem dLC2_of {α β : Type} {Kp : List DO → Prop} {t : TDG} {T1 : TDI} {t1 : TDG} {te : TD} {vs1 : List Nat} {E : Sl} {Q : List D → List DO → Prop} {M : List DO} (enc : α → D) (g : α → List β) (f : α → β → D) (hk : Kp M) : ∀ (xs : List α) (acc : List D), acc.length + sm xs (fun x => (g x).length) ≤ sizeLine →
    (∀ x ∈ xs, ∀ (acc : List D) (R : List D → List DO → Prop), acc.length + (g x).length ≤ sizeLine → R (acc ++ (g x).map (f x)) M → t (.d (enc x)) E M fun E1 M1 => T1 E1 M1 fun es Kp1 M2 => dLCi Kp1 t1 te (wE E1 vs1) R es acc M2) →
    Q (acc ++ xs.flatMap fun x => (g x).map (f x)) M → dLC2 Kp t T1 t1 te vs1 E Q (xs.map enc) acc M
  | [], acc, _, _, q => by
    rw [List.flatMap_nil, List.append_nil] at q
    exact ⟨hk, q⟩
  | x :: xs, acc, hl, st, q => by
    rw [sm_cons] at hl
    refine ⟨hk, st x List.mem_cons_self acc _ (by omega) ?_⟩
    refine dLC2_of enc g f hk xs _ (by rw [List.length_append, List.length_map]; omega) (fun y hy => st y (List.mem_cons_of_mem _ hy)) ?_
    rw [List.append_assoc]
    exact q
theorem tss_none_len : ∀ {xs : List D} {P : List (List Int)}, tssD xs = some P → P.length = xs.length ∧ xs = P.map encTs
  | [], P, h => by cases h; exact ⟨rfl, rfl⟩
  | x :: xs, P, h => by
    unfold tssD at h
    split at h
    · rename_i t T e1 e2
      cases h
      obtain ⟨i1, i2⟩ := tss_none_len e2
      refine ⟨by rw [List.length_cons, List.length_cons, i1], ?_⟩
      rw [List.map_cons, ← i2]
      cases x <;> first | (cases e1; done) | skip
      rename_i ys
      have := intsD_eq (show intsD ys = some t from e1)
      rw [this]
      rfl
    · cases h
theorem tss_enc : ∀ P : List (List Int), tssD (P.map encTs) = some P
  | [] => rfl
  | t :: P => by
    have h : tsD (encTs t) = some t := by
      show intsD (t.map D.int) = some t
      have := intsD_map (fun x : Int => x) t
      rwa [List.map_id'] at this
    rw [List.map_cons, tssD, h, tss_enc P]
theorem outD_some {L : List Ln} {f : Fk} {d : D} (h : (outD L f d).isSome = true) : ∃ ts, d = encTs ts := by
  obtain ⟨ts, e, _⟩ := out_ts h
  exact ⟨ts, e⟩
theorem all_ts : ∀ {L : List Ln} {F : List Fk} {xs : List D}, xs.length = F.length → ((F.zip xs).all fun p => (outD L p.1 p.2).isSome) = true → ∃ P : List (List Int), xs = P.map encTs
  | L, [], [], _, _ => ⟨[], rfl⟩
  | L, f :: F, [], h, _ => by simp at h
  | L, [], x :: xs, h, _ => by simp at h
  | L, f :: F, x :: xs, h, ha => by
    rw [List.zip_cons_cons, List.all_cons, Bool.and_eq_true] at ha
    obtain ⟨ts, e⟩ := outD_some ha.1
    obtain ⟨P, e2⟩ := all_ts (by simpa using h) ha.2
    exact ⟨ts :: P, by rw [show x = encTs ts from e, e2]; rfl⟩
theorem zip_mapr {α β γ : Type} (g : β → γ) : ∀ (xs : List α) (ys : List β), xs.zip (ys.map g) = (xs.zip ys).map fun p => (p.1, g p.2)
  | [], _ => by simp
  | _ :: _, [] => by simp
  | x :: xs, y :: ys => by rw [List.map_cons, List.zip_cons_cons, List.zip_cons_cons, List.map_cons, zip_mapr g xs ys]
theorem isPlanD_enc {L : List Ln} {F : List Fk} (P : List (List Int)) : isPlanD L F (encP P) = isPlanP L F P := by
  show (match tssD (P.map encTs) with | some P => isPlanP L F P | none => false) = _
  rw [tss_enc]
def encCT (p : Str × Int) : D := .tup [.str p.1, .int p.2]
theorem encCT_inj {a b : Str × Int} (h : encCT a = encCT b) : a = b := by
  cases a; cases b
  simp [encCT] at h
  simp [h]
theorem count_enc (G : List (Str × Int)) (q : Str × Int) : ((G.map encCT).countP fun z => eqD z (encCT q)) = G.count q := by
  rw [List.countP_map, List.count]
  refine List.countP_congr fun p _ => ?_
  show eqD (encCT p) (encCT q) = true ↔ (p == q) = true
  rw [eqD_eq _ _ rfl rfl, beq_iff_eq]
  exact ⟨encCT_inj, fun h => by rw [h]⟩
theorem width_look {L : List Ln} {x : Str} {l : Ln} (h : lookL L x = some l) : widthOf L x = l.wd := by unfold widthOf; rw [h]
theorem w_is_plan_of : WPP 8 t_is_plan_of F_is_plan_of := by
  rintro _ Q E ⟨L, F, d, rfl, v, hF, hlF, hd, q⟩
  have h8 := v.hi
  have e : ∀ c : Bool, isPlanD L F d = c → Q (.bl c) := fun c h => h ▸ q
  cases d with
  | tup xs =>
    obtain ⟨hl, hs⟩ := Bool.and_eq_true_iff.mp hd
    have hl' : xs.length ≤ 1000 := of_decide_eq_true hl
    have hsm : ∀ x ∈ xs, small2 x = true := List.all_eq_true.mp hs
    walk_at "w"
    refine ⟨rfl, ?_⟩
    walk_at "w"
    refine ⟨rfl, rfl, ?_⟩
    rw [eqD_int, List.length_map]
    walk_at "w"
    refine br_of (fun h => ?_) (fun h => ?_)
    · have h : ¬ xs.length = F.length := fun z => by rw [z] at h; simp at h
      walk_at "w"
      refine e _ ?_
      show (match tssD xs with | some P => isPlanP L F P | none => false) = false
      cases ex : tssD xs with
      | none => rfl
      | some P =>
        have := (tss_none_len ex).1
        unfold isPlanP
        have : ¬ P.length = F.length := by omega
        dsimp only
        rw [decide_eq_false this]
        rfl
    · have h : xs.length = F.length := by
        have : (xs.length : Int) = (F.length : Int) := by simpa using h
        omega
      walk_at "w"
      rw [pair2_mapl]
      refine dLC_map (fun p : Fk × D => .tup [encFk p.1, p.2]) (fun p => .bl (outD L p.1 p.2).isSome) ⟨trivial, trivial⟩ _ (by rw [List.length_zip]; exact small_len (by omega)) (fun p hp Y N hy => ?_) ?_
      · have hp := List.of_mem_zip hp
        walk_at "w"
        refine ⟨rfl, ?_⟩
        walk_at "w"
        refine ⟨rfl, ?_⟩
        walk_at "w"
        refine ⟨L, p.1, p.2, rfl, v, hF _ hp.1, hsm _ hp.2, ?_⟩
        cases eo : outD L p.1 p.2 with
        | none =>
          rw [eo] at hy
          walk_at "w"
          exact hy
        | some r =>
          rw [eo] at hy
          walk_at "w"
          exact hy
      walk_at "w"
      rw [blsD_map]
      walk_at "w"
      rw [all_id_map]
      refine br_of (fun ha => ?_) (fun ha => ?_)
      · have ha : ((F.zip xs).all fun p => (outD L p.1 p.2).isSome) = false := by simpa using ha
        walk_at "w"
        refine e _ ?_
        show (match tssD xs with | some P => isPlanP L F P | none => false) = false
        cases ex : tssD xs with
        | none => rfl
        | some P =>
          obtain ⟨e1, e2⟩ := tss_none_len ex
          subst e2
          rw [zip_mapr, List.all_map] at ha
          have ha : ((F.zip P).all fun p => outOk L p.1 p.2) = false := by
            rw [← ha]
            congr 1
            funext p
            exact (out_enc p.2).symm
          dsimp only
          unfold isPlanP
          rw [ha, Bool.and_false]
          rfl
      · have ha : ((F.zip xs).all fun p => (outD L p.1 p.2).isSome) = true := by simpa using ha
        obtain ⟨P, rfl⟩ := all_ts h ha
        have e : ∀ c : Bool, roomOk L (goesIn L F P) = c → Q (.bl c) := fun c hc => e c (by
          rw [show D.tup (P.map encTs) = encP P from rfl, isPlanD_enc]
          rw [List.length_map] at h
          rw [zip_mapr, List.all_map] at ha
          have ha : ((F.zip P).all fun p => outOk L p.1 p.2) = true := by
            rw [← ha]
            congr 1
            funext p
            exact (out_enc p.2).symm
          unfold isPlanP
          rw [ha, decide_eq_true h]
          exact hc)
        walk_at "w"
        rw [List.length_map] at h hl'
        have hz : ∀ p ∈ F.zip P, ((wayL L p.1.cr).zip p.2).length ≤ 8 := fun p hp => by
          rw [List.length_zip]
          have := way_len8 v p.1.cr
          omega
        dsimp only
        rw [pair2_map]
        refine dLC2_of (fun p : FP => .tup [encFk p.1, encTs p.2]) (fun p => (wayL L p.1.cr).zip p.2) (fun _ => encCT) ⟨trivial, trivial⟩ _ _ ?_ (fun p hp acc R hR r => ?_) ?_
        · have : sm (F.zip P) (fun p => ((wayL L p.1.cr).zip p.2).length) ≤ sm (F.zip P) fun _ => 8 := sm_le hz
          have e8 : ∀ ps : List FP, sm ps (fun _ => 8) = 8 * ps.length := fun ps => by
            induction ps with
            | nil => rfl
            | cons p ps ih => rw [sm_cons, ih, List.length_cons]; omega
          rw [e8, List.length_zip] at this
          refine small_len ?_
          rw [List.length_nil, Nat.zero_add]
          exact Nat.le_trans this (by omega)
        · have hp := List.of_mem_zip hp
          have hf := hF _ hp.1
          walk_at "g"
          refine ⟨L, p.1.cr, rfl, v.nd, by omega, cr_ok v hf.cr, fun l hl => name_okS (v.lane l hl).2.1, ?_⟩
          rw [way_eq v hf.cr]
          walk_at "w"
          dsimp only
          rw [show pair2 (List.map D.str (wayL L p.1.cr)) (List.map D.int p.2) = _ from pair2_map _ _ _ _]
          refine dLCi_of (fun q : Str × Int => .tup [.str q.1, .int q.2]) encCT ⟨trivial, trivial⟩ _ _ hR (fun q hq Y hy => ?_) r
          walk_at "w"
          exact hy
        walk_at "w"
        rw [List.nil_append]
        refine ⟨L, rfl, v.nd, by omega, ?_⟩
        have eG : ((F.zip P).flatMap fun p => ((wayL L p.1.cr).zip p.2).map encCT) = (goesIn L F P).map encCT := by
          unfold goesIn
          rw [List.map_flatMap]
        rw [eG]
        have lG : (goesIn L F P).length ≤ 80 := by
          unfold goesIn
          rw [List.length_flatMap]
          have : sm (F.zip P) (fun p => ((wayL L p.1.cr).zip p.2).length) ≤ sm (F.zip P) fun _ => 8 := sm_le hz
          have e8 : ∀ ps : List FP, sm ps (fun _ => 8) = 8 * ps.length := fun ps => by
            induction ps with
            | nil => rfl
            | cons p ps ih => rw [sm_cons, ih, List.length_cons]; omega
          rw [e8, List.length_zip] at this
          unfold sm at this
          omega
        walk_at "w"
        have hin : ∀ q ∈ goesIn L F P, (lookL L q.1).isSome = true := fun q hq => by
          unfold goesIn at hq
          obtain ⟨p, _, hp⟩ := List.mem_flatMap.mp hq
          exact way_mem _ (List.of_mem_zip hp).1
        refine dLC_map encCT (fun q => .bl (decide (((goesIn L F P).count q : Int) ≤ widthOf L q.1))) trivial _ (small_len (by omega)) (fun q hq Y N hy => ?_) ?_
        · obtain ⟨l, el⟩ := Option.isSome_iff_exists.mp (hin q hq)
          have hx := (v.lane l (lookL_some el).1)
          have okx := name_ok hx.1
          rw [(lookL_some el).2] at okx
          walk_at "w"
          have lq : lay (encCT q) = true := by
            show (PyData.strOk q.1 && (true && true)) = true
            rw [okx]; rfl
          refine ⟨⟨?_, lay_py _ lq, by rw [dep_py _ lq]; show 1 ≤ 60; omega⟩, ?_⟩
          · refine lays_py _ (lays_map _ _ fun z hz => ?_)
            obtain ⟨l', el'⟩ := Option.isSome_iff_exists.mp (hin z hz)
            have okz := name_ok (v.lane l' (lookL_some el').1).1
            rw [(lookL_some el').2] at okz
            show (PyData.strOk z.1 && (true && true)) = true
            rw [okz]; rfl
          rw [count_enc]
          walk_at "w"
          rw [dlook_table, el]
          walk_at "w"
          rw [width_look el] at hy
          exact hy
        walk_at "w"
        rw [blsD_map]
        walk_at "w"
        rw [all_id_map]
        exact e _ rfl
  | _ =>
    first
    | (cases hd; done)
    | (walk_at "w"
       refine ⟨rfl, ?_⟩
       walk_at "w"
       exact e _ rfl)
theorem w_is_plan : WPP 3 t_is_plan F_is_plan := by
  rintro _ Q E ⟨d, e, x, rfl, hd, he, hx, q0, q⟩
  walk_at "w"
  refine ⟨d, e, rfl, hd, he, q0, fun L hL hv => ?_⟩
  subst hL
  obtain ⟨q1, q2⟩ := q L rfl hv
  refine ⟨fun hf => ?_, q1⟩
  obtain ⟨L', eL, v⟩ := lanes_of hv
  cases encLs_inj eL
  obtain ⟨F, rfl, fv⟩ := folk_of hf
  walk_at "w"
  refine ⟨L, F, x, rfl, v, fv.one, fv.hi, hx, ?_⟩
  exact q2 F rfl hf
end DL

end
section

namespace DL
open PySem L2 PyProof.Rows MX
local macro_rules | `(tactic| walk_at "w") => `(tactic| ((conv => whnf); repeat (first | (refine br_t rfl ?_; conv => whnf) | (refine br_f rfl ?_; conv => whnf))))
local macro_rules | `(tactic| walk_at "g") => `(tactic| (walk_at "w"; repeat (refine ⟨rfl, ?_⟩; walk_at "w")))
abbrev c_FAR : D := .int (10 ^ 15)
def encO (o : List Str) : D := .tup (o.map .str)
def planO (L : List Ln) (F : List Fk) (o : List Str) : List (List Int) := planR L F (w0 L) fun _ => o
/-- folk that may be asked, and an order of them -/
structure OrdV (L : List Ln) (F : List Fk) (o : List Str) : Prop where
  v : LanesV L
  hi : F.length ≤ 10
  one : ∀ f ∈ F, FkV L f
  nd : (F.map Fk.nm).Nodup
  pm : o.Perm (F.map Fk.nm)
theorem OrdV.run {L : List Ln} {F : List Fk} {o : List Str} (h : OrdV L F o) : RunV L F (w0 L) fun _ => o := runV0 h.v h.hi h.one h.nd fun _ => h.pm
def thereD (F : List Fk) (σ : Str → PS Str) : List (Key × D) := F.map fun f => (.inr f.nm, .tup [.str (σ f.nm).cr, .int (σ f.nm).sn])
def foundD (F : List Fk) (σ : Str → PS Str) : List (Key × List D) := F.map fun f => (.inr f.nm, (σ f.nm).rw.map fun r => .int r.g)
def leftD (L : List Ln) (lf : Str → Int) : List (Key × D) := L.map fun l => (.inr l.nm, .int (lf l.nm))
def F_ticks_by : FSp := fun args M Q _ => M = [] ∧ ∃ L F o, args = [.d (encLs L), .d (encFs F), .d (encO o)] ∧ OrdV L F o ∧ Q (.mu 0) [.dl (foundD F (finS L F (w0 L) fun _ => o))]
def F_plan_of : PSp := fun ds Q _ => ∃ L F o, ds = [encLs L, encFs F, encO o] ∧ OrdV L F o ∧ Q (encP (planO L F o))
def homesD (L : List Ln) (ps : List FP) : List (Key × D) := ps.map fun p => (.inr p.1.nm, .int (hP L p))
def F_home_ticks : PSp := fun ds Q _ => ∃ L F o, ds = [encLs L, encFs F, encO o] ∧ OrdV L F o ∧ Q (.dk (homesD L (F.zip (planO L F o))))
/-- ticks_by: lanes folk order table there found tick left name crossing since one -/
def t_ticks_by (Wd : Str → List DO → Prop) : TDS :=
  sSeq (sSet 3 (dCall F_table_of Wd (daCons (dVar 0) (daNil)))) (sSeq (sSet 4 (dDictM (iSeq (dVar 1)) (gN 11) (dYes) (dOp dIx (dVar 11) (dC (.int 0))) (dTup (daCons (dOp dIx (dVar 11) (dC (.int 1))) (daCons (dOp dIx (dVar 11) (dC (.int 2))) (daNil)))) [11])) (sSeq (sPar 5 6 (daCons (dDictL (iSeq (dVar 1)) (gN 11) (dOp dIx (dVar 11) (dC (.int 0))) [11]) (daCons (dC (.int 0)) (daNil)))) (sSeq (sWhile (dB (dCB dAny (daCons (dLock 4 (dComp (iValsD (dVar 4)) (gT 2 (gsCons (gN 9) (gsCons (gN 10) (gsNil)))) (dYes) (dOp dNe (dVar 9) (dC c_HOME)) [9, 10])) (daNil)))) (sSeq (sSet 7 (dDictM (iKeysD (dVar 3)) (gN 9) (dYes) (dVar 9) (dOp dIx (dOp dIx (dVar 3) (dVar 9)) (dC (.int 1))) [9])) (sSeq (sFor (iSeq (dVar 2)) (gN 8) (sSeq (sAsg (dOp dIx (dVar 4) (dVar 8)) (gT 2 (gsCons (gN 9) (gsCons (gN 10) (gsNil))))) (sIf (dAnd (dB (dOp dNe (dVar 9) (dC c_HOME))) (dAnd (dB (dOp dLe (dVar 10) (dVar 6))) (dB (dOp dGt (dOp dIx (dVar 7) (dVar 9)) (dC (.int 0)))))) (sSeq (sAsg (dOp dSub (dOp dIx (dVar 7) (dVar 9)) (dC (.int 1))) (gStore (dVar 7) (dVar 9))) (sSeq (sExpr (dAppL (dVar 5) (dVar 8) (daCons (dVar 6) (daNil)))) (sAsg (dTup (daCons (dOp dIx (dOp dIx (dVar 3) (dVar 9)) (dC (.int 0))) (daCons (dOp dAdd (dVar 6) (dOp dIx (dOp dIx (dVar 3) (dVar 9)) (dC (.int 2)))) (daNil)))) (gStore (dVar 4) (dVar 8))))) (sNext)))) (sSet 6 (dOp dAdd (dVar 6) (dC (.int 1))))))) (sRet (dVar 5)))))
/-- plan_of: lanes folk order found one -/
def t_plan_of (Wd : Str → List DO → Prop) : TDS :=
  sSeq (sSet 3 (dCallN F_ticks_by Wd (daCons (dVar 0) (daCons (dVar 1) (daCons (dVar 2) (daNil)))))) (sRet (dCB dTuple (daCons (dComp (iSeq (dVar 1)) (gN 4) (dYes) (dTupL (dVar 3) (dOp dIx (dVar 4) (dC (.int 0)))) [4]) (daNil))))
/-- home_ticks: lanes folk order one ticks -/
def t_home_ticks (Wd : Str → List DO → Prop) : TDS :=
  sRet (dDict (iZip2 (daCons (dVar 1) (daCons (dCall F_plan_of Wd (daCons (dVar 0) (daCons (dVar 1) (daCons (dVar 2) (daNil))))) (daNil)))) (gT 2 (gsCons (gN 3) (gsCons (gN 4) (gsNil)))) (dYes) (dOp dIx (dVar 3) (dC (.int 0))) (dOp dIx (dCall F_comes_out (fun _ _ => False) (daCons (dVar 0) (daCons (dVar 3) (daCons (dVar 4) (daNil))))) (dNeg (dC (.int 1)))) [3, 4])
theorem look_nm (F : List Fk) (v : Fk → D) (nd : (F.map Fk.nm).Nodup) {f : Fk} (h : f ∈ F) : look (F.map fun f => ((.inr f.nm : Key), v f)) (.inr f.nm) = some (v f) := by
  rw [look_map]
  have : (fun x : Fk => decide ((Sum.inr x.nm : Key) = Sum.inr f.nm)) = fun x => decide (x.nm = f.nm) := by
    funext x
    exact decide_eq_decide.mpr ⟨fun h => Sum.inr.inj h, fun h => congrArg _ h⟩
  rw [this, find_nm nd h]
  rfl
theorem look_ln (L : List Ln) (v : Ln → D) {c : Str} {l : Ln} (h : lookL L c = some l) : look (L.map fun l => ((.inr l.nm : Key), v l)) (.inr c) = some (v l) := by
  rw [look_map]
  have : (fun x : Ln => decide ((Sum.inr x.nm : Key) = Sum.inr c)) = fun x => decide (x.nm = c) := by
    funext x
    exact decide_eq_decide.mpr ⟨fun h => Sum.inr.inj h, fun h => congrArg _ h⟩
  rw [this]
  unfold lookL at h
  rw [h]
  rfl
theorem put_in {α : Type} (k : α → Str) (v v' : α → D) (c : Str) (x : D) {xs : List α} (hin : ∃ a ∈ xs, k a = c) (h1 : ∀ a ∈ xs, k a = c → v' a = x) (h2 : ∀ a ∈ xs, k a ≠ c → v' a = v a) :
    putD (xs.map fun a => ((.inr (k a) : Key), v a)) (.inr c) x = xs.map fun a => ((.inr (k a) : Key), v' a) := by
  unfold putD
  rw [if_pos]
  · rw [List.map_map]
    refine List.map_congr_left fun a ha => ?_
    by_cases q : k a = c
    · simp [q, h1 a ha q]
    · simp [q, h2 a ha q]
  · obtain ⟨a, ha, e⟩ := hin
    rw [List.any_map, List.any_eq_true]
    exact ⟨a, ha, by simp [e]⟩
theorem lookDl_nm (F : List Fk) (v : Fk → List D) (nd : (F.map Fk.nm).Nodup) {f : Fk} (h : f ∈ F) : lookDl (F.map fun f => ((.inr f.nm : Key), v f)) (.inr f.nm) = some (v f) := by
  induction F with
  | nil => cases h
  | cons m L ih =>
    rw [List.map_cons, lookDl]
    by_cases q : m.nm = f.nm
    · rcases List.mem_cons.mp h with e | e
      · subst e; simp
      · rw [List.map_cons] at nd
        exact absurd (by rw [q]; exact List.mem_map.mpr ⟨f, e, rfl⟩) (List.nodup_cons.mp nd).1
    · rw [if_neg (by simpa using q)]
      rcases List.mem_cons.mp h with e | e
      · subst e; exact absurd rfl q
      · rw [List.map_cons] at nd
        exact ih (List.nodup_cons.mp nd).2 e
theorem appD_nm (F : List Fk) (v v' : Fk → List D) (nd : (F.map Fk.nm).Nodup) {f : Fk} (h : f ∈ F) (y : D) (h1 : v' f = v f ++ [y]) (h2 : ∀ g ∈ F, g.nm ≠ f.nm → v' g = v g) :
    appD (F.map fun f => ((.inr f.nm : Key), v f)) (.inr f.nm) y = F.map fun f => ((.inr f.nm : Key), v' f) := by
  induction F with
  | nil => cases h
  | cons m L ih =>
    rw [List.map_cons] at nd
    obtain ⟨n1, n2⟩ := List.nodup_cons.mp nd
    rw [List.map_cons, List.map_cons, appD]
    by_cases q : m.nm = f.nm
    · rcases List.mem_cons.mp h with e | e
      · subst e
        rw [if_pos rfl, h1]
        congr 1
        refine List.map_congr_left fun g hg => ?_
        rw [h2 g (List.mem_cons_of_mem _ hg) fun z => n1 (by rw [← z]; exact List.mem_map.mpr ⟨g, hg, rfl⟩)]
      · exact absurd (by rw [q]; exact List.mem_map.mpr ⟨f, e, rfl⟩) n1
    · rw [if_neg (by simpa using q)]
      rcases List.mem_cons.mp h with e | e
      · subst e; exact absurd rfl q
      · rw [ih n2 e (fun g hg => h2 g (List.mem_cons_of_mem _ hg)), h2 m List.mem_cons_self q]
theorem get_last {α : Type} (xs : List α) (x : α) : (xs ++ [x])[xs.length]? = some x := by simp
theorem set_last {α : Type} (xs : List α) (x y : α) : (xs ++ [x]).set xs.length y = xs ++ [y] := by simp
theorem cr_strOk {L : List Ln} (v : LanesV L) {c : Str} (h : c ∈ csL L ∨ c = "home") : PyData.strOk c = true := by
  rcases h with h | h
  · exact (cr_ok v (cs_some.mpr h)).2
  · rw [h]; exact ok_home
theorem at_last (a b : DO) (junk : List DO) (x : DO) : (a :: b :: (junk ++ [x]))[junk.length + 2]? = some x := get_last junk x
theorem set2_last (a b : DO) (junk : List DO) (x y : DO) : (a :: b :: (junk ++ [x])).set (junk.length + 2) y = a :: b :: (junk ++ [y]) := congrArg (fun z => a :: b :: z) (set_last junk x y)
theorem rd_last (a b : DO) (junk : List DO) (kvs : List (Key × D)) : rd (a :: b :: (junk ++ [.dk kvs])) (.mu (junk.length + 2)) = some (.dk kvs) := by
  unfold rd
  dsimp only
  rw [at_last]
theorem left_look {L : List Ln} {c : Str} (lf : Str → Int) (h : (lookL L c).isSome = true) : look (leftD L lf) (.inr c) = some (.int (lf c)) := by
  obtain ⟨l, e⟩ := Option.isSome_iff_exists.mp h
  have := look_ln L (fun l => .int (lf l.nm)) e
  rw [(lookL_some e).2] at this
  exact this
theorem left_put {L : List Ln} {c : Str} (lf : Str → Int) (z : Int) (h : (lookL L c).isSome = true) : putD (leftD L lf) (.inr c) (.int z) = leftD L (updF lf c z) := by
  obtain ⟨l, e⟩ := Option.isSome_iff_exists.mp h
  obtain ⟨h1, h2⟩ := lookL_some e
  refine put_in Ln.nm _ _ c _ ⟨l, h1, h2⟩ (fun a _ q => ?_) (fun a _ q => ?_)
  · unfold updF; rw [if_pos q]
  · unfold updF; rw [if_neg q]
theorem there_put {F : List Fk} {f : Fk} (hf : f ∈ F) (σ : Str → PS Str) (p : PS Str) : putD (thereD F σ) (.inr f.nm) (.tup [.str p.cr, .int p.sn]) = thereD F (updF σ f.nm p) :=
  put_in Fk.nm _ _ f.nm _ ⟨f, hf, rfl⟩ (fun a _ q => by unfold updF; rw [if_pos q]) (fun a _ q => by unfold updF; rw [if_neg q])
theorem found_app {F : List Fk} (nd : (F.map Fk.nm).Nodup) {f : Fk} (hf : f ∈ F) (σ : Str → PS Str) (p : PS Str) (r : Row Str) (hp : p.rw = (σ f.nm).rw ++ [r]) : appD (foundD F σ) (.inr f.nm) (.int r.g) = foundD F (updF σ f.nm p) :=
  appD_nm F _ _ nd hf _ (by unfold updF; rw [if_pos rfl, hp, List.map_append]; rfl) (fun g _ q => by unfold updF; rw [if_neg q])
theorem store_k {kvs : List (Key × D)} (h : kvs.length < sizeLine) (c : Str) (x : D) : storeD (.dk kvs) (.str c) x = some (.dk (putD kvs (.inr c) x)) := by
  show (if kvs.length < sizeLine then some (DO.dk (putD kvs (.inr c) x)) else none) = _
  rw [if_pos h]
/-- one that may go on -/
structure PSv (L : List Ln) (p : PS Str) : Prop where
  cr : p.cr ∈ csL L ∨ p.cr = "home"
  ln : p.rw.length ≤ 1000
abbrev tbB : TDS := (sSeq (sAsg (dOp dIx (dVar 4) (dVar 8)) (gT 2 (gsCons (gN 9) (gsCons (gN 10) (gsNil))))) (sIf (dAnd (dB (dOp dNe (dVar 9) (dC c_HOME))) (dAnd (dB (dOp dLe (dVar 10) (dVar 6))) (dB (dOp dGt (dOp dIx (dVar 7) (dVar 9)) (dC (.int 0)))))) (sSeq (sAsg (dOp dSub (dOp dIx (dVar 7) (dVar 9)) (dC (.int 1))) (gStore (dVar 7) (dVar 9))) (sSeq (sExpr (dAppL (dVar 5) (dVar 8) (daCons (dVar 6) (daNil)))) (sAsg (dTup (daCons (dOp dIx (dOp dIx (dVar 3) (dVar 9)) (dC (.int 0))) (daCons (dOp dAdd (dVar 6) (dOp dIx (dOp dIx (dVar 3) (dVar 9)) (dC (.int 2)))) (daNil)))) (gStore (dVar 4) (dVar 8))))) (sNext)))
theorem tb_loop {L : List Ln} {F : List Fk} {De : DEnds} {Kp : List DO → Prop} (hk : ∀ M, Kp M) (v : LanesV L) (nd : (F.map Fk.nm).Nodup) (hF : F.length ≤ 10) {t : Nat} {a0 a1 a2 : Option Val} (junk : List DO) {y11 : Option Val} : ∀ (ns : List Str) (σ : Str → PS Str) (lf : Str → Int) (y8 y9 y10 : Option Val),
    ns.Nodup → (∀ n ∈ ns, n ∈ F.map Fk.nm ∧ PSv L (σ n)) →
    (∀ y8 y9 y10 lf', De.nx [a0, a1, a2, some (.d (.dk (tableL L))), some (.mu 0), some (.mu 1), some (.d (.int t)), some (.mu (junk.length + 2)), y8, y9, y10, y11] (.dk (thereD F (pass (netL L) t ns lf σ)) :: .dl (foundD F (pass (netL L) t ns lf σ)) :: (junk ++ [.dk (leftD L lf')]))) →
    dLoop Kp (gN 8) tbB De (ns.map .str) [a0, a1, a2, some (.d (.dk (tableL L))), some (.mu 0), some (.mu 1), some (.d (.int t)), some (.mu (junk.length + 2)), y8, y9, y10, y11] (.dk (thereD F σ) :: .dl (foundD F σ) :: (junk ++ [.dk (leftD L lf)]))
  | [], σ, lf, y8, y9, y10, _, _, q => ⟨hk _, q y8 y9 y10 lf⟩
  | n :: ns, σ, lf, y8, y9, y10, hn, hv, q => by
    obtain ⟨hn1, hn2⟩ := List.nodup_cons.mp hn
    obtain ⟨hin, hp⟩ := hv n List.mem_cons_self
    obtain ⟨f, hf, e⟩ := List.mem_map.mp hin
    subst e
    have lt := look_nm F (fun f => .tup [.str (σ f.nm).cr, .int (σ f.nm).sn]) nd hf
    have l8 := v.hi
    refine ⟨hk _, ?_⟩
    walk_at "w"
    rw [show dlook (.dk (thereD F σ)) (.str f.nm) = some (some (.tup [.str (σ f.nm).cr, .int (σ f.nm).sn])) from congrArg some lt]
    walk_at "g"
    have okc := cr_strOk v hp.cr
    refine ⟨okD_str okc, okD_str ok_home, ?_⟩
    rw [eqD_str]
    walk_at "w"
    have skip : ¬ (waits (netL L) t (σ f.nm) = true ∧ 0 < lf (σ f.nm).cr) → dLoop Kp (gN 8) tbB De (ns.map .str) [a0, a1, a2, some (.d (.dk (tableL L))), some (.mu 0), some (.mu 1), some (.d (.int t)), some (.mu (junk.length + 2)), some (.d (.str f.nm)), some (.d (.str (σ f.nm).cr)), some (.d (.int (σ f.nm).sn)), y11] (.dk (thereD F σ) :: .dl (foundD F σ) :: (junk ++ [.dk (leftD L lf)])) := fun h => by
      refine tb_loop hk v nd hF junk ns σ lf _ _ _ hn2 (fun n hn => hv n (List.mem_cons_of_mem _ hn)) fun z8 z9 z10 lf' => ?_
      have := q z8 z9 z10 lf'
      rw [pass, if_neg h] at this
      exact this
    refine br_of (fun h => ?_) (fun h => ?_)
    · have h1 : ¬ (σ f.nm).cr = "home" := by simpa using h
      have hcs := hp.cr.resolve_right h1
      obtain ⟨l, hlm, el, eln, hlv⟩ := cs_get v hcs
      walk_at "w"
      refine br_of (fun h => ?_) (fun h => ?_)
      · have h2 : (σ f.nm).sn ≤ t := by simpa using h
        have hw : waits (netL L) t (σ f.nm) = true := by
          unfold waits
          simp [h2]
          exact h1
        have es := cs_some.mpr hcs
        have sL : (leftD L lf).length < sizeLine := by unfold leftD; rw [List.length_map]; exact Nat.lt_of_le_of_lt l8 (by decide)
        have sF : (thereD F σ).length < sizeLine := by unfold thereD; rw [List.length_map]; exact Nat.lt_of_le_of_lt hF (by decide)
        walk_at "w"
        rw [rd_last]
        walk_at "w"
        rw [show dlook (.dk (leftD L lf)) (.str (σ f.nm).cr) = some (some (.int (lf (σ f.nm).cr))) from congrArg some (left_look lf es)]
        walk_at "w"
        refine br_of (fun h => ?_) (fun h => ?_)
        · have h3 : 0 < lf (σ f.nm).cr := by simpa using h
          walk_at "w"
          rw [rd_last]
          walk_at "w"
          rw [show dlook (.dk (leftD L lf)) (.str (σ f.nm).cr) = some (some (.int (lf (σ f.nm).cr))) from congrArg some (left_look lf es)]
          walk_at "w"
          rw [at_last]
          walk_at "w"
          rw [store_k sL]
          walk_at "w"
          rw [left_put lf _ es, set2_last]
          have lf1 := lookDl_nm F (fun f => (σ f.nm).rw.map fun r => D.int r.g) nd hf
          rw [show lookDl (foundD F σ) (.inr f.nm) = _ from lf1]
          walk_at "w"
          refine ⟨rfl, ?_⟩
          walk_at "w"
          refine ⟨rfl, ?_⟩
          walk_at "w"
          refine ⟨by rw [List.length_map]; exact Nat.lt_of_le_of_lt hp.ln (by decide), ?_⟩
          rw [found_app nd hf σ (moved (netL L) t (σ f.nm)) ⟨(σ f.nm).cr, (σ f.nm).sn, t⟩ rfl]
          walk_at "w"
          rw [dlook_table, el]
          walk_at "w"
          rw [dlook_table, el]
          walk_at "w"
          refine ⟨small_len (show 2 ≤ 1000 by omega), ?_⟩
          walk_at "w"
          rw [store_k sF]
          have ep : D.tup [.str l.to, .int ((t : Int) + l.lg)] = .tup [.str (moved (netL L) t (σ f.nm)).cr, .int (moved (netL L) t (σ f.nm)).sn] := by
            show _ = D.tup [.str (toL L (σ f.nm).cr), .int ((t : Int) + lgL L (σ f.nm).cr)]
            rw [toL_eq el, lgL_eq el]
          rw [ep, there_put hf]
          walk_at "w"
          refine tb_loop hk v nd hF junk ns (updF σ f.nm (moved (netL L) t (σ f.nm))) (updF lf (σ f.nm).cr (lf (σ f.nm).cr - 1)) _ _ _ hn2 (fun n hn => ?_) fun z8 z9 z10 lf' => ?_
          · have h := hv n (List.mem_cons_of_mem _ hn)
            refine ⟨h.1, ?_⟩
            unfold updF
            rw [if_neg (fun q => hn1 (by rw [← q]; exact hn))]
            exact h.2
          · have := q z8 z9 z10 lf'
            rw [pass, if_pos ⟨hw, h3⟩] at this
            exact this
        · have h3 : ¬ 0 < lf (σ f.nm).cr := by simpa using h
          walk_at "w"
          exact skip fun z => h3 z.2
      · have h2 : ¬ (σ f.nm).sn ≤ t := by simpa using h
        walk_at "w"
        refine skip fun z => h2 ?_
        have := z.1
        unfold waits at this
        simp at this
        exact this.2
    · have h1 : (σ f.nm).cr = "home" := by simpa using h
      walk_at "w"
      refine skip fun z => ?_
      have := z.1
      unfold waits at this
      simp at this
      exact this.1 h1
theorem dDL_of {α : Type} {Kp : List DO → Prop} {t : TDG} {tk : TD} {E : Sl} {Q : List Key → List DO → Prop} {M : List DO} (enc : α → D) (fk : α → Key) (hk : Kp M) : ∀ (xs : List α) (acc : List Key), acc.length + xs.length ≤ sizeLine → (acc ++ xs.map fk).Nodup →
    (∀ x ∈ xs, ∀ (Y : Key → List DO → Prop), Y (fk x) M → t (.d (enc x)) E M fun E1 M1 => tk E1 M1 (onK Y)) → Q (acc ++ xs.map fk) M → dDL Kp t tk E Q (xs.map enc) acc M
  | [], acc, _, _, _, q => by
    rw [List.map_nil, List.append_nil] at q
    exact ⟨hk, q⟩
  | x :: xs, acc, hl, nd, st, q => by
    rw [List.length_cons] at hl
    rw [List.map_cons] at nd q
    have e : acc ++ fk x :: xs.map fk = (acc ++ [fk x]) ++ xs.map fk := by simp
    refine ⟨hk, st x List.mem_cons_self _ ⟨by omega, fun q => (List.nodup_append.mp nd).2.2 _ q _ List.mem_cons_self rfl, ?_⟩⟩
    refine dDL_of enc fk hk xs _ (by rw [List.length_append, List.length_singleton]; omega) (by rw [← e]; exact nd) (fun y hy => st y (List.mem_cons_of_mem _ hy)) ?_
    rw [← e]
    exact q
theorem nd_keys {F : List Fk} (nd : (F.map Fk.nm).Nodup) : (F.map fun f => (Sum.inr f.nm : Key)).Nodup := by
  have := nd_inr nd
  rwa [List.map_map] at this
theorem nd_keysL {L : List Ln} (v : LanesV L) : (L.map fun f => (Sum.inr f.nm : Key)).Nodup := by
  have := nd_inr v.nd
  rwa [List.map_map] at this
theorem rw_len {L : List Ln} (v : LanesV L) {c' : Str} {s' : Int} : ∀ {rs : List (Row Str)} {c : Str} {s : Int}, (c ∈ csL L ∨ c = "home") → chain (netL L) c s rs c' s' → rs.length ≤ (wayL L c).length
  | [], c, s, _, _ => Nat.zero_le _
  | r :: rs, c, s, hc, h => by
    obtain ⟨h1, h2, h3, h4, h5⟩ := h
    have hc := hc.resolve_right h2
    obtain ⟨l, _, e, _, _⟩ := cs_get v hc
    have wc := way_cons v e
    have h5 : chain (netL L) (toL L c) (r.g + lgL L c) rs c' s' := h5
    rw [toL_eq e] at h5
    have := rw_len v wc.2.symm h5
    rw [wc.1, List.length_cons, List.length_cons]
    omega
theorem OrdV.psv {L : List Ln} {F : List Fk} {w : Nat → Str → Int} {ord : Nat → List Str} (S : RunV L F w ord) (t : Nat) : ∀ n ∈ F.map Fk.nm, PSv L (rn (netL L) w ord (stF F) t n) := fun n hn => by
  have a := at_run S.runs t n hn
  obtain ⟨f, hf, e⟩ := List.mem_map.mp hn
  subst e
  refine ⟨a.cr, ?_⟩
  have c := a.ch
  rw [stF_mem S.nd hf] at c
  have := rw_len S.v (.inl (cr_cs (S.one f hf))) c
  have := way_len8 S.v f.cr
  dsimp only at *
  omega
theorem len_ticks_by : ∀ args M Q E, F_ticks_by args M Q E → args.length = 3 := by
  rintro _ _ _ _ ⟨_, _, _, _, rfl, _⟩; rfl
theorem any_home (F : List Fk) (σ : Str → PS Str) : (F.map fun f => !decide ((σ f.nm).cr = "home")).any id = false → ∀ n ∈ F.map Fk.nm, (σ n).cr = "home" := fun h n hn => by
  obtain ⟨f, hf, e⟩ := List.mem_map.mp hn
  subst e
  rw [List.any_map, List.any_eq_false] at h
  have := h f hf
  simpa using this
theorem any_home' (F : List Fk) (σ : Str → PS Str) : (F.map fun f => !decide ((σ f.nm).cr = "home")).any id = true → ∃ n ∈ F.map Fk.nm, (σ n).cr ≠ "home" := fun h => by
  rw [List.any_map, List.any_eq_true] at h
  obtain ⟨f, hf, e⟩ := h
  exact ⟨f.nm, List.mem_map.mpr ⟨f, hf, rfl⟩, by simpa using e⟩
def WTb (L : List Ln) (F : List Fk) (o : List Str) (a0 a1 a2 : Option Val) : Nat → Sl → List DO → Prop := fun m E M => ∃ (t : Nat) (y7 y8 y9 y10 y11 : Option Val) (junk : List DO),
  E = [a0, a1, a2, some (.d (.dk (tableL L))), some (.mu 0), some (.mu 1), some (.d (.int t)), y7, y8, y9, y10, y11] ∧ M = .dk (thereD F (rn (netL L) (w0 L) (fun _ => o) (stF F) t)) :: .dl (foundD F (rn (netL L) (w0 L) (fun _ => o) (stF F) t)) :: junk ∧
  Meas (netL L) (dL L) (F.map Fk.nm) 12 m t (rn (netL L) (w0 L) (fun _ => o) (stF F) t)
theorem meas0 {L : List Ln} {F : List Fk} {w : Nat → Str → Int} {ord : Nat → List Str} (S : RunV L F w ord) : ∃ m, Meas (netL L) (dL L) (F.map Fk.nm) 12 m 0 (rn (netL L) w ord (stF F) 0) := by
  refine ⟨_, 50, by omega, fun n hn _ => ?_, rfl⟩
  obtain ⟨f, hf, e⟩ := List.mem_map.mp hn
  subst e
  show (stF F f.nm).2 ≤ _
  rw [stF_mem S.nd hf]
  exact (S.one f hf).hi
theorem there0 {L : List Ln} {F : List Fk} {w : Nat → Str → Int} {ord : Nat → List Str} (nd : (F.map Fk.nm).Nodup) (mk : Str → Int → D) : (F.map fun f => ((.inr f.nm : Key), mk (rn (netL L) w ord (stF F) 0 f.nm).cr (rn (netL L) w ord (stF F) 0 f.nm).sn)) = F.map fun f => (.inr f.nm, mk f.cr f.sn) := List.map_congr_left fun f hf => by
  show ((.inr f.nm : Key), mk (stF F f.nm).1 (stF F f.nm).2) = _
  rw [stF_mem nd hf]
theorem w_ticks_by : ∀ args M Qd Ed, F_ticks_by args M Qd Ed → t_ticks_by (fun n M' => Ed n (M'.take M.length)) { nx := fun _ M' => Qd (.d .non) (M'.take M.length), rt := retN M.length Qd } (startD 12 args) M := by
  rintro _ _ Qd Ed ⟨rfl, L, F, o, rfl, hO, q⟩
  have v := hO.v
  have S := hO.run
  have h8 := v.hi
  walk_at "w"
  refine ⟨L, rfl, v.nd, by omega, ?_⟩
  walk_at "w"
  refine dDC_map encFk (fun f => .inr f.nm) (fun f => .tup [.str f.cr, .int f.sn]) trivial F (small_len (by have := hO.hi; omega)) (nd_keys hO.nd) (fun f hf Y N h => ?_) ?_
  · walk_at "w"
    refine ⟨small_len (show 2 ≤ 1000 by omega), ?_⟩
    walk_at "w"
    exact h
  walk_at "w"
  refine dDL_of encFk (fun f => .inr f.nm) trivial F [] (small_len (by have := hO.hi; rw [List.length_nil]; omega)) (by rw [List.nil_append]; exact nd_keys hO.nd) (fun f hf Y h => ?_) ?_
  · walk_at "w"
    exact h
  walk_at "w"
  obtain ⟨m0, hm0⟩ := meas0 S
  refine ⟨WTb L F o _ _ _, ⟨m0, 0, _, _, _, _, _, [], rfl, ?_, hm0⟩, ?_⟩
  · rw [thereD, there0 hO.nd fun c s => .tup [.str c, .int s]]
    show [_, DO.dl ((F.map fun f => (Sum.inr f.nm : Key)).map fun k => (k, []))] = _
    rw [List.map_map]
    rfl
  · rintro m _ _ ⟨t, y7, y8, y9, y10, y11, junk, rfl, rfl, hm⟩
    have P := OrdV.psv S t
    generalize hσ : rn (netL L) (w0 L) (fun _ => o) (stF F) t = σ at *
    walk_at "w"
    intro tok
    walk_at "w"
    unfold thereD
    rw [List.map_map]
    refine dLC_map (fun f : Fk => .tup [.str (σ f.nm).cr, .int (σ f.nm).sn]) (fun f => .bl (!decide ((σ f.nm).cr = "home"))) ?_ F (small_len (by have := hO.hi; omega)) (fun f hf Y N h => ?_) ?_
    · rfl
    · walk_at "g"
      have := P f.nm (List.mem_map.mpr ⟨f, hf, rfl⟩)
      refine ⟨okD_str (cr_strOk v this.cr), okD_str ok_home, ?_⟩
      rw [eqD_str]
      walk_at "w"
      exact h
    walk_at "g"
    rw [blsD_map]
    walk_at "w"
    refine br_of (fun h => ?_) (fun h => ?_)
    · walk_at "w"
      rw [show (tableL L).map (fun kv => kD kv.1) = L.map (fun l => .str l.nm) from by unfold tableL; rw [List.map_map]; rfl]
      refine dDC_map (fun l : Ln => .str l.nm) (fun l => .inr l.nm) (fun l => .int l.wd) trivial L (small_len (by omega)) (nd_keysL v) (fun l hl Y N h => ?_) ?_
      · walk_at "w"
        rw [dlook_table, lookL_mem v.nd hl]
        walk_at "w"
        exact h
      walk_at "w"
      have eL : (L.map fun l => ((Sum.inr l.nm : Key), D.int l.wd)) = leftD L (w0 L t) := List.map_congr_left fun l hl => by
        show _ = ((Sum.inr l.nm : Key), D.int (widthOf L l.nm))
        rw [width_look (lookL_mem v.nd hl)]
      rw [eL]
      refine tb_loop (fun _ => trivial) v hO.nd hO.hi junk o σ (w0 L t) _ _ _ (S.runs.on t) (fun n hn => ?_) fun y8 y9 y10 lf' => ?_
      · have := hO.pm.mem_iff.mp hn
        exact ⟨this, P n this⟩
      walk_at "w"
      obtain ⟨m', h1, h2⟩ := meas_step (far v) hO.nd hO.pm (lf := w0 L t) (fun n hn => (P n hn).cr) (S.w0 t) (fun h => S.low t h) hm (any_home' F σ h)
      refine ⟨m', h1, t + 1, _, _, _, _, _, junk ++ [.dk (leftD L lf')], rfl, ?_, ?_⟩
      · rw [show rn (netL L) (w0 L) (fun _ => o) (stF F) (t + 1) = pass (netL L) t o (w0 L t) σ from by rw [← hσ]; rfl]
      · rw [show rn (netL L) (w0 L) (fun _ => o) (stF F) (t + 1) = pass (netL L) t o (w0 L t) σ from by rw [← hσ]; rfl]
        exact h2
    · walk_at "w"
      refine ⟨Nat.zero_le _, ?_⟩
      walk_at "w"
      have e := S.same (t := t) (by rw [hσ]; exact any_home F σ h)
      have e2 : foundD F σ = foundD F (finS L F (w0 L) fun _ => o) := List.map_congr_left fun f hf => by
        rw [← hσ, e f.nm (List.mem_map.mpr ⟨f, hf, rfl⟩)]
      rw [e2]
      exact q
theorem plan_enc {L : List Ln} {F : List Fk} {w : Nat → Str → Int} {ord : Nat → List Str} : (F.map fun f => D.tup ((finS L F w ord f.nm).rw.map fun r => D.int r.g)) = (planR L F w ord).map encTs := by
  unfold planR
  rw [List.map_map]
  refine List.map_congr_left fun f _ => ?_
  show _ = D.tup (((finS L F w ord f.nm).rw.map Row.g).map D.int)
  rw [List.map_map]
  rfl
theorem w_plan_of : WPP 5 t_plan_of F_plan_of := by
  rintro _ Q E ⟨L, F, o, rfl, hO, q⟩
  walk_at "w"
  refine ⟨rfl, L, F, o, rfl, hO, ?_⟩
  walk_at "w"
  refine dLC_map encFk (fun f => .tup ((finS L F (w0 L) (fun _ => o) f.nm).rw.map fun r => .int r.g)) trivial F (small_len (by have := hO.hi; omega)) (fun f hf Y N h => ?_) ?_
  · walk_at "w"
    rw [show lookDl (foundD F (finS L F (w0 L) fun _ => o)) (.inr f.nm) = _ from lookDl_nm F (fun f => (finS L F (w0 L) (fun _ => o) f.nm).rw.map fun r : Row Str => D.int r.g) hO.nd hf]
    walk_at "w"
    exact h
  walk_at "w"
  rw [plan_enc]
  exact q
theorem atI_last {α : Type} {xs : List α} {x : α} (h : xs.getLast? = some x) : atI xs (-1) = some x := by
  have hl : xs ≠ [] := by intro q; rw [q] at h; cases h
  rw [List.getLast?_eq_getElem?] at h
  have hp : 0 < xs.length := List.length_pos_iff.mpr hl
  unfold atI ixN
  rw [if_neg (by omega), if_pos (by omega)]
  show xs[((-1 : Int) + xs.length).toNat]? = _
  rw [show ((-1 : Int) + xs.length).toNat = xs.length - 1 by omega]
  exact h
theorem outD_enc {L : List Ln} {f : Fk} {ts : List Int} (h1 : ts.length = (wayL L f.cr).length) : outD L f (encTs ts) = outGo L (wayL L f.cr) ts f.sn [] := by
  show (if (ts.map D.int).length = (wayL L f.cr).length then (match intsD (ts.map D.int) with | some ts => outGo L (wayL L f.cr) ts f.sn [] | none => none) else none) = _
  rw [List.length_map, if_pos h1]
  have : intsD (ts.map D.int) = some ts := by
    have := intsD_map (fun x : Int => x) ts
    rwa [List.map_id'] at this
  rw [this]
theorem small_ts {ts : List Int} (h : ts.length ≤ 1000) : small2 (encTs ts) = true := by
  show (decide ((ts.map D.int).length ≤ 1000) && (ts.map D.int).all small1) = true
  rw [List.length_map, decide_eq_true h, List.all_map]
  rw [Bool.true_and, List.all_eq_true]
  intro x _
  rfl
/-- one of a plan -/
structure OneP (L : List Ln) (p : FP) : Prop where
  f : FkV L p.1
  ln : p.2.length = (wayL L p.1.cr).length
  out : (outGo L (wayL L p.1.cr) p.2 p.1.sn []).isSome = true
theorem OneP.len {L : List Ln} {p : FP} (h : OneP L p) (v : LanesV L) : p.2.length ≤ 8 := by
  rw [h.ln]; exact way_len8 v _
theorem OneP.outs {L : List Ln} {p : FP} (h : OneP L p) (v : LanesV L) : outD L p.1 (encTs p.2) = some (outsL L (wayL L p.1.cr) p.2) := by
  rw [outD_enc h.ln]
  exact (plan_chain v h.f ⟨h.ln, h.out⟩).2.1
theorem way_ne {L : List Ln} (v : LanesV L) {c : Str} (h : c ∈ csL L) : wayL L c ≠ [] := by
  obtain ⟨l, _, e, _, _⟩ := cs_get v h
  rw [(way_cons v e).1]
  simp
theorem OneP.last {L : List Ln} {p : FP} (h : OneP L p) (v : LanesV L) : atI ((outsL L (wayL L p.1.cr) p.2).map D.int) (-1) = some (.int (hP L p)) := by
  refine atI_last ?_
  rw [List.getLast?_map, outs_last L _ _ p.1.sn h.ln.symm (way_ne v (cr_cs h.f))]
  rfl
theorem RunV.oneP {L : List Ln} {F : List Fk} {w : Nat → Str → Int} {ord : Nat → List Str} (S : RunV L F w ord) : ∀ p ∈ F.zip (planR L F w ord), OneP L p := fun p hp => ⟨S.one' p hp, (S.out p hp).1, (S.out p hp).2⟩
theorem planP_one {L : List Ln} {F : List Fk} {P : List (List Int)} (one : ∀ f ∈ F, FkV L f) (h : isPlanP L F P = true) : ∀ p ∈ F.zip P, OneP L p := fun p hp => by
  have := (plan_parts h).2.1 p hp
  exact ⟨one _ (List.of_mem_zip hp).1, this.1, this.2⟩
theorem zip_nd {F : List Fk} {P : List (List Int)} (nd : (F.map Fk.nm).Nodup) (h : P.length = F.length) : ((F.zip P).map fun p => (Sum.inr p.1.nm : Key)).Nodup := by
  have := nd_inr (zip_nm_nd nd h)
  rwa [List.map_map] at this
theorem w_home_ticks : WPP 5 t_home_ticks F_home_ticks := by
  rintro _ Q E ⟨L, F, o, rfl, hO, q⟩
  have S := hO.run
  walk_at "w"
  refine ⟨L, F, o, rfl, hO, ?_⟩
  walk_at "w"
  dsimp only
  rw [show pair2 (F.map encFk) ((planO L F o).map encTs) = _ from pair2_map _ _ _ _]
  refine dDC_map (fun p : FP => .tup [encFk p.1, encTs p.2]) (fun p => .inr p.1.nm) (fun p => .int (hP L p)) ⟨trivial, trivial⟩ _ (small_len (by have := hO.hi; rw [List.length_zip]; omega)) (zip_nd hO.nd (planR_len _ _ _ _)) (fun p hp Y N h => ?_) q
  have h1 := S.oneP p hp
  walk_at "g"
  refine ⟨L, p.1, encTs p.2, rfl, hO.v, h1.f, small_ts (by have := h1.len hO.v; omega), ?_⟩
  rw [h1.outs hO.v]
  walk_at "w"
  rw [show -(1 : Int) = -1 from rfl, h1.last hO.v]
  walk_at "w"
  exact h
end DL

end
section

namespace DL
open PySem L2 PyProof.Rows MX
local macro_rules | `(tactic| walk_at "w") => `(tactic| ((conv => whnf); repeat (first | (refine br_t rfl ?_; conv => whnf) | (refine br_f rfl ?_; conv => whnf))))
local macro_rules | `(tactic| walk_at "g") => `(tactic| (walk_at "w"; repeat (refine ⟨rfl, ?_⟩; walk_at "w")))
def nmsF (F : List Fk) : List Str := F.map Fk.nm
def F_names_of : PSp := fun ds Q _ => ∃ F, ds = [encFs F] ∧ F.length ≤ 1000 ∧ Q (encO (nmsF F))
def F_need_tick : PSp := fun ds Q E => ∃ d, ds = [d] ∧ (tyN d).isSome = true ∧ (isWholeD d 0 (10 ^ 15) = true → Q .non) ∧ (isWholeD d 0 (10 ^ 15) = false → E "NoTick")
/-- lanes and folk of anything, refused in order; then as told of such -/
def askF (d e : D) (E : Str → Prop) (K : List Ln → List Fk → Prop) : Prop := small3 d = true ∧ small3 e = true ∧ (areLanesD d = false → E "NoLanes") ∧ ∀ L, d = encLs L → LanesV L → (areFolkD L e = false → E "NoFolk") ∧ ∀ F, e = encFs F → FolkV L F → K L F
/-- the plan by the order of names -/
def planN (L : List Ln) (F : List Fk) : List (List Int) := planO L F (nmsF F)
abbrev zN (L : List Ln) (F : List Fk) : List FP := F.zip (planN L F)
def F_home_by : PSp := fun ds Q E => ∃ d e x, ds = [d, e, x] ∧ (tyN x).isSome = true ∧ askF d e E fun L F => (isWholeD x 0 (10 ^ 15) = false → E "NoTick") ∧ ∀ t, x = .int t → 0 ≤ t → t ≤ 10 ^ 15 → Q (.int (HH (zN L F) (hP L) t : Nat))
def encRow (r : Row Str) : D := .tup [.str r.c, .int r.s, .int r.g]
def rowsZ (L : List Ln) (ps : List FP) : List (Row Str) := ps.flatMap (RP L)
def F_stays : PSp := fun ds Q _ => ∃ L F, ds = [encLs L, encFs F] ∧ LanesV L ∧ FolkV L F ∧ Q (.lst ((rowsZ L (zN L F)).map encRow))
def F_last_home : PSp := fun ds Q E => ∃ d e, ds = [d, e] ∧ askF d e E fun L F => Q (.int (maxI ((zN L F).map (hP L))))
def F_waited : PSp := fun ds Q E => ∃ d e, ds = [d, e] ∧ askF d e E fun L F => Q (.int ((rowsZ L (zN L F)).map fun r => r.g - r.s).sum)
/-- need_tick: tick -/
def t_need_tick (Wd : Str → List DO → Prop) : TDS :=
  sIf (dNot (dB (dCall F_is_whole Wd (daCons (dVar 0) (daCons (dC (.int 0)) (daCons (dC c_FAR) (daNil))))))) (sRaise Wd "NoTick") (sNext)
/-- names_of: folk one -/
def t_names_of (Wd : Str → List DO → Prop) : TDS :=
  sRet (dCB dTuple (daCons (dComp (iSeq (dVar 0)) (gN 1) (dYes) (dOp dIx (dVar 1) (dC (.int 0))) [1]) (daNil)))
/-- home_by: lanes folk tick name there -/
def t_home_by (Wd : Str → List DO → Prop) : TDS :=
  sSeq (sExpr (dCall F_need_folk Wd (daCons (dVar 0) (daCons (dVar 1) (daNil))))) (sSeq (sExpr (dCall F_need_tick Wd (daCons (dVar 2) (daNil)))) (sRet (dCB dLen (daCons (dComp (iItemsD (dCall F_home_ticks Wd (daCons (dVar 0) (daCons (dVar 1) (daCons (dCall F_names_of Wd (daCons (dVar 1) (daNil))) (daNil)))))) (gT 2 (gsCons (gN 3) (gsCons (gN 4) (gsNil)))) (dB (dOp dLe (dVar 4) (dVar 2))) (dVar 3) [3, 4]) (daNil)))))
/-- stays: lanes folk found one ticks there -/
def t_stays (Wd : Str → List DO → Prop) : TDS :=
  sSeq (sSet 2 (dLstM (daNil))) (sSeq (sFor (iZip2 (daCons (dVar 1) (daCons (dCall F_plan_of Wd (daCons (dVar 0) (daCons (dVar 1) (daCons (dCall F_names_of Wd (daCons (dVar 1) (daNil))) (daNil))))) (daNil)))) (gT 2 (gsCons (gN 3) (gsCons (gN 4) (gsNil)))) (sSeq (sSet 5 (dOp dAdd (dLst (daCons (dOp dIx (dVar 3) (dC (.int 2))) (daNil))) (dCall F_comes_out Wd (daCons (dVar 0) (daCons (dVar 3) (daCons (dVar 4) (daNil))))))) (sExpr (dMeth isLst rExtD (dVar 2) (daCons (dListZ3 (daCons (dCall F_way_of Wd (daCons (dVar 0) (daCons (dOp dIx (dVar 3) (dC (.int 1))) (daNil)))) (daCons (dVar 5) (daCons (dVar 4) (daNil))))) (daNil)))))) (sRet (dVar 2)))
/-- last_home: lanes folk -/
def t_last_home (Wd : Str → List DO → Prop) : TDS :=
  sSeq (sExpr (dCall F_need_folk Wd (daCons (dVar 0) (daCons (dVar 1) (daNil))))) (sRet (dMaxVals (dCall F_home_ticks Wd (daCons (dVar 0) (daCons (dVar 1) (daCons (dCall F_names_of Wd (daCons (dVar 1) (daNil))) (daNil)))))))
/-- waited: lanes folk here since gone -/
def t_waited (Wd : Str → List DO → Prop) : TDS :=
  sSeq (sExpr (dCall F_need_folk Wd (daCons (dVar 0) (daCons (dVar 1) (daNil))))) (sRet (dCB dSum (daCons (dComp (iSeq (dCall F_stays Wd (daCons (dVar 0) (daCons (dVar 1) (daNil))))) (gT 3 (gsCons (gN 2) (gsCons (gN 3) (gsCons (gN 4) (gsNil))))) (dYes) (dOp dSub (dVar 4) (dVar 3)) [2, 3, 4]) (daNil))))
theorem FolkV.ord {L : List Ln} {F : List Fk} (f : FolkV L F) (v : LanesV L) : OrdV L F (nmsF F) := ⟨v, f.hi, f.one, f.nd, List.Perm.refl _⟩
theorem w_names_of : WPP 2 t_names_of F_names_of := by
  rintro _ Q E ⟨F, rfl, hl, q⟩
  walk_at "w"
  refine dLC_map encFk (fun f => .str f.nm) trivial F (small_len hl) (fun f hf Y N h => ?_) ?_
  · walk_at "w"
    exact h
  walk_at "w"
  rw [show F.map (fun f => D.str f.nm) = (nmsF F).map .str from by unfold nmsF; rw [List.map_map]; rfl]
  exact q
theorem w_need_tick : WPP 1 t_need_tick F_need_tick := by
  rintro _ Q E ⟨d, rfl, ht, q1, q2⟩
  walk_at "w"
  refine ⟨d, 0, _, rfl, ht, ?_⟩
  walk_at "w"
  refine br_of (fun h => ?_) (fun h => ?_)
  · exact q2 (by simpa using h)
  · exact q1 (by simpa using h)
theorem ask_use {d e : D} {E : Str → Prop} {K : List Ln → List Fk → Prop} {Q0 W1 W2 : Prop} (h : askF d e E K) (hW1 : E "NoLanes" → W1) (hW2 : E "NoFolk" → W2) (hQ : ∀ L F, d = encLs L → e = encFs F → LanesV L → FolkV L F → K L F → Q0) :
    ∃ d1 e1, [d, e] = [d1, e1] ∧ small3 d1 = true ∧ small3 e1 = true ∧ (areLanesD d1 = false → W1) ∧ ∀ L, d1 = encLs L → areLanesD d1 = true → (areFolkD L e1 = true → Q0) ∧ (areFolkD L e1 = false → W2) := by
  obtain ⟨h1, h2, h3, h4⟩ := h
  refine ⟨d, e, rfl, h1, h2, fun h => hW1 (h3 h), fun L hL hv => ?_⟩
  subst hL
  obtain ⟨L', eL, v⟩ := lanes_of hv
  cases encLs_inj eL
  obtain ⟨k1, k2⟩ := h4 L rfl v
  refine ⟨fun hf => ?_, fun hf => hW2 (k1 hf)⟩
  obtain ⟨F, rfl, fv⟩ := folk_of hf
  exact hQ L F rfl rfl v fv (k2 F rfl fv)
theorem whole_of {x : D} {a b : Int} (h : isWholeD x a b = true) : ∃ t, x = .int t ∧ a ≤ t ∧ t ≤ b := by
  cases x <;> first | (cases h; done) | skip
  rename_i t
  have h : (decide (a ≤ t) && decide (t ≤ b)) = true := h
  rw [Bool.and_eq_true] at h
  exact ⟨t, rfl, of_decide_eq_true h.1, of_decide_eq_true h.2⟩
theorem zN_len (L : List Ln) (F : List Fk) : (zN L F).length = F.length := by
  rw [List.length_zip, planN, planO, planR_len]; omega
theorem w_home_by : WPP 5 t_home_by F_home_by := by
  rintro _ Q E ⟨d, e, x, rfl, ht, q⟩
  walk_at "w"
  refine ask_use q (fun h => h) (fun h => h) fun L F hd he v fv k => ?_
  subst hd he
  have hO := fv.ord v
  have S := hO.run
  obtain ⟨k1, k2⟩ := k
  walk_at "w"
  refine ⟨x, rfl, ht, fun h => ?_, k1⟩
  obtain ⟨t, rfl, h0, h1⟩ := whole_of h
  walk_at "w"
  have := fv.hi
  refine ⟨F, rfl, by omega, ?_⟩
  walk_at "w"
  refine ⟨L, F, _, rfl, hO, ?_⟩
  walk_at "w"
  rw [show (homesD L (F.zip (planO L F (nmsF F)))).map (fun kv => D.tup [kD kv.1, kv.2]) = (zN L F).map fun p => D.tup [.str p.1.nm, .int (hP L p)] from by unfold homesD; rw [List.map_map]; rfl]
  refine dLC_of (fun p : FP => D.tup [.str p.1.nm, .int (hP L p)]) (fun p => if hP L p ≤ t then some (.str p.1.nm) else none) trivial (zN L F) [] (small_len (by rw [zN_len, List.length_nil]; omega)) (fun p hp Y N h => ?_) ?_
  · walk_at "g"
    refine br_of (fun g => ?_) (fun g => ?_)
    · have g : hP L p ≤ t := by simpa using g
      rw [if_pos g] at h
      walk_at "w"
      exact h
    · have g : ¬ hP L p ≤ t := by simpa using g
      rw [if_neg g] at h
      exact h
  walk_at "w"
  have e : ((zN L F).filterMap fun p => if hP L p ≤ t then some (D.str p.1.nm) else none).length = HH (zN L F) (hP L) t := by
    unfold HH
    generalize zN L F = ps
    induction ps with
    | nil => rfl
    | cons p ps ih =>
      rw [List.filterMap_cons, List.countP_cons]
      by_cases g : hP L p ≤ t
      · simp [g, ih]
      · simp [g, ih]
  rw [List.nil_append, e]
  exact k2 t rfl h0 h1
theorem trip_rows (L : List Ln) : ∀ (way : List Str) (ts : List Int) (s : Int), trip3 (way.map .str) (.int s :: (outsL L way ts).map .int) (ts.map .int) = (rowsAt L way ts s).map encRow
  | [], ts, s => by cases ts <;> rfl
  | c :: way, [], s => rfl
  | c :: way, t :: ts, s => by
    have ih := trip_rows L way ts (t + lgL L c)
    unfold outsL at ih ⊢
    rw [List.zipWith_cons_cons, List.map_cons, List.map_cons, List.map_cons, trip3, ih, rowsAt, List.map_cons]
    rfl
abbrev stB : TDS := (sSeq (sSet 5 (dOp dAdd (dLst (daCons (dOp dIx (dVar 3) (dC (.int 2))) (daNil))) (dCall F_comes_out (fun _ _ => False) (daCons (dVar 0) (daCons (dVar 3) (daCons (dVar 4) (daNil))))))) (sExpr (dMeth isLst rExtD (dVar 2) (daCons (dListZ3 (daCons (dCall F_way_of (fun _ _ => False) (daCons (dVar 0) (daCons (dOp dIx (dVar 3) (dC (.int 1))) (daNil)))) (daCons (dVar 5) (daCons (dVar 4) (daNil))))) (daNil)))))
theorem rows_len {L : List Ln} (v : LanesV L) {p : FP} (h : OneP L p) : (RP L p).length ≤ 8 := by
  have : ∀ (way : List Str) (ts : List Int) (s : Int), (rowsAt L way ts s).length ≤ way.length := by
    intro way
    induction way with
    | nil => intro ts s; simp [rowsAt]
    | cons c way ih =>
      intro ts s
      cases ts with
      | nil => simp [rowsAt]
      | cons t ts => rw [rowsAt, List.length_cons, List.length_cons]; have := ih ts (t + lgL L c); omega
  exact Nat.le_trans (this _ _ _) (way_len8 v _)
theorem st_loop {L : List Ln} {De : DEnds} {Kp : List DO → Prop} {Wd : Str → List DO → Prop} (hk : ∀ M, Kp M) (v : LanesV L) {a1 : Option Val} : ∀ (ps : List FP) (acc : List (Row Str)) (y3 y4 y5 : Option Val), (∀ p ∈ ps, OneP L p) → acc.length + 8 * ps.length ≤ 1000 →
    (∀ y3 y4 y5, De.nx [some (.d (encLs L)), a1, some (.mu 0), y3, y4, y5] [.lst ((acc ++ rowsZ L ps).map encRow)]) →
    dLoop Kp (gT 2 (gsCons (gN 3) (gsCons (gN 4) (gsNil)))) (sSeq (sSet 5 (dOp dAdd (dLst (daCons (dOp dIx (dVar 3) (dC (.int 2))) (daNil))) (dCall F_comes_out Wd (daCons (dVar 0) (daCons (dVar 3) (daCons (dVar 4) (daNil))))))) (sExpr (dMeth isLst rExtD (dVar 2) (daCons (dListZ3 (daCons (dCall F_way_of Wd (daCons (dVar 0) (daCons (dOp dIx (dVar 3) (dC (.int 1))) (daNil)))) (daCons (dVar 5) (daCons (dVar 4) (daNil))))) (daNil))))) De
      (ps.map fun p : FP => .tup [encFk p.1, encTs p.2]) [some (.d (encLs L)), a1, some (.mu 0), y3, y4, y5] [.lst (acc.map encRow)]
  | [], acc, y3, y4, y5, _, _, q => ⟨hk _, by have := q y3 y4 y5; rw [rowsZ, List.flatMap_nil, List.append_nil] at this; exact this⟩
  | p :: ps, acc, y3, y4, y5, hp, hl, q => by
    have h1 := hp p List.mem_cons_self
    have h8 := h1.len v
    have l8 := v.hi
    rw [List.length_cons] at hl
    refine ⟨hk _, ?_⟩
    walk_at "g"
    refine ⟨small_len (show 1 ≤ 1000 by omega), ?_⟩
    walk_at "w"
    refine ⟨L, p.1, encTs p.2, rfl, v, h1.f, small_ts (by omega), ?_⟩
    rw [h1.outs v]
    have lo : (outsL L (wayL L p.1.cr) p.2).length ≤ 8 := by unfold outsL; rw [List.length_zipWith]; have := way_len8 v p.1.cr; omega
    walk_at "w"
    refine ⟨small_len (by rw [List.length_map]; show 1 + _ ≤ 1000; omega), ?_⟩
    walk_at "g"
    refine ⟨L, p.1.cr, rfl, v.nd, by omega, cr_ok v h1.f.cr, fun l hl => name_okS (v.lane l hl).2.1, ?_⟩
    rw [way_eq v h1.f.cr]
    walk_at "w"
    rw [show trip3 ((wayL L p.1.cr).map .str) ([D.int p.1.sn] ++ (outsL L (wayL L p.1.cr) p.2).map D.int) (p.2.map D.int) = (RP L p).map encRow from trip_rows L _ _ _]
    have hr := rows_len v h1
    walk_at "w"
    refine ⟨small_len (by rw [List.length_map]; omega), ?_⟩
    walk_at "w"
    refine ⟨small_len (by rw [List.length_map, List.length_map]; omega), ?_⟩
    rw [← List.map_append]
    walk_at "w"
    refine st_loop hk v ps (acc ++ RP L p) _ _ _ (fun x hx => hp x (List.mem_cons_of_mem _ hx)) (by rw [List.length_append]; omega) fun z3 z4 z5 => ?_
    have := q z3 z4 z5
    rw [rowsZ, List.flatMap_cons, ← List.append_assoc] at this
    exact this
theorem w_stays : WPP 6 t_stays F_stays := by
  rintro _ Q E ⟨L, F, rfl, v, fv, q⟩
  have hO := fv.ord v
  have S := hO.run
  have := fv.hi
  walk_at "w"
  refine ⟨Nat.zero_le _, ?_⟩
  walk_at "w"
  refine ⟨F, rfl, by omega, ?_⟩
  walk_at "w"
  refine ⟨L, F, _, rfl, hO, ?_⟩
  walk_at "w"
  dsimp only
  rw [show pair2 (F.map encFk) ((planO L F (nmsF F)).map encTs) = _ from pair2_map _ _ _ _]
  refine st_loop (fun _ => ⟨trivial, trivial⟩) v _ [] _ _ _ (fun p hp => S.oneP p hp) (by have := zN_len L F; unfold zN planN at this; rw [this, List.length_nil]; omega) fun y3 y4 y5 => ?_
  walk_at "w"
  exact q
theorem intsV_homes (L : List Ln) : ∀ ps : List FP, intsV (homesD L ps) = some (ps.map (hP L))
  | [] => rfl
  | p :: ps => by
    have := intsV_homes L ps
    unfold homesD at this ⊢
    rw [List.map_cons, intsV, this]
    rfl
theorem w_last_home : WPP 2 t_last_home F_last_home := by
  rintro _ Q E ⟨d, e, rfl, q⟩
  walk_at "w"
  refine ask_use q (fun h => h) (fun h => h) fun L F hd he v fv k => ?_
  subst hd he
  have hO := fv.ord v
  have := fv.hi
  have := fv.lo
  walk_at "w"
  refine ⟨F, rfl, by omega, ?_⟩
  walk_at "w"
  refine ⟨L, F, _, rfl, hO, ?_⟩
  walk_at "w"
  rw [intsV_homes]
  walk_at "w"
  refine ⟨fun h => ?_, k⟩
  have hz := zN_len L F
  have h := congrArg List.length h
  rw [List.length_map] at h
  unfold zN planN at hz
  have h : F.length = 0 := hz.symm.trans h
  omega
theorem rowsZ_len {L : List Ln} (v : LanesV L) {ps : List FP} (h : ∀ p ∈ ps, OneP L p) : (rowsZ L ps).length ≤ 8 * ps.length := by
  induction ps with
  | nil => simp [rowsZ]
  | cons p ps ih =>
    have := rows_len v (h p List.mem_cons_self)
    have := ih fun q hq => h q (List.mem_cons_of_mem _ hq)
    unfold rowsZ at this ⊢
    rw [List.flatMap_cons, List.length_append, List.length_cons]
    omega
theorem w_waited : WPP 5 t_waited F_waited := by
  rintro _ Q E ⟨d, e, rfl, q⟩
  walk_at "w"
  refine ask_use q (fun h => h) (fun h => h) fun L F hd he v fv k => ?_
  subst hd he
  have hO := fv.ord v
  have := fv.hi
  walk_at "w"
  refine ⟨L, F, rfl, v, fv, ?_⟩
  walk_at "w"
  have hl := rowsZ_len v (hO.run.oneP)
  have hz := zN_len L F
  unfold zN planN planO at hz
  refine dLC_map encRow (fun r => .int (r.g - r.s)) trivial _ (small_len (by unfold zN planN planO; omega)) (fun r hr Y N h => ?_) ?_
  · walk_at "g"
    exact h
  walk_at "w"
  rw [intsD_map]
  walk_at "w"
  exact k
end DL

end
section

/-! The well, opened as a list and closed again. -/
namespace DL
open PySem L2 PyProof.Rows
def WellB (x y z : Int) : Prop := 0 ≤ x ∧ 0 ≤ y ∧ y ≤ 2147483647 ∧ 0 < z ∧ z ≤ 2147483647
section
variable {K : PySem.W.Frag} {g : Gh} {E : Sl} {M : List DO} {σ : L2.St} {H R : Hp} {A : List (List Addr)}
theorem Ok.recast (x : Ok K g E M σ H R A) {j : Nat} {l : List Addr} {o : DO} (hj : A[j]? = some l) (ho : Own K R H l o) : Ok K g E (M.set j o) σ H R A := by
  refine ⟨x.keep, x.sub0, x.sub, x.fresh, x.pre, x.newA, x.nd, x.nr, ?_, x.slots⟩
  have q := x.obj.put (Sub.refl _) (l' := l) (H' := H) hj ho fun i k hi hk b hb => rfl
  rw [set_same hj] at q
  exact q
theorem Ok.wellOpen (x : Ok K g E M σ H R A) {j : Nat} (h : M[j]? = some .well) : ∃ a b c, WellB a b c ∧ Ok K g E (M.set j (.lst [.int a, .int b, .int c])) σ H R A := by
  obtain ⟨l, hj, ad, vs, rfl, h1, a, b, c, rfl, hb⟩ := x.obj.get h
  exact ⟨a, b, c, hb, x.recast hj ⟨ad, _, rfl, h1, ⟨_, _, rfl, rfl, _, _, rfl, rfl, _, _, rfl, rfl, rfl⟩⟩⟩
theorem Ok.wellClose (x : Ok K g E M σ H R A) {j : Nat} {a b c : Int} (h : M[j]? = some (.lst [.int a, .int b, .int c])) (w : WellB a b c) : Ok K g E (M.set j .well) σ H R A := by
  obtain ⟨l, hj, ad, vs, rfl, h1, v1, r1, rfl, e1, v2, r2, rfl, e2, v3, r3, rfl, e3, e4⟩ := x.obj.get h
  have e1 : v1 = .int a := e1
  have e2 : v2 = .int b := e2
  have e3 : v3 = .int c := e3
  have e4 : r3 = [] := e4
  subst e1 e2 e3 e4
  exact x.recast hj ⟨ad, _, rfl, h1, a, b, c, rfl, w⟩
end
def backW (j : Nat) (M : List DO) (k : List DO → Prop) : Prop := ∃ a b c, M[j]? = some (.lst [.int a, .int b, .int c]) ∧ WellB a b c ∧ k (M.set j .well)
def sWell (j : Nat) (T : TDS) : TDS := fun D E M => M[j]? = some .well ∧ ∀ a b c, WellB a b c → T { nx := fun E M => backW j M (D.nx E), rt := fun v M => backW j M (D.rt v), bk := fun E M => backW j M (D.bk E), ct := fun E M => backW j M (D.ct E) } E (M.set j (.lst [.int a, .int b, .int c]))
section
variable {X : Cx} {g : Gh} {sts : List Stmt} {T : TDS} {U : TDA} {es : List Expr} {pos : Pos}
theorem dss_well (j : Nat) (h : DSs X g sts T) : DSs X g sts (sWell j T) := PSsm h fun D σ H ⟨E, M, R, A, De, ok, ⟨h1, h2⟩, k1, k2, k3, k4⟩ => by
  obtain ⟨a, b, c, hb, ok'⟩ := ok.wellOpen h1
  refine ⟨E, _, R, A, _, ok', h2 a b c hb, ?_, ?_, ?_, ?_⟩
  · rintro E' M' σ' H' R' A' ⟨x, y, z, q1, q2, q3⟩ ok2 s e
    exact k1 _ _ _ _ _ _ q3 (ok2.wellClose q1 q2) s e
  · rintro v M' x0 E' σ' H' R' A' ⟨x, y, z, q1, q2, q3⟩ ok2 s e r
    exact k2 _ _ _ _ _ _ _ _ q3 (ok2.wellClose q1 q2) s e r
  · rintro E' M' σ' H' R' A' ⟨x, y, z, q1, q2, q3⟩ ok2 s e
    exact k3 _ _ _ _ _ _ q3 (ok2.wellClose q1 q2) s e
  · rintro E' M' σ' H' R' A' ⟨x, y, z, q1, q2, q3⟩ ok2 s e
    exact k4 _ _ _ _ _ _ q3 (ok2.wellClose q1 q2) s e
/-- a new well -/
def dWellM (U : TDA) : TD := fun E M Q => U E M fun vs M1 => match vs with
  | [.d (.int a), .d (.int b), .d (.int c)] => WellB a b c ∧ Q (.mu M1.length) (M1 ++ [.well])
  | _ => False
theorem de_wellM (ha : DA X g es U) : DE X g (.List es pos) (dWellM U) :=
  PEm (pe_lst ha) fun σ H Q ⟨E, M, R, A, Qd, ok, h, k⟩ => by
    refine ⟨E, M, R, A, _, ok, h, fun vs M1 xs H1 R1 A1 q1 ok1 s1 x1 r1 => ?_⟩
    split at q1
    · rename_i a b c
      obtain ⟨w, q⟩ := q1
      obtain ⟨v1, r2, e1, h1, v2, r3, e2, h2, v3, r4, e3, h3, e4⟩ := r1
      have h1 : v1 = .int a := h1
      have h2 : v2 = .int b := h2
      have h3 : v3 = .int c := h3
      have e4 : r4 = [] := e4
      subst e1 e2 e3 e4 h1 h2 h3
      exact ⟨Nat.le_of_lt (small1000 (show 3 ≤ 1000 by omega)), fun p hp => k _ _ _ _ _ _ q (ok1.new hp ⟨p, _, rfl, upd_same, a, b, c, rfl, w⟩) s1 (x1.trans (ExtA.app _ _)) ⟨p, [], ok1.at_len _, rfl⟩⟩
    · exact q1.elim
end
end DL

end
section

namespace DL
open PySem L2 PyProof.Rows MX
local macro_rules | `(tactic| walk_at "w") => `(tactic| ((conv => whnf); repeat (first | (refine br_t rfl ?_; conv => whnf) | (refine br_f rfl ?_; conv => whnf))))
local macro_rules | `(tactic| walk_at "g") => `(tactic| (walk_at "w"; repeat (refine ⟨rfl, ?_⟩; walk_at "w")))
def F_l_well : FSp := fun args M Q _ => M = [] ∧ ∃ ns k, args = [.d (.scr ns), .d (.int k)] ∧ 0 ≤ k ∧ k ≤ 100 ∧ Q (.mu 0) [.well]
def F_l_take : PSp := fun ds Q _ => ∃ m, ds = [.int m] ∧ 1 ≤ m ∧ m ≤ 10 ^ 13 ∧ ∀ r, 0 ≤ r → r < m → Q (.int r)
/-- law_well: script k cell primes seed -/
def t_l_well (Wd : Str → List DO → Prop) : TDS :=
  sSeq (sSet 2 (dC (.int 0))) (sSeq (sIf (dB (dOp dLtA (dVar 1) (dCB dLen (daCons (dVar 0) (daNil))))) (sSet 2 (dOp dIx (dVar 0) (dVar 1))) (sNext)) (sSeq (sSet 3 (dLst (daCons (dC (.int 2147483647)) (daCons (dC (.int 2147483629)) (daCons (dC (.int 2147483587)) (daCons (dC (.int 2147483579)) (daCons (dC (.int 2147483563)) (daCons (dC (.int 2147483549)) (daCons (dC (.int 2147483543)) (daCons (dC (.int 2147483497)) (daNil))))))))))) (sSeq (sSet 4 (dOp dMod (dOp dMul (dOp dAdd (dOp dMod (dVar 2) (dC (.int 2147483489))) (dC (.int 1))) (dOp dAdd (dC (.int 48271)) (dOp dMul (dC (.int 2)) (dVar 1)))) (dC (.int 2147483489)))) (sSeq (sSet 4 (dOp dAdd (dOp dAdd (dOp dMod (dOp dMul (dVar 4) (dVar 4)) (dC (.int 2147483477))) (dVar 1)) (dC (.int 1)))) (sSeq (sIf (dB (dOp dGe (dVar 2) (dOp dPow (dC (.int 10)) (dC (.int 18))))) (sRet (dWellM (daCons (dVar 2) (daCons (dVar 4) (daCons (dOp dIx (dVar 3) (dOp dMod (dVar 1) (dC (.int 8)))) (daNil)))))) (sNext)) (sRet (dWellM (daCons (dC (.int 0)) (daCons (dVar 4) (daCons (dOp dIx (dVar 3) (dOp dMod (dVar 1) (dC (.int 8)))) (daNil)))))))))))
/-- law_take: well many drew -/
def t_l_take (Wd : Str → List DO → Prop) : TDS :=
  sWell 0 (sSeq (sIf (dB (dOp dGt (dOp dIx (dVar 0) (dC (.int 0))) (dC (.int 0)))) (sSeq (sSet 2 (dOp dMod (dOp dIx (dVar 0) (dC (.int 0))) (dVar 1))) (sSeq (sAsg (dOp dDiv (dOp dIx (dVar 0) (dC (.int 0))) (dVar 1)) (gStore (dVar 0) (dC (.int 0)))) (sRet (dVar 2)))) (sNext)) (sSeq (sAsg (dOp dAdd (dOp dMod (dOp dMul (dOp dIx (dVar 0) (dC (.int 1))) (dC (.int 48271))) (dOp dIx (dVar 0) (dC (.int 2)))) (dC (.int 1))) (gStore (dVar 0) (dC (.int 1)))) (sRet (dOp dMod (dOp dDiv (dOp dMod (dOp dMul (dOp dIx (dVar 0) (dC (.int 1))) (dOp dIx (dVar 0) (dC (.int 1)))) (dC (.int 2147483423))) (dC (.int 7))) (dVar 1)))))
theorem len_l_well : ∀ args M Q E, F_l_well args M Q E → args.length = 2 := by
  rintro _ _ _ _ ⟨_, _, _, rfl, _⟩; rfl
theorem w_l_take : WPW 3 t_l_take F_l_take := by
  rintro _ Qd Ed ⟨m, rfl, hm, hm2, q⟩
  refine ⟨rfl, fun a b c hb => ?_⟩
  obtain ⟨b1, b2, b3, b4, b5⟩ := hb
  walk_at "w"
  have cd : CDivW 0 m := ⟨by omega, by
    have : m.natAbs.log2 ≤ m.natAbs := Nat.log2_le_self _
    have h2 : m.natAbs < 2 ^ 44 := by omega
    have := (Nat.log2_lt (n := m.natAbs) (k := 44) (by omega)).mpr h2
    omega⟩
  refine br_of (fun h => ?_) (fun h => ?_)
  · have h : 0 < a := by simpa using h
    walk_at "w"
    refine ⟨by omega, ?_⟩
    walk_at "w"
    refine ⟨cd, ?_⟩
    walk_at "w"
    refine ⟨_, _, _, rfl, ⟨Int.ediv_nonneg b1 (by omega), b2, b3, b4, b5⟩, ?_⟩
    walk_at "w"
    exact q _ (Int.emod_nonneg _ (by omega)) (Int.emod_lt_of_pos _ (by omega))
  · walk_at "w"
    refine ⟨.inl ⟨by omega, by omega⟩, ?_⟩
    walk_at "w"
    refine ⟨b4, ?_⟩
    walk_at "w"
    have e1 := Int.emod_nonneg (b * 48271) (show c ≠ 0 by omega)
    have e2 := Int.emod_lt_of_pos (b * 48271) b4
    refine ⟨.inl ⟨by omega, by omega⟩, ?_⟩
    walk_at "w"
    refine ⟨by omega, ?_⟩
    walk_at "w"
    refine ⟨⟨by omega, by decide⟩, ?_⟩
    walk_at "w"
    refine ⟨by omega, ?_⟩
    walk_at "w"
    refine ⟨_, _, _, rfl, ⟨b1, by omega, by omega, b4, b5⟩, ?_⟩
    walk_at "w"
    exact q _ (Int.emod_nonneg _ (by omega)) (Int.emod_lt_of_pos _ (by omega))
abbrev wellR : TDS := (sSeq (sSet 3 (dLst (daCons (dC (.int 2147483647)) (daCons (dC (.int 2147483629)) (daCons (dC (.int 2147483587)) (daCons (dC (.int 2147483579)) (daCons (dC (.int 2147483563)) (daCons (dC (.int 2147483549)) (daCons (dC (.int 2147483543)) (daCons (dC (.int 2147483497)) (daNil))))))))))) (sSeq (sSet 4 (dOp dMod (dOp dMul (dOp dAdd (dOp dMod (dVar 2) (dC (.int 2147483489))) (dC (.int 1))) (dOp dAdd (dC (.int 48271)) (dOp dMul (dC (.int 2)) (dVar 1)))) (dC (.int 2147483489)))) (sSeq (sSet 4 (dOp dAdd (dOp dAdd (dOp dMod (dOp dMul (dVar 4) (dVar 4)) (dC (.int 2147483477))) (dVar 1)) (dC (.int 1)))) (sSeq (sIf (dB (dOp dGe (dVar 2) (dOp dPow (dC (.int 10)) (dC (.int 18))))) (sRet (dWellM (daCons (dVar 2) (daCons (dVar 4) (daCons (dOp dIx (dVar 3) (dOp dMod (dVar 1) (dC (.int 8)))) (daNil)))))) (sNext)) (sRet (dWellM (daCons (dC (.int 0)) (daCons (dVar 4) (daCons (dOp dIx (dVar 3) (dOp dMod (dVar 1) (dC (.int 8)))) (daNil))))))))))
theorem prime_at (k : Int) : ∃ p : Int, atI [D.int 2147483647, D.int 2147483629, D.int 2147483587, D.int 2147483579, D.int 2147483563, D.int 2147483549, D.int 2147483543, D.int 2147483497] (k % 8) = some (.int p) ∧ 0 < p ∧ p ≤ 2147483647 := by
  have h1 := Int.emod_nonneg k (show (8 : Int) ≠ 0 by omega)
  have h2 := Int.emod_lt_of_pos k (show (0 : Int) < 8 by omega)
  have : k % 8 = 0 ∨ k % 8 = 1 ∨ k % 8 = 2 ∨ k % 8 = 3 ∨ k % 8 = 4 ∨ k % 8 = 5 ∨ k % 8 = 6 ∨ k % 8 = 7 := by omega
  rcases this with h | h | h | h | h | h | h | h <;> rw [h] <;> exact ⟨_, rfl, by omega, by omega⟩
theorem well_rest {De : DEnds} {ns : List Int} {k cell : Int} {y3 y4 : Option Val} (hk0 : 0 ≤ k) (hk1 : k ≤ 100) (q : De.rt (.mu 0) [.well]) : wellR De [some (.d (.scr ns)), some (.d (.int k)), some (.d (.int cell)), y3, y4] [] := by
  walk_at "w"
  refine ⟨small_len (show 8 ≤ 1000 by omega), ?_⟩
  walk_at "w"
  refine ⟨by omega, ?_⟩
  have e1 := Int.emod_nonneg cell (show (2147483489 : Int) ≠ 0 by omega)
  have e2 := Int.emod_lt_of_pos cell (show (0 : Int) < 2147483489 by omega)
  walk_at "w"
  refine ⟨.inl ⟨by omega, by omega⟩, ?_⟩
  walk_at "w"
  refine ⟨.inl ⟨by omega, by omega⟩, ?_⟩
  walk_at "w"
  refine ⟨by omega, ?_⟩
  walk_at "w"
  generalize hs : (cell % 2147483489 + 1) * (48271 + 2 * k) % 2147483489 = s
  have s1 : 0 ≤ s := by rw [← hs]; exact Int.emod_nonneg _ (by omega)
  have s2 : s < 2147483489 := by rw [← hs]; exact Int.emod_lt_of_pos _ (by omega)
  refine ⟨.inl ⟨by omega, by omega⟩, ?_⟩
  walk_at "w"
  refine ⟨by omega, ?_⟩
  have f1 := Int.emod_nonneg (s * s) (show (2147483477 : Int) ≠ 0 by omega)
  have f2 := Int.emod_lt_of_pos (s * s) (show (0 : Int) < 2147483477 by omega)
  obtain ⟨p, hp, p1, p2⟩ := prime_at k
  walk_at "w"
  refine ⟨⟨by omega, by decide, by decide⟩, ?_⟩
  walk_at "w"
  refine br_of (fun h => ?_) (fun h => ?_)
  · have h : (10 : Int) ^ 18 ≤ cell := by simpa using h
    walk_at "w"
    refine ⟨by omega, ?_⟩
    walk_at "w"
    rw [hp]
    walk_at "w"
    exact ⟨⟨by omega, by omega, by omega, p1, p2⟩, q⟩
  · walk_at "w"
    refine ⟨by omega, ?_⟩
    walk_at "w"
    rw [hp]
    walk_at "w"
    exact ⟨⟨by omega, by omega, by omega, p1, p2⟩, q⟩
theorem w_l_well : ∀ args M Qd Ed, F_l_well args M Qd Ed → t_l_well (fun n M' => Ed n (M'.take M.length)) { nx := fun _ M' => Qd (.d .non) (M'.take M.length), rt := retN M.length Qd } (startD 5 args) M := by
  rintro _ _ Qd Ed ⟨rfl, ns, k, rfl, hk0, hk1, q⟩
  walk_at "w"
  have q : retN 0 Qd (.mu 0) [.well] := ⟨Nat.le_refl _, q⟩
  refine br_of (fun h => ?_) (fun h => ?_)
  · have h : k < ns.length := by simpa using h
    obtain ⟨z, hz⟩ : ∃ z, atI ns k = some z := by
      refine ⟨ns[k.toNat], ?_⟩
      rw [atI_off _ k.toNat _ (by omega)]
      exact List.getElem?_eq_getElem (by omega)
    walk_at "w"
    rw [hz]
    walk_at "w"
    exact well_rest hk0 hk1 q
  · walk_at "w"
    exact well_rest hk0 hk1 q
end DL

end
section

namespace DL
open PySem L2 PyProof.Rows MX
local macro_rules | `(tactic| walk_at "w") => `(tactic| ((conv => whnf); repeat (first | (refine br_t rfl ?_; conv => whnf) | (refine br_f rfl ?_; conv => whnf))))
local macro_rules | `(tactic| walk_at "g") => `(tactic| (walk_at "w"; repeat (refine ⟨rfl, ?_⟩; walk_at "w")))
def F_l_lane : PSp := fun ds Q _ => ∃ L c l, ds = [encLs L, .str c] ∧ LanesV L ∧ lookL L c = some l ∧ Q (encLn l)
def F_l_way : PSp := fun ds Q _ => ∃ L c, ds = [encLs L, .str c] ∧ LanesV L ∧ (c ∈ csL L ∨ c = "home") ∧ Q (strsD (wayL L c))
/-- folk by the ticks of a plan -/
structure ZipV (L : List Ln) (F : List Fk) (P : List (List Int)) : Prop where
  v : LanesV L
  hi : F.length ≤ 10
  nd : (F.map Fk.nm).Nodup
  ln : P.length = F.length
  one : ∀ p ∈ F.zip P, OneP L p
def F_l_homes : PSp := fun ds Q _ => ∃ L F P, ds = [encLs L, encFs F, encP P] ∧ ZipV L F P ∧ Q (.dk (homesD L (F.zip P)))
def F_l_waits : PSp := fun ds Q _ => ∃ L F P, ds = [encLs L, encFs F, encP P] ∧ ZipV L F P ∧ Q (.lst ((rowsZ L (F.zip P)).map encRow))
def F_l_drawn_order : PSp := fun ds Q _ => ∃ F, ds = [encFs F] ∧ F.length ≤ 100 ∧ (∀ f ∈ F, isNameS f.nm = true) ∧ ∀ o : List Str, o.Perm (nmsF F) → Q (encO o)
/-- law_lane: lanes crossing lane -/
def t_l_lane (Wd : Str → List DO → Prop) : TDS :=
  sRet (dOp dIx (dComp (iSeq (dVar 0)) (gN 2) (dB (dOp dEq (dOp dIx (dVar 2) (dC (.int 0))) (dVar 1))) (dVar 2) [2]) (dC (.int 0)))
/-- law_drawn_order: well folk left found one -/
def t_l_drawn_order (Wd : Str → List DO → Prop) : TDS :=
  sSeq (sPar 2 3 (daCons (dCompM (iSeq (dVar 1)) (gN 4) (dYes) (dOp dIx (dVar 4) (dC (.int 0))) [4]) (daCons (dLstM (daNil)) (daNil)))) (sSeq (sWhile (dB (dOp dNe (dVar 2) (dLst (daNil)))) (sExpr (dMeth isLst rAppendD (dVar 3) (daCons (dMeth isLst rPopD (dVar 2) (daCons (dCallW F_l_take Wd (daCons (dVar 0) (daCons (dCB dLen (daCons (dVar 2) (daNil))) (daNil)))) (daNil))) (daNil))))) (sRet (dCB dTuple (daCons (dVar 3) (daNil)))))
/-- law_way: lanes crossing found -/
def t_l_way (Wd : Str → List DO → Prop) : TDS :=
  sSeq (sSet 2 (dLstM (daNil))) (sSeq (sWhile (dB (dOp dNe (dVar 1) (dC (.str "home")))) (sSeq (sExpr (dMeth isLst rAppendD (dVar 2) (daCons (dVar 1) (daNil)))) (sSet 1 (dOp dIx (dCall F_l_lane Wd (daCons (dVar 0) (daCons (dVar 1) (daNil)))) (dC (.int 1)))))) (sRet (dVar 2)))
/-- law_homes: lanes folk plan found one ticks -/
def t_l_homes (Wd : Str → List DO → Prop) : TDS :=
  sSeq (sSet 3 (dDictK)) (sSeq (sFor (iZip2 (daCons (dVar 1) (daCons (dVar 2) (daNil)))) (gT 2 (gsCons (gN 4) (gsCons (gN 5) (gsNil)))) (sAsg (dOp dAdd (dOp dIx (dVar 5) (dNeg (dC (.int 1)))) (dOp dIx (dCall F_l_lane Wd (daCons (dVar 0) (daCons (dOp dIx (dCall F_l_way Wd (daCons (dVar 0) (daCons (dOp dIx (dVar 4) (dC (.int 1))) (daNil)))) (dNeg (dC (.int 1)))) (daNil)))) (dC (.int 3)))) (gStore (dVar 3) (dOp dIx (dVar 4) (dC (.int 0)))))) (sRet (dLockR (dVar 3))))
/-- law_waits: lanes folk plan found one ticks since here tick -/
def t_l_waits (Wd : Str → List DO → Prop) : TDS :=
  sSeq (sSet 3 (dLstM (daNil))) (sSeq (sFor (iZip2 (daCons (dVar 1) (daCons (dVar 2) (daNil)))) (gT 2 (gsCons (gN 4) (gsCons (gN 5) (gsNil)))) (sSeq (sSet 6 (dOp dIx (dVar 4) (dC (.int 2)))) (sFor (iZip2 (daCons (dCall F_l_way Wd (daCons (dVar 0) (daCons (dOp dIx (dVar 4) (dC (.int 1))) (daNil)))) (daCons (dVar 5) (daNil)))) (gT 2 (gsCons (gN 7) (gsCons (gN 8) (gsNil)))) (sSeq (sExpr (dMeth isLst rAppendD (dVar 3) (daCons (dTup (daCons (dVar 7) (daCons (dVar 6) (daCons (dVar 8) (daNil))))) (daNil)))) (sSet 6 (dOp dAdd (dVar 8) (dOp dIx (dCall F_l_lane Wd (daCons (dVar 0) (daCons (dVar 7) (daNil)))) (dC (.int 3))))))))) (sRet (dVar 3)))
theorem find_fm {α β : Type} (p : α → Bool) (f : α → β) : ∀ (xs : List α), (xs.filterMap fun x => if p x = true then some (f x) else none)[0]? = (xs.find? p).map f
  | [] => rfl
  | x :: xs => by
    rw [List.filterMap_cons, List.find?_cons]
    by_cases h : p x = true
    · simp [h]
    · simp [h, find_fm p f xs]
theorem w_l_lane : WPP 3 t_l_lane F_l_lane := by
  rintro _ Q E ⟨L, c, l, rfl, v, hc, q⟩
  have h8 := v.hi
  have okc := cr_strOk v (.inl (cs_some.mp (by rw [hc]; rfl)))
  walk_at "w"
  refine dLC_of encLn (fun l => if decide (l.nm = c) = true then some (encLn l) else none) trivial L [] (small_len (by rw [List.length_nil]; omega)) (fun l hl Y N h => ?_) ?_
  · walk_at "w"
    refine ⟨okD_str (name_ok (v.lane l hl).1), okD_str okc, ?_⟩
    rw [eqD_str]
    walk_at "w"
    refine br_of (fun g => ?_) (fun g => ?_)
    · rw [if_pos g] at h
      walk_at "w"
      exact h
    · rw [if_neg (by rw [g]; simp)] at h
      exact h
  · walk_at "w"
    rw [List.nil_append, show atI (L.filterMap fun l => if decide (l.nm = c) = true then some (encLn l) else none) 0 = _ from (atI_nat _ 0).trans (find_fm (fun l : Ln => decide (l.nm = c)) encLn L)]
    rw [show L.find? (fun l => decide (l.nm = c)) = some l from hc]
    walk_at "w"
    exact q
theorem w_l_way : WPP 3 t_l_way F_l_way := by
  rintro _ Q E ⟨L, c, rfl, v, hc, q⟩
  walk_at "w"
  refine ⟨Nat.zero_le _, ?_⟩
  walk_at "w"
  refine ⟨fun m E M => ∃ c' acc, E = [some (.d (encLs L)), some (.d (.str c')), some (.mu 0)] ∧ M = [.lst (acc.map .str)] ∧ acc ++ wayL L c' = wayL L c ∧ m = (wayL L c').length ∧ (c' ∈ csL L ∨ c' = "home"), ⟨_, c, [], rfl, rfl, rfl, rfl, hc⟩, ?_⟩
  rintro m _ _ ⟨c', acc, rfl, rfl, e, hm, hc'⟩
  walk_at "w"
  refine ⟨okD_str (cr_strOk v hc'), okD_str ok_home, ?_⟩
  rw [eqD_str]
  walk_at "w"
  have hl : acc.length ≤ 8 := by
    have := congrArg List.length e
    rw [List.length_append] at this
    have := way_len8 v c
    omega
  refine br_of (fun h => ?_) (fun h => ?_)
  · have h : ¬ c' = "home" := by simpa using h
    obtain ⟨l, _, el, _, _⟩ := cs_get v (hc'.resolve_right h)
    have wc := way_cons v el
    walk_at "g"
    refine ⟨by rw [List.length_map]; exact Nat.lt_of_le_of_lt hl (by decide), ?_⟩
    walk_at "w"
    refine ⟨L, c', l, rfl, v, el, ?_⟩
    walk_at "w"
    rw [wc.1] at e hm
    refine ⟨(wayL L l.to).length, by rw [hm]; exact Nat.lt_succ_self _, l.to, acc ++ [c'], rfl, ?_, by rw [← e]; simp, rfl, wc.2.symm⟩
    rw [List.map_append]
    rfl
  · have h : c' = "home" := by simpa using h
    walk_at "w"
    rw [h, way_home, List.append_nil] at e
    rw [e]
    exact q
theorem endT_last (L : List Ln) : ∀ (way : List Str) (ts : List Int) (s : Int), ts.length = way.length → way ≠ [] → ∃ c t, way.getLast? = some c ∧ ts.getLast? = some t ∧ endT L way ts s = t + lgL L c
  | [], _, _, _, h => absurd rfl h
  | _ :: _, [], _, h, _ => by simp at h
  | [c], [t], s, _, _ => ⟨c, t, rfl, rfl, rfl⟩
  | [c], _ :: _ :: _, s, h, _ => by simp at h
  | c :: c' :: cs, [t], s, h, _ => by simp at h
  | c :: c' :: cs, t :: t' :: ts, s, h, _ => by
    obtain ⟨x, y, h1, h2, h3⟩ := endT_last L (c' :: cs) (t' :: ts) (t + lgL L c) (by simpa using h) (by simp)
    exact ⟨x, y, by rw [List.getLast?_cons_cons]; exact h1, by rw [List.getLast?_cons_cons]; exact h2, h3⟩
theorem getLast_map {α β : Type} (f : α → β) {xs : List α} {x : α} (h : xs.getLast? = some x) : (xs.map f).getLast? = some (f x) := by
  rw [List.getLast?_map, h]; rfl
theorem way_mem_cs {L : List Ln} {c x : Str} (h : x ∈ wayL L c) : x ∈ csL L := cs_some.mp (way_mem x h)
abbrev hoB (Wd : Str → List DO → Prop) : TDS := (sAsg (dOp dAdd (dOp dIx (dVar 5) (dNeg (dC (.int 1)))) (dOp dIx (dCall F_l_lane Wd (daCons (dVar 0) (daCons (dOp dIx (dCall F_l_way Wd (daCons (dVar 0) (daCons (dOp dIx (dVar 4) (dC (.int 1))) (daNil)))) (dNeg (dC (.int 1)))) (daNil)))) (dC (.int 3)))) (gStore (dVar 3) (dOp dIx (dVar 4) (dC (.int 0)))))
theorem ho_loop {L : List Ln} {De : DEnds} {Kp : List DO → Prop} {Wd : Str → List DO → Prop} (hk : ∀ M, Kp M) (v : LanesV L) {a1 a2 : Option Val} : ∀ (ps acc : List FP) (y4 y5 : Option Val), (∀ p ∈ ps, OneP L p) → acc.length + ps.length ≤ 1000 → ((acc ++ ps).map fun p => (Sum.inr p.1.nm : Key)).Nodup →
    (∀ y4 y5, De.nx [some (.d (encLs L)), a1, a2, some (.mu 0), y4, y5] [.dk (homesD L (acc ++ ps))]) →
    dLoop Kp (gT 2 (gsCons (gN 4) (gsCons (gN 5) (gsNil)))) (hoB Wd) De (ps.map fun p : FP => .tup [encFk p.1, encTs p.2]) [some (.d (encLs L)), a1, a2, some (.mu 0), y4, y5] [.dk (homesD L acc)]
  | [], acc, y4, y5, _, _, _, q => ⟨hk _, by have := q y4 y5; rw [List.append_nil] at this; exact this⟩
  | p :: ps, acc, y4, y5, hp, hl, nd, q => by
    have h1 := hp p List.mem_cons_self
    obtain ⟨c, t, e1, e2, e3⟩ := endT_last L (wayL L p.1.cr) p.2 p.1.sn h1.ln (way_ne v (cr_cs h1.f))
    obtain ⟨l, _, el, _, _⟩ := cs_get v (way_mem_cs (List.mem_of_getLast? e1))
    rw [List.length_cons] at hl
    refine ⟨hk _, ?_⟩
    walk_at "g"
    rw [show -(1 : Int) = -1 from rfl, show atI (p.2.map D.int) (-1) = _ from atI_last (getLast_map _ e2)]
    walk_at "w"
    refine ⟨L, p.1.cr, rfl, v, .inl (cr_cs h1.f), ?_⟩
    walk_at "w"
    rw [show -(1 : Int) = -1 from rfl, show atI ((wayL L p.1.cr).map D.str) (-1) = _ from atI_last (getLast_map _ e1)]
    walk_at "w"
    refine ⟨L, c, l, rfl, v, el, ?_⟩
    walk_at "w"
    rw [store_k (by unfold homesD; rw [List.length_map]; exact Nat.lt_of_lt_of_le (by omega) (small_len (Nat.le_refl 1000)))]
    rw [lgL_eq el] at e3
    have e4 : putD (homesD L acc) (.inr p.1.nm) (.int (t + l.lg)) = homesD L (acc ++ [p]) := by
      rw [put_new]
      · unfold homesD
        rw [List.map_append, ← e3]
        rfl
      · intro hin
        unfold homesD at hin
        rw [List.map_map] at hin
        rw [List.map_append, List.map_cons] at nd
        exact (List.nodup_append.mp nd).2.2 _ hin _ List.mem_cons_self rfl
    rw [e4]
    walk_at "w"
    refine ho_loop hk v ps (acc ++ [p]) _ _ (fun x hx => hp x (List.mem_cons_of_mem _ hx)) (by rw [List.length_append, List.length_singleton]; omega) (by rw [List.append_assoc]; exact nd) fun z4 z5 => ?_
    have := q z4 z5
    rw [List.append_assoc]
    exact this
theorem w_l_homes : WPP 6 t_l_homes F_l_homes := by
  rintro _ Q E ⟨L, F, P, rfl, z, q⟩
  have := z.hi
  walk_at "w"
  dsimp only
  rw [show pair2 (F.map encFk) (P.map encTs) = _ from pair2_map _ _ _ _]
  refine ho_loop (fun _ => ⟨trivial, trivial⟩) z.v _ [] _ _ z.one (by rw [List.length_zip, List.length_nil]; omega) (zip_nd z.nd z.ln) fun y4 y5 => ?_
  walk_at "w"
  intro tok
  walk_at "w"
  exact q
abbrev waI (Wd : Str → List DO → Prop) : TDS := (sSeq (sExpr (dMeth isLst rAppendD (dVar 3) (daCons (dTup (daCons (dVar 7) (daCons (dVar 6) (daCons (dVar 8) (daNil))))) (daNil)))) (sSet 6 (dOp dAdd (dVar 8) (dOp dIx (dCall F_l_lane Wd (daCons (dVar 0) (daCons (dVar 7) (daNil)))) (dC (.int 3))))))
theorem wa_in {L : List Ln} {De : DEnds} {Kp : List DO → Prop} {Wd : Str → List DO → Prop} (hk : ∀ M, Kp M) (v : LanesV L) {a1 a2 a4 a5 : Option Val} : ∀ (way : List Str) (ts : List Int) (s : Int) (acc : List (Row Str)) (y7 y8 : Option Val), (∀ c ∈ way, c ∈ csL L) → ts.length = way.length → acc.length + way.length ≤ 1000 →
    (∀ z y7 y8, De.nx [some (.d (encLs L)), a1, a2, some (.mu 0), a4, a5, z, y7, y8] [.lst ((acc ++ rowsAt L way ts s).map encRow)]) →
    dLoop Kp (gT 2 (gsCons (gN 7) (gsCons (gN 8) (gsNil)))) (waI Wd) De (pair2 (way.map .str) (ts.map .int)) [some (.d (encLs L)), a1, a2, some (.mu 0), a4, a5, some (.d (.int s)), y7, y8] [.lst (acc.map encRow)]
  | [], ts, s, acc, y7, y8, _, _, _, q => by
    refine ⟨hk _, ?_⟩
    have := q (some (.d (.int s))) y7 y8
    cases ts <;> (unfold rowsAt at this; rw [List.append_nil] at this; exact this)
  | c :: way, [], s, acc, y7, y8, _, h, _, _ => by simp at h
  | c :: way, t :: ts, s, acc, y7, y8, hc, hl, ha, q => by
    obtain ⟨l, _, el, _, _⟩ := cs_get v (hc c List.mem_cons_self)
    rw [List.length_cons] at ha
    refine ⟨hk _, ?_⟩
    walk_at "g"
    refine ⟨small_len (show 3 ≤ 1000 by omega), ?_⟩
    walk_at "w"
    refine ⟨small1000 (by rw [List.length_map]; omega), ?_⟩
    walk_at "w"
    refine ⟨L, c, l, rfl, v, el, ?_⟩
    walk_at "w"
    have := wa_in (Wd := Wd) (De := De) hk v (a1 := a1) (a2 := a2) (a4 := a4) (a5 := a5) way ts (t + l.lg) (acc ++ [⟨c, s, t⟩]) (some (.d (.str c))) (some (.d (.int t))) (fun x hx => hc x (List.mem_cons_of_mem _ hx)) (by simpa using hl) (by rw [List.length_append, List.length_singleton]; omega) fun z y7 y8 => by
      have := q z y7 y8
      rw [rowsAt, lgL_eq el] at this
      rw [List.append_assoc]
      exact this
    rw [List.map_append] at this
    exact this
theorem wa_loop {L : List Ln} {De : DEnds} {Kp : List DO → Prop} {Wd : Str → List DO → Prop} (hk : ∀ M, Kp M) (v : LanesV L) {a1 a2 : Option Val} : ∀ (ps : List FP) (acc : List (Row Str)) (y4 y5 y6 y7 y8 : Option Val), (∀ p ∈ ps, OneP L p) → acc.length + 8 * ps.length ≤ 1000 →
    (∀ y4 y5 y6 y7 y8, De.nx [some (.d (encLs L)), a1, a2, some (.mu 0), y4, y5, y6, y7, y8] [.lst ((acc ++ rowsZ L ps).map encRow)]) →
    dLoop Kp (gT 2 (gsCons (gN 4) (gsCons (gN 5) (gsNil)))) (sSeq (sSet 6 (dOp dIx (dVar 4) (dC (.int 2)))) (sFor (iZip2 (daCons (dCall F_l_way Wd (daCons (dVar 0) (daCons (dOp dIx (dVar 4) (dC (.int 1))) (daNil)))) (daCons (dVar 5) (daNil)))) (gT 2 (gsCons (gN 7) (gsCons (gN 8) (gsNil)))) (waI Wd))) De
      (ps.map fun p : FP => .tup [encFk p.1, encTs p.2]) [some (.d (encLs L)), a1, a2, some (.mu 0), y4, y5, y6, y7, y8] [.lst (acc.map encRow)]
  | [], acc, y4, y5, y6, y7, y8, _, _, q => ⟨hk _, by have := q y4 y5 y6 y7 y8; rw [rowsZ, List.flatMap_nil, List.append_nil] at this; exact this⟩
  | p :: ps, acc, y4, y5, y6, y7, y8, hp, hl, q => by
    have h1 := hp p List.mem_cons_self
    have l8 := way_len8 v p.1.cr
    rw [List.length_cons] at hl
    refine ⟨hk _, ?_⟩
    walk_at "g"
    refine ⟨L, p.1.cr, rfl, v, .inl (cr_cs h1.f), ?_⟩
    walk_at "w"
    refine wa_in (fun _ => ⟨trivial, trivial⟩) v (wayL L p.1.cr) p.2 p.1.sn acc _ _ (fun c hc => way_mem_cs hc) h1.ln (by omega) fun z y7 y8 => ?_
    have hr := rows_len v h1
    refine wa_loop hk v ps (acc ++ RP L p) _ _ _ _ _ (fun x hx => hp x (List.mem_cons_of_mem _ hx)) (by rw [List.length_append]; omega) fun z4 z5 z6 z7 z8 => ?_
    have := q z4 z5 z6 z7 z8
    rw [rowsZ, List.flatMap_cons, ← List.append_assoc] at this
    exact this
theorem w_l_waits : WPP 9 t_l_waits F_l_waits := by
  rintro _ Q E ⟨L, F, P, rfl, z, q⟩
  have := z.hi
  walk_at "w"
  refine ⟨Nat.zero_le _, ?_⟩
  walk_at "w"
  dsimp only
  rw [show pair2 (F.map encFk) (P.map encTs) = _ from pair2_map _ _ _ _]
  refine wa_loop (fun _ => ⟨trivial, trivial⟩) z.v _ [] _ _ _ _ _ z.one (by rw [List.length_zip, List.length_nil]; omega) fun y4 y5 y6 y7 y8 => ?_
  walk_at "w"
  exact q
theorem eqD_nil (xs : List D) : eqD (.lst xs) (.lst []) = xs.isEmpty := by
  cases xs with
  | nil => rfl
  | cons x xs => rfl
theorem okD_strs {xs : List Str} (h : ∀ x ∈ xs, PyData.strOk x = true) : okD (.lst (xs.map .str)) = true := by
  have l : lays (xs.map D.str) = true := lays_map _ _ h
  refine okD_of l ?_
  have := deps_map D.str 0 xs fun x _ => Nat.le_refl 0
  show deps (xs.map D.str) + 1 ≤ 64
  omega
theorem okD_nil : okD (.lst []) = true := rfl
theorem ixN_lt {n : Nat} {r : Int} (h0 : 0 ≤ r) (h1 : r < n) : ixN n r = some r.toNat := by
  unfold ixN
  rw [if_pos h0, if_pos h1]
theorem erase_perm {α : Type} [DecidableEq α] : ∀ {xs : List α} {k : Nat} {y : α}, xs[k]? = some y → (y :: xs.eraseIdx k).Perm xs
  | [], k, y, h => by simp at h
  | x :: xs, 0, y, h => by
    simp at h
    subst h
    exact List.Perm.refl _
  | x :: xs, k + 1, y, h => by
    have h : xs[k]? = some y := by simpa using h
    have ih := erase_perm h
    rw [List.eraseIdx_cons_succ]
    exact (List.Perm.swap x y _).trans (ih.cons x)
theorem eraseIdx_map {α β : Type} (f : α → β) : ∀ (xs : List α) (k : Nat), (xs.map f).eraseIdx k = (xs.eraseIdx k).map f
  | [], k => by simp
  | x :: xs, 0 => by simp
  | x :: xs, k + 1 => by rw [List.map_cons, List.eraseIdx_cons_succ, List.eraseIdx_cons_succ, List.map_cons, eraseIdx_map f xs k]
theorem w_l_drawn_order : WPW 5 t_l_drawn_order F_l_drawn_order := by
  rintro _ Qd Ed ⟨F, rfl, hl, hn, q⟩
  walk_at "w"
  refine dLC_map encFk (fun f => .str f.nm) trivial F (small_len (by omega)) (fun f hf Y N h => ?_) ?_
  · walk_at "w"
    exact h
  walk_at "w"
  refine ⟨Nat.zero_le _, ?_⟩
  walk_at "w"
  refine ⟨fun m E M => ∃ (left found : List Str) (y4 : Option Val), E = [some (.mu 0), some (.d (encFs F)), some (.mu 1), some (.mu 2), y4] ∧ M = [.well, .lst (left.map .str), .lst (found.map .str)] ∧ (left ++ found).Perm (nmsF F) ∧ m = left.length, ⟨_, nmsF F, [], _, rfl, ?_, by rw [List.append_nil], rfl⟩, ?_⟩
  · unfold nmsF
    rw [List.map_map]
    rfl
  rintro m _ _ ⟨left, found, y4, rfl, rfl, hp, hm⟩
  have hall : ∀ x ∈ left ++ found, PyData.strOk x = true := fun x hx => by
    obtain ⟨f, hf, e⟩ := List.mem_map.mp (hp.mem_iff.mp hx)
    rw [← e]
    exact name_ok (hn f hf)
  have hlen : left.length + found.length = F.length := by
    have := hp.length_eq
    rwa [List.length_append, nmsF, List.length_map] at this
  walk_at "w"
  refine ⟨small_len (show 0 ≤ 1000 by omega), ?_⟩
  walk_at "w"
  refine ⟨okD_strs fun x hx => hall x (List.mem_append_left _ hx), okD_nil, ?_⟩
  rw [eqD_nil]
  walk_at "w"
  refine br_of (fun h => ?_) (fun h => ?_)
  · have hne : left ≠ [] := by
      intro z
      rw [z] at h
      cases h
    have hpos : 0 < left.length := List.length_pos_iff.mpr hne
    walk_at "g"
    refine ⟨left.length, by rw [List.length_map], by omega, by omega, fun r h0 h1 => ?_⟩
    walk_at "w"
    refine ⟨by omega, by omega, ?_⟩
    rw [List.length_map, ixN_lt h0 h1]
    walk_at "w"
    obtain ⟨x, hx⟩ : ∃ x, left[r.toNat]? = some x := ⟨left[r.toNat], List.getElem?_eq_getElem (by omega)⟩
    rw [List.getElem?_map, hx]
    walk_at "w"
    refine ⟨small1000 (by rw [List.length_map]; omega), ?_⟩
    walk_at "w"
    have pe := erase_perm hx
    refine ⟨(left.eraseIdx r.toNat).length, ?_, left.eraseIdx r.toNat, found ++ [x], y4, rfl, ?_, ?_, rfl⟩
    · have := pe.length_eq
      rw [List.length_cons] at this
      omega
    · rw [eraseIdx_map, List.map_append]
      rfl
    · refine List.Perm.trans ?_ hp
      refine List.Perm.trans ?_ (pe.append_right found)
      rw [← List.append_assoc]
      exact List.perm_append_comm
  · have hz : left = [] := by
      cases left with
      | nil => rfl
      | cons a b => cases h
    subst hz
    walk_at "w"
    exact q found hp
end DL

end
section

namespace DL
open PySem L2 PyProof.Rows MX
local macro_rules | `(tactic| walk_at "w") => `(tactic| ((conv => whnf); repeat (first | (refine br_t rfl ?_; conv => whnf) | (refine br_f rfl ?_; conv => whnf))))
local macro_rules | `(tactic| walk_at "g") => `(tactic| (walk_at "w"; repeat (refine ⟨rfl, ?_⟩; walk_at "w")))
def ordR (ords : List (List Str)) (t : Nat) : List Str := (ords[t % ords.length]?).getD []
/-- what a law's run is given -/
structure RunA (L : List Ln) (F : List Fk) (ords : List (List Str)) (holds : List Int) : Prop where
  v : LanesV L
  hi : F.length ≤ 10
  one : ∀ f ∈ F, FkV L f
  nd : (F.map Fk.nm).Nodup
  ne : ords ≠ []
  ol : ords.length ≤ 1000
  pm : ∀ o ∈ ords, o.Perm (F.map Fk.nm)
  hl : holds.length ≤ 1000
  hh : ∀ h ∈ holds, h < 12
theorem ordR_mem {ords : List (List Str)} (h : ords ≠ []) (t : Nat) : ordR ords t ∈ ords := by
  have hp : 0 < ords.length := List.length_pos_iff.mpr h
  have hlt : t % ords.length < ords.length := Nat.mod_lt _ hp
  unfold ordR
  rw [List.getElem?_eq_getElem hlt]
  exact List.getElem_mem hlt
theorem RunA.run {L : List Ln} {F : List Fk} {ords : List (List Str)} {holds : List Int} (h : RunA L F ords holds) : RunV L F (wH L holds) (ordR ords) := runVH h.hh h.v h.hi h.one h.nd fun t => h.pm _ (ordR_mem h.ne t)
def F_l_run : PSp := fun ds Q _ => ∃ L F ords holds, ds = [encLs L, encFs F, .lst (ords.map encO), .lst (holds.map .int)] ∧ RunA L F ords holds ∧ Q (encP (planR L F (wH L holds) (ordR ords)))
def thereL (F : List Fk) (σ : Str → PS Str) : List (Key × D) := F.map fun f => (.inr f.nm, .lst [.str (σ f.nm).cr, .int (σ f.nm).sn])
/-- law_run: lanes folk orders holds there found tick left name here since lane one -/
def t_l_run (Wd : Str → List DO → Prop) : TDS :=
  sSeq (sSet 4 (dDictPM (daCons (dComp (iSeq (dVar 1)) (gN 12) (dYes) (dTup (daCons (dOp dIx (dVar 12) (dC (.int 0))) (daCons (dLst (daCons (dOp dIx (dVar 12) (dC (.int 1))) (daCons (dOp dIx (dVar 12) (dC (.int 2))) (daNil)))) (daNil)))) [12]) (daNil)))) (sSeq (sTup 2 (daCons (dDictL (iSeq (dVar 1)) (gN 12) (dOp dIx (dVar 12) (dC (.int 0))) [12]) (daCons (dC (.int 0)) (daNil))) (gsCons (gN 5) (gsCons (gN 6) (gsNil)))) (sSeq (sWhile (dB (dOp dNe (dLock 4 (dComp (iKeysD (dVar 4)) (gN 8) (dB (dOp dNe (dOp dIx (dOp dIx (dVar 4) (dVar 8)) (dC (.int 0))) (dC (.str "home")))) (dVar 8) [8])) (dLst (daNil)))) (sSeq (sSet 7 (dDictPM (daCons (dComp (iSeq (dVar 0)) (gN 11) (dYes) (dTup (daCons (dOp dIx (dVar 11) (dC (.int 0))) (daCons (dCB dMax (daCons (dC (.int 0)) (daCons (dOp dSub (dOp dIx (dVar 11) (dC (.int 2))) (dCB dIntOf (daCons (dOp dIn (dVar 6) (dVar 3)) (daNil)))) (daNil)))) (daNil)))) [11]) (daNil)))) (sSeq (sFor (iSeq (dOp dIx (dVar 2) (dOp dMod (dVar 6) (dCB dLen (daCons (dVar 2) (daNil)))))) (gN 8) (sSeq (sAsg (dOp dIx (dVar 4) (dVar 8)) (gT 2 (gsCons (gN 9) (gsCons (gN 10) (gsNil))))) (sIf (dAnd (dB (dOp dNe (dVar 9) (dC (.str "home")))) (dAnd (dB (dOp dLe (dVar 10) (dVar 6))) (dB (dOp dGt (dOp dIx (dVar 7) (dVar 9)) (dC (.int 0)))))) (sSeq (sSet 11 (dCall F_l_lane Wd (daCons (dVar 0) (daCons (dVar 9) (daNil))))) (sSeq (sAsg (dOp dSub (dOp dIx (dVar 7) (dVar 9)) (dC (.int 1))) (gStore (dVar 7) (dVar 9))) (sSeq (sExpr (dAppL (dVar 5) (dVar 8) (daCons (dVar 6) (daNil)))) (sAsg (dLst (daCons (dOp dIx (dVar 11) (dC (.int 1))) (daCons (dOp dAdd (dVar 6) (dOp dIx (dVar 11) (dC (.int 3)))) (daNil)))) (gStore (dVar 4) (dVar 8)))))) (sNext)))) (sSet 6 (dOp dAdd (dVar 6) (dC (.int 1))))))) (sRet (dCB dTuple (daCons (dComp (iSeq (dVar 1)) (gN 12) (dYes) (dTupL (dVar 5) (dOp dIx (dVar 12) (dC (.int 0)))) [12]) (daNil))))))
theorem thereL_put {F : List Fk} {f : Fk} (hf : f ∈ F) (σ : Str → PS Str) (p : PS Str) : putD (thereL F σ) (.inr f.nm) (.lst [.str p.cr, .int p.sn]) = thereL F (updF σ f.nm p) :=
  put_in Fk.nm _ _ f.nm _ ⟨f, hf, rfl⟩ (fun a _ q => by unfold updF; rw [if_pos q]) (fun a _ q => by unfold updF; rw [if_neg q])
abbrev rlB (Wd : Str → List DO → Prop) : TDS := (sSeq (sAsg (dOp dIx (dVar 4) (dVar 8)) (gT 2 (gsCons (gN 9) (gsCons (gN 10) (gsNil))))) (sIf (dAnd (dB (dOp dNe (dVar 9) (dC (.str "home")))) (dAnd (dB (dOp dLe (dVar 10) (dVar 6))) (dB (dOp dGt (dOp dIx (dVar 7) (dVar 9)) (dC (.int 0)))))) (sSeq (sSet 11 (dCall F_l_lane Wd (daCons (dVar 0) (daCons (dVar 9) (daNil))))) (sSeq (sAsg (dOp dSub (dOp dIx (dVar 7) (dVar 9)) (dC (.int 1))) (gStore (dVar 7) (dVar 9))) (sSeq (sExpr (dAppL (dVar 5) (dVar 8) (daCons (dVar 6) (daNil)))) (sAsg (dLst (daCons (dOp dIx (dVar 11) (dC (.int 1))) (daCons (dOp dAdd (dVar 6) (dOp dIx (dVar 11) (dC (.int 3)))) (daNil)))) (gStore (dVar 4) (dVar 8)))))) (sNext)))
theorem rl_loop {L : List Ln} {F : List Fk} {De : DEnds} {Kp : List DO → Prop} {Wd : Str → List DO → Prop} (hk : ∀ M, Kp M) (v : LanesV L) (nd : (F.map Fk.nm).Nodup) (hF : F.length ≤ 10) {t : Nat} {a1 a2 a3 : Option Val} (junk : List DO) {y12 : Option Val} : ∀ (ns : List Str) (σ : Str → PS Str) (lf : Str → Int) (y8 y9 y10 y11 : Option Val),
    ns.Nodup → (∀ n ∈ ns, n ∈ F.map Fk.nm ∧ PSv L (σ n)) →
    (∀ y8 y9 y10 y11 lf', De.nx [some (.d (encLs L)), a1, a2, a3, some (.mu 0), some (.mu 1), some (.d (.int t)), some (.mu (junk.length + 2)), y8, y9, y10, y11, y12] (.dk (thereL F (pass (netL L) t ns lf σ)) :: .dl (foundD F (pass (netL L) t ns lf σ)) :: (junk ++ [.dk (leftD L lf')]))) →
    dLoop Kp (gN 8) (rlB Wd) De (ns.map .str) [some (.d (encLs L)), a1, a2, a3, some (.mu 0), some (.mu 1), some (.d (.int t)), some (.mu (junk.length + 2)), y8, y9, y10, y11, y12] (.dk (thereL F σ) :: .dl (foundD F σ) :: (junk ++ [.dk (leftD L lf)]))
  | [], σ, lf, y8, y9, y10, y11, _, _, q => ⟨hk _, q y8 y9 y10 y11 lf⟩
  | n :: ns, σ, lf, y8, y9, y10, y11, hn, hv, q => by
    obtain ⟨hn1, hn2⟩ := List.nodup_cons.mp hn
    obtain ⟨hin, hp⟩ := hv n List.mem_cons_self
    obtain ⟨f, hf, e⟩ := List.mem_map.mp hin
    subst e
    have lt := look_nm F (fun f => .lst [.str (σ f.nm).cr, .int (σ f.nm).sn]) nd hf
    have l8 := v.hi
    refine ⟨hk _, ?_⟩
    walk_at "w"
    rw [show dlook (.dk (thereL F σ)) (.str f.nm) = some (some (.lst [.str (σ f.nm).cr, .int (σ f.nm).sn])) from congrArg some lt]
    walk_at "g"
    have okc := cr_strOk v hp.cr
    refine ⟨okD_str okc, okD_str ok_home, ?_⟩
    rw [eqD_str]
    walk_at "w"
    have skip : ¬ (waits (netL L) t (σ f.nm) = true ∧ 0 < lf (σ f.nm).cr) → dLoop Kp (gN 8) (rlB Wd) De (ns.map .str) [some (.d (encLs L)), a1, a2, a3, some (.mu 0), some (.mu 1), some (.d (.int t)), some (.mu (junk.length + 2)), some (.d (.str f.nm)), some (.d (.str (σ f.nm).cr)), some (.d (.int (σ f.nm).sn)), y11, y12] (.dk (thereL F σ) :: .dl (foundD F σ) :: (junk ++ [.dk (leftD L lf)])) := fun h => by
      refine rl_loop hk v nd hF junk ns σ lf _ _ _ _ hn2 (fun n hn => hv n (List.mem_cons_of_mem _ hn)) fun z8 z9 z10 z11 lf' => ?_
      have := q z8 z9 z10 z11 lf'
      rw [pass, if_neg h] at this
      exact this
    refine br_of (fun h => ?_) (fun h => ?_)
    · have h1 : ¬ (σ f.nm).cr = "home" := by simpa using h
      have hcs := hp.cr.resolve_right h1
      obtain ⟨l, hlm, el, eln, hlv⟩ := cs_get v hcs
      walk_at "w"
      refine br_of (fun h => ?_) (fun h => ?_)
      · have h2 : (σ f.nm).sn ≤ t := by simpa using h
        have hw : waits (netL L) t (σ f.nm) = true := by
          unfold waits
          simp [h2]
          exact h1
        have es := cs_some.mpr hcs
        have sL : (leftD L lf).length < sizeLine := by unfold leftD; rw [List.length_map]; exact Nat.lt_of_le_of_lt l8 (by decide)
        have sF : (thereL F σ).length < sizeLine := by unfold thereL; rw [List.length_map]; exact Nat.lt_of_le_of_lt hF (by decide)
        walk_at "w"
        rw [rd_last]
        walk_at "w"
        rw [show dlook (.dk (leftD L lf)) (.str (σ f.nm).cr) = some (some (.int (lf (σ f.nm).cr))) from congrArg some (left_look lf es)]
        walk_at "w"
        refine br_of (fun h => ?_) (fun h => ?_)
        · have h3 : 0 < lf (σ f.nm).cr := by simpa using h
          walk_at "w"
          refine ⟨L, _, l, rfl, v, el, ?_⟩
          walk_at "w"
          rw [rd_last]
          walk_at "w"
          rw [show dlook (.dk (leftD L lf)) (.str (σ f.nm).cr) = some (some (.int (lf (σ f.nm).cr))) from congrArg some (left_look lf es)]
          walk_at "w"
          rw [at_last]
          walk_at "w"
          rw [store_k sL]
          walk_at "w"
          rw [left_put lf _ es, set2_last]
          have lf1 := lookDl_nm F (fun f => (σ f.nm).rw.map fun r => D.int r.g) nd hf
          rw [show lookDl (foundD F σ) (.inr f.nm) = _ from lf1]
          walk_at "w"
          refine ⟨rfl, ?_⟩
          walk_at "w"
          refine ⟨rfl, ?_⟩
          walk_at "w"
          refine ⟨by rw [List.length_map]; exact Nat.lt_of_le_of_lt hp.ln (by decide), ?_⟩
          rw [found_app nd hf σ (moved (netL L) t (σ f.nm)) ⟨(σ f.nm).cr, (σ f.nm).sn, t⟩ rfl]
          walk_at "w"
          refine ⟨small_len (show 2 ≤ 1000 by omega), ?_⟩
          walk_at "w"
          rw [store_k sF]
          have ep : D.lst [.str l.to, .int ((t : Int) + l.lg)] = .lst [.str (moved (netL L) t (σ f.nm)).cr, .int (moved (netL L) t (σ f.nm)).sn] := by
            show _ = D.lst [.str (toL L (σ f.nm).cr), .int ((t : Int) + lgL L (σ f.nm).cr)]
            rw [toL_eq el, lgL_eq el]
          rw [ep, thereL_put hf]
          walk_at "w"
          refine rl_loop hk v nd hF junk ns (updF σ f.nm (moved (netL L) t (σ f.nm))) (updF lf (σ f.nm).cr (lf (σ f.nm).cr - 1)) _ _ _ _ hn2 (fun n hn => ?_) fun z8 z9 z10 z11 lf' => ?_
          · have h := hv n (List.mem_cons_of_mem _ hn)
            refine ⟨h.1, ?_⟩
            unfold updF
            rw [if_neg (fun q => hn1 (by rw [← q]; exact hn))]
            exact h.2
          · have := q z8 z9 z10 z11 lf'
            rw [pass, if_pos ⟨hw, h3⟩] at this
            exact this
        · have h3 : ¬ 0 < lf (σ f.nm).cr := by simpa using h
          walk_at "w"
          exact skip fun z => h3 z.2
      · have h2 : ¬ (σ f.nm).sn ≤ t := by simpa using h
        walk_at "w"
        refine skip fun z => h2 ?_
        have := z.1
        unfold waits at this
        simp at this
        exact this.2
    · have h1 : (σ f.nm).cr = "home" := by simpa using h
      walk_at "w"
      refine skip fun z => ?_
      have := z.1
      unfold waits at this
      simp at this
      exact this.1 h1
def WRl (L : List Ln) (F : List Fk) (ords : List (List Str)) (holds : List Int) : Nat → Sl → List DO → Prop := fun m E M => ∃ (t : Nat) (y7 y8 y9 y10 y11 y12 : Option Val) (junk : List DO),
  E = [some (.d (encLs L)), some (.d (encFs F)), some (.d (.lst (ords.map encO))), some (.d (.lst (holds.map .int))), some (.mu 0), some (.mu 1), some (.d (.int t)), y7, y8, y9, y10, y11, y12] ∧
  M = .dk (thereL F (rn (netL L) (wH L holds) (ordR ords) (stF F) t)) :: .dl (foundD F (rn (netL L) (wH L holds) (ordR ords) (stF F) t)) :: junk ∧
  Meas (netL L) (dL L) (F.map Fk.nm) 12 m t (rn (netL L) (wH L holds) (ordR ords) (stF F) t)
theorem pairs_map {α : Type} (fk : α → Key) (kd : α → D) (fv : α → D) (hk : ∀ a, keyD (kd a) = some (fk a)) : ∀ xs : List α, pairsD (xs.map fun a => D.tup [kd a, fv a]) = some (xs.map fun a => (fk a, fv a))
  | [] => rfl
  | x :: xs => by
    rw [List.map_cons, pairsD, hk x, pairs_map fk kd fv hk xs]
    rfl
theorem merge_nd {α : Type} (fk : α → Key) (fv : α → D) {xs : List α} (nd : (xs.map fk).Nodup) : mergeD [] (xs.map fun a => (fk a, fv a)) = xs.map fun a => (fk a, fv a) := by
  unfold mergeD
  rw [List.foldl_map]
  exact (put_all fk fv xs [] (by simpa using nd)).trans (List.nil_append _)
theorem inD_ints (c : Int) (xs : List Int) : inD (.int c) (xs.map .int) = decide (c ∈ xs) := by
  unfold inD
  rw [List.any_map]
  induction xs with
  | nil => rfl
  | cons x xs ih =>
    rw [List.any_cons, ih]
    show ((x == c) || _) = _
    by_cases h : x = c
    · subst h; simp
    · have h' : ¬ c = x := fun q => h q.symm
      simp [h, h']
theorem flat_ints (xs : List Int) : (xs.map D.int).all flatD = true := by
  rw [List.all_map, List.all_eq_true]
  intro x _
  rfl
theorem ordR_at {ords : List (List Str)} (h : ords ≠ []) (t : Nat) : atI (ords.map encO) ((t : Int) % (ords.length : Int)) = some (encO (ordR ords t)) := by
  have hp : 0 < ords.length := List.length_pos_iff.mpr h
  have hlt : t % ords.length < ords.length := Nat.mod_lt _ hp
  rw [atI_off _ (t % ords.length) _ (by omega), List.getElem?_map]
  unfold ordR
  rw [List.getElem?_eq_getElem hlt]
  rfl
theorem fm_home (F : List Fk) (σ : Str → PS Str) : ((F.filterMap fun f => if (!decide ((σ f.nm).cr = "home")) = true then some (D.str f.nm) else none).isEmpty = true → ∀ n ∈ F.map Fk.nm, (σ n).cr = "home") ∧ ((F.filterMap fun f => if (!decide ((σ f.nm).cr = "home")) = true then some (D.str f.nm) else none).isEmpty = false → ∃ n ∈ F.map Fk.nm, (σ n).cr ≠ "home") := by
  constructor
  · intro h n hn
    obtain ⟨f, hf, e⟩ := List.mem_map.mp hn
    subst e
    rw [List.isEmpty_iff, List.filterMap_eq_nil_iff] at h
    have := h f hf
    simpa using this
  · intro h
    apply Classical.byContradiction
    intro hc
    have : (F.filterMap fun f => if (!decide ((σ f.nm).cr = "home")) = true then some (D.str f.nm) else none) = [] := by
      rw [List.filterMap_eq_nil_iff]
      intro f hf
      have : (σ f.nm).cr = "home" := Classical.byContradiction fun q => hc ⟨f.nm, List.mem_map.mpr ⟨f, hf, rfl⟩, q⟩
      simp [this]
    rw [this] at h
    cases h
theorem w_l_run : WPP 13 t_l_run F_l_run := by
  rintro _ Q E ⟨L, F, ords, holds, rfl, hA, q⟩
  have v := hA.v
  have S := hA.run
  have h8 := v.hi
  have hF := hA.hi
  walk_at "w"
  refine dLC_map encFk (fun f => .tup [.str f.nm, .lst [.str f.cr, .int f.sn]]) trivial F (small_len (by omega)) (fun f hf Y N h => ?_) ?_
  · walk_at "w"
    refine ⟨small_len (show 2 ≤ 1000 by omega), ?_⟩
    walk_at "w"
    refine ⟨small_len (show 2 ≤ 1000 by omega), ?_⟩
    walk_at "w"
    exact h
  walk_at "w"
  rw [pairs_map (fun f : Fk => .inr f.nm) (fun f => .str f.nm) (fun f => .lst [.str f.cr, .int f.sn]) (fun _ => rfl)]
  walk_at "w"
  rw [merge_nd (fun f : Fk => .inr f.nm) (fun f => .lst [.str f.cr, .int f.sn]) (nd_keys hA.nd)]
  refine dDL_of encFk (fun f => .inr f.nm) trivial F [] (small_len (by rw [List.length_nil]; omega)) (by rw [List.nil_append]; exact nd_keys hA.nd) (fun f hf Y h => ?_) ?_
  · walk_at "w"
    exact h
  walk_at "g"
  refine ⟨by omega, ?_⟩
  walk_at "g"
  obtain ⟨m0, hm0⟩ := meas0 S
  refine ⟨WRl L F ords holds, ⟨m0, 0, _, _, _, _, _, _, [], rfl, ?_, hm0⟩, ?_⟩
  · rw [thereL, there0 hA.nd fun c s => .lst [.str c, .int s]]
    show [_, DO.dl ((F.map fun f => (Sum.inr f.nm : Key)).map fun k => (k, []))] = _
    rw [List.map_map]
    rfl
  · rintro m _ _ ⟨t, y7, y8, y9, y10, y11, y12, junk, rfl, rfl, hm⟩
    have P := OrdV.psv S t
    generalize hσ : rn (netL L) (wH L holds) (ordR ords) (stF F) t = σ at *
    walk_at "w"
    intro tok
    walk_at "w"
    rw [show (thereL F σ).map (fun kv => kD kv.1) = F.map (fun f => D.str f.nm) from by unfold thereL; rw [List.map_map]; rfl]
    refine dLC_of (fun f : Fk => .str f.nm) (fun f => if (!decide ((σ f.nm).cr = "home")) = true then some (D.str f.nm) else none) ?_ F [] (small_len (by rw [List.length_nil]; omega)) (fun f hf Y N h => ?_) ?_
    · rfl
    · have hp := P f.nm (List.mem_map.mpr ⟨f, hf, rfl⟩)
      have lt := look_nm F (fun f => .lst [.str (σ f.nm).cr, .int (σ f.nm).sn]) hA.nd hf
      walk_at "w"
      rw [show dlook (.dk (thereL F σ)) (.str f.nm) = some (some (.lst [.str (σ f.nm).cr, .int (σ f.nm).sn])) from congrArg some lt]
      walk_at "w"
      refine ⟨okD_str (cr_strOk v hp.cr), okD_str ok_home, ?_⟩
      rw [eqD_str]
      walk_at "w"
      refine br_of (fun g => ?_) (fun g => ?_)
      · rw [if_pos g] at h
        walk_at "w"
        exact h
      · rw [if_neg (by rw [g]; simp)] at h
        exact h
    rw [List.nil_append]
    walk_at "g"
    refine ⟨small_len (show 0 ≤ 1000 by omega), ?_⟩
    walk_at "w"
    refine ⟨?_, okD_nil, ?_⟩
    · have e : (F.filterMap fun f => if (!decide ((σ f.nm).cr = "home")) = true then some (D.str f.nm) else none) = ((F.filter fun f => !decide ((σ f.nm).cr = "home")).map Fk.nm).map D.str := by
        rw [List.map_map]
        clear hm P hσ
        generalize F = F'
        induction F' with
        | nil => rfl
        | cons f F' ih =>
          rw [List.filterMap_cons, List.filter_cons, ih]
          by_cases g : (σ f.nm).cr = "home" <;> simp [g]
      rw [e]
      refine okD_strs fun x hx => ?_
      obtain ⟨f, hf, e⟩ := List.mem_map.mp hx
      subst e
      exact name_ok (hA.one f (List.mem_filter.mp hf).1).nm
    rw [eqD_nil]
    walk_at "w"
    refine br_of (fun h => ?_) (fun h => ?_)
    · walk_at "w"
      have h := (fm_home F σ).2 (by simpa using h)
      refine dLC_map encLn (fun l => .tup [.str l.nm, .int (wH L holds t l.nm)]) trivial L (small_len (by omega)) (fun l hl Y N hy => ?_) ?_
      · walk_at "g"
        refine ⟨flat_ints _, ?_⟩
        rw [inD_ints]
        walk_at "w"
        refine ⟨small_len (show 2 ≤ 1000 by omega), ?_⟩
        have e : max (0 : Int) (l.wd - if decide ((t : Int) ∈ holds) = true then 1 else 0) = wH L holds t l.nm := by
          unfold wH
          rw [width_look (lookL_mem v.nd hl)]
          by_cases g : (t : Int) ∈ holds <;> simp [g]
        rw [e]
        exact hy
      walk_at "w"
      rw [pairs_map (fun l : Ln => .inr l.nm) (fun l => .str l.nm) (fun l => .int (wH L holds t l.nm)) (fun _ => rfl)]
      walk_at "w"
      rw [merge_nd (fun l : Ln => .inr l.nm) (fun l => .int (wH L holds t l.nm)) (nd_keysL v)]
      refine ⟨by rw [List.length_map]; have := List.length_pos_iff.mpr hA.ne; omega, ?_⟩
      walk_at "w"
      rw [List.length_map, ordR_at hA.ne t]
      walk_at "w"
      refine rl_loop (fun _ => trivial) v hA.nd hF junk (ordR ords t) σ (wH L holds t) _ _ _ _ (S.runs.on t) (fun n hn => ?_) fun y8 y9 y10 y11 lf' => ?_
      · have := (S.pm t).mem_iff.mp hn
        exact ⟨this, P n this⟩
      walk_at "w"
      obtain ⟨m', h1, h2⟩ := meas_step (far v) hA.nd (S.pm t) (lf := wH L holds t) (fun n hn => (P n hn).cr) (S.w0 t) (fun h => S.low t h) hm h
      refine ⟨m', h1, t + 1, _, _, _, _, _, _, junk ++ [.dk (leftD L lf')], rfl, ?_, ?_⟩
      · rw [show rn (netL L) (wH L holds) (ordR ords) (stF F) (t + 1) = pass (netL L) t (ordR ords t) (wH L holds t) σ from by rw [← hσ]; rfl]
      · rw [show rn (netL L) (wH L holds) (ordR ords) (stF F) (t + 1) = pass (netL L) t (ordR ords t) (wH L holds t) σ from by rw [← hσ]; rfl]
        exact h2
    · have h := (fm_home F σ).1 (by simpa using h)
      have e := S.same (t := t) (by rw [hσ]; exact h)
      have e2 : foundD F σ = foundD F (finS L F (wH L holds) (ordR ords)) := List.map_congr_left fun f hf => by
        rw [← hσ, e f.nm (List.mem_map.mpr ⟨f, hf, rfl⟩)]
      rw [e2]
      walk_at "w"
      refine dLC_map encFk (fun f => .tup ((finS L F (wH L holds) (ordR ords) f.nm).rw.map fun r => .int r.g)) trivial F (small_len (by omega)) (fun f hf Y N h => ?_) ?_
      · walk_at "w"
        rw [show lookDl (foundD F (finS L F (wH L holds) (ordR ords))) (.inr f.nm) = _ from lookDl_nm F (fun f => (finS L F (wH L holds) (ordR ords) f.nm).rw.map fun r : Row Str => D.int r.g) hA.nd hf]
        walk_at "w"
        exact h
      walk_at "w"
      rw [plan_enc]
      exact q
end DL

end
section

namespace DL
open PySem L2 PyProof.Rows MX
local macro_rules | `(tactic| walk_at "w") => `(tactic| ((conv => whnf); repeat (first | (refine br_t rfl ?_; conv => whnf) | (refine br_f rfl ?_; conv => whnf))))
local macro_rules | `(tactic| walk_at "g") => `(tactic| (walk_at "w"; repeat (refine ⟨rfl, ?_⟩; walk_at "w")))
theorem dLC_any {α β : Type} {Kp : List DO → Prop} {t : TDG} {tt : TDT} {te : TD} {E : Sl} {Q : List D → List DO → Prop} {M : List DO} (enc : α → D) (encR : β → D) (P : β → Prop) (hk : Kp M) : ∀ (xs : List α) (acc : List D), acc.length + xs.length ≤ sizeLine →
    (∀ x ∈ xs, ∀ (Y : D → List DO → Prop) (N : List DO → Prop), (∀ r, P r → Y (encR r) M) → t (.d (enc x)) E M fun E1 M1 => tt E1 M1 fun b M2 => br b (te E1 M2 (onD Y)) (N M2)) →
    (∀ rs : List β, rs.length = xs.length → (∀ r ∈ rs, P r) → Q (acc ++ rs.map encR) M) → dLC Kp t tt te E Q (xs.map enc) acc M
  | [], acc, _, _, q => by
    have := q [] rfl (by simp)
    rw [List.map_nil, List.append_nil] at this
    exact ⟨hk, this⟩
  | x :: xs, acc, hl, st, q => by
    rw [List.length_cons] at hl
    refine ⟨hk, st x List.mem_cons_self _ _ fun r hr => ⟨by omega, ?_⟩⟩
    refine dLC_any enc encR P hk xs _ (by rw [List.length_append, List.length_singleton]; omega) (fun y hy => st y (List.mem_cons_of_mem _ hy)) fun rs h1 h2 => ?_
    have := q (r :: rs) (by rw [List.length_cons, List.length_cons, h1]) fun z hz => by
      rcases List.mem_cons.mp hz with e | e
      · subst e; exact hr
      · exact h2 z e
    rw [List.append_assoc]
    exact this
/-- kept or not, as drawn -/
theorem dLC_sub {α : Type} {Kp : List DO → Prop} {t : TDG} {tt : TDT} {te : TD} {E : Sl} {Q : List D → List DO → Prop} {M : List DO} (enc encR : α → D) (hk : Kp M) : ∀ (xs : List α) (acc : List D), acc.length + xs.length ≤ sizeLine →
    (∀ x ∈ xs, ∀ (Y : D → List DO → Prop) (N : List DO → Prop), Y (encR x) M → N M → t (.d (enc x)) E M fun E1 M1 => tt E1 M1 fun b M2 => br b (te E1 M2 (onD Y)) (N M2)) →
    (∀ rs : List α, rs.Sublist xs → Q (acc ++ rs.map encR) M) → dLC Kp t tt te E Q (xs.map enc) acc M
  | [], acc, _, _, q => by
    have := q [] (List.Sublist.refl _)
    rw [List.map_nil, List.append_nil] at this
    exact ⟨hk, this⟩
  | x :: xs, acc, hl, st, q => by
    rw [List.length_cons] at hl
    refine ⟨hk, st x List.mem_cons_self _ _ ⟨by omega, ?_⟩ ?_⟩
    · refine dLC_sub enc encR hk xs _ (by rw [List.length_append, List.length_singleton]; omega) (fun y hy => st y (List.mem_cons_of_mem _ hy)) fun rs h1 => ?_
      have := q (x :: rs) (h1.cons_cons x)
      rw [List.append_assoc]
      exact this
    · exact dLC_sub enc encR hk xs _ (by omega) (fun y hy => st y (List.mem_cons_of_mem _ hy)) fun rs h1 => q rs (h1.cons x)
/-- no tick beyond -/
def ticksB (P : List (List Int)) (B : Int) : Prop := ∀ ts ∈ P, ∀ t ∈ ts, t ≤ B
def F_l_any_plan : PSp := fun ds Q _ => ∃ L F, ds = [encLs L, encFs F] ∧ LanesV L ∧ FolkV L F ∧ ∀ P, isPlanP L F P = true → ticksB P 6000 → Q (encP P)
def F_l_later : PSp := fun ds Q _ => ∃ P : List (List Int), ds = [encP P] ∧ 1 ≤ P.length ∧ P.length ≤ 100 ∧ (∀ ts ∈ P, 1 ≤ ts.length ∧ ts.length ≤ 100) ∧ ∀ P' : List (List Int), P'.length = P.length → (∀ ts ∈ P', ts.length ≤ 100) → (∀ B, 0 ≤ B → ticksB P B → ticksB P' (B + 100)) → Q (encP P')
/-- law_any_plan: well lanes folk orders holds turn -/
def t_l_any_plan (Wd : Str → List DO → Prop) : TDS :=
  sSeq (sSet 3 (dComp (iRange1 (daCons (dOp dAdd (dC (.int 1)) (dCallW F_l_take Wd (daCons (dVar 0) (daCons (dC (.int 4)) (daNil))))) (daNil))) (gN 5) (dYes) (dCallW F_l_drawn_order (fun _ _ => False) (daCons (dVar 0) (daCons (dVar 2) (daNil)))) [5])) (sSeq (sSet 4 (dComp (iRange1 (daCons (dCallW F_l_take Wd (daCons (dVar 0) (daCons (dC (.int 4)) (daNil)))) (daNil))) (gN 5) (dYes) (dCallW F_l_take (fun _ _ => False) (daCons (dVar 0) (daCons (dC (.int 12)) (daNil)))) [5])) (sRet (dCall F_l_run Wd (daCons (dVar 1) (daCons (dVar 2) (daCons (dVar 3) (daCons (dVar 4) (daNil))))))))
/-- law_later: well plan at ticks -/
def t_l_later (Wd : Str → List DO → Prop) : TDS :=
  sSeq (sSet 2 (dCallW F_l_take Wd (daCons (dVar 0) (daCons (dCB dLen (daCons (dVar 1) (daNil))) (daNil))))) (sSeq (sSet 3 (dOp dIx (dVar 1) (dVar 2))) (sRet (dOp dAdd (dOp dAdd (dSlice (dVar 1) doNone (doSome (dVar 2))) (dTup (daCons (dOp dAdd (dSlice (dVar 3) doNone (doSome (dNeg (dC (.int 1))))) (dTup (daCons (dOp dAdd (dOp dAdd (dOp dIx (dVar 3) (dNeg (dC (.int 1)))) (dC (.int 1))) (dCallW F_l_take Wd (daCons (dVar 0) (daCons (dC (.int 90)) (daNil))))) (daNil)))) (daNil)))) (dSlice (dVar 1) (doSome (dOp dAdd (dVar 2) (dC (.int 1)))) doNone))))
theorem cut_take (xs : List D) (k : Nat) (h : k ≤ xs.length) : cutD xs none (some (k : Int)) = xs.take k := by
  unfold cutD
  rw [HT.sIx_nat, HT.sIx_none, List.drop_zero, Nat.sub_zero, Nat.min_eq_left h]
theorem cut_drop (xs : List D) (k : Nat) (h : k ≤ xs.length) : cutD xs (some (k : Int)) none = xs.drop k := by
  unfold cutD
  rw [HT.sIx_nat, HT.sIx_none, Nat.min_eq_left h, List.take_of_length_le]
  rw [List.length_drop]
  exact Nat.le_refl _
theorem cut_init (xs : List D) : cutD xs none (some (-1)) = xs.dropLast := by
  unfold cutD
  rw [HT.sIx_none, List.drop_zero, Nat.sub_zero, List.dropLast_eq_take]
  congr 1
  unfold HT.sIx
  dsimp only
  rw [if_pos (by omega)]
  omega
theorem w_l_any_plan : WPW 6 t_l_any_plan F_l_any_plan := by
  rintro _ Qd Ed ⟨L, F, rfl, v, fv, q⟩
  walk_at "g"
  refine ⟨4, rfl, by omega, by omega, fun r h0 h1 => ?_⟩
  walk_at "g"
  refine ⟨by omega, by omega, ?_⟩
  refine dLC_any (fun i : Nat => D.int ((0 : Int) + (i : Nat))) encO (fun o => o.Perm (F.map Fk.nm)) trivial _ [] (by rw [List.length_range, List.length_nil]; exact small_len (by omega)) (fun i hi Y N h => ?_) fun ords ho hp => ?_
  · walk_at "g"
    refine ⟨F, rfl, by have := fv.hi; omega, fun f hf => (fv.one f hf).nm, fun o hp => ?_⟩
    walk_at "w"
    exact h o hp
  rw [List.length_range] at ho
  rw [List.nil_append]
  walk_at "g"
  refine ⟨4, rfl, by omega, by omega, fun r2 h2 h3 => ?_⟩
  walk_at "w"
  refine ⟨by omega, by omega, ?_⟩
  refine dLC_any (fun i : Nat => D.int ((0 : Int) + (i : Nat))) D.int (fun h => h < 12) trivial _ [] (by rw [List.length_range, List.length_nil]; exact small_len (by omega)) (fun i hi Y N h => ?_) fun holds hl hh => ?_
  · walk_at "g"
    refine ⟨12, rfl, by omega, by omega, fun r h4 h5 => ?_⟩
    walk_at "w"
    exact h r h5
  rw [List.length_range] at hl
  rw [List.nil_append]
  walk_at "w"
  have hA : RunA L F ords holds := ⟨v, fv.hi, fv.one, fv.nd, by intro z; rw [z] at ho; simp at ho; omega, by omega, hp, by omega, hh⟩
  refine ⟨L, F, ords, holds, rfl, hA, ?_⟩
  refine q _ hA.run.plan fun ts hts t ht => ?_
  obtain ⟨f, hf, e⟩ := List.mem_map.mp hts
  subst e
  obtain ⟨r, hr, e⟩ := List.mem_map.mp ht
  subst e
  have := (at_run hA.run.runs 6000 f.nm (List.mem_map.mpr ⟨f, hf, rfl⟩)).gt r hr
  omega
theorem w_l_later : WPW 4 t_l_later F_l_later := by
  rintro _ Qd Ed ⟨P, rfl, h1, h2, h3, q⟩
  walk_at "g"
  refine ⟨P.length, by rw [List.length_map], by omega, by omega, fun r hr0 hr1 => ?_⟩
  obtain ⟨k, rfl⟩ : ∃ k : Nat, r = k := ⟨r.toNat, by omega⟩
  have hlt : k < P.length := by omega
  obtain ⟨hp1, hp2⟩ := h3 _ (List.getElem_mem hlt)
  walk_at "w"
  rw [atI_nat, List.getElem?_map, List.getElem?_eq_getElem hlt]
  walk_at "w"
  obtain ⟨t, ht⟩ : ∃ t, (P[k]).getLast? = some t := by
    rw [List.getLast?_eq_getElem?]
    exact ⟨_, List.getElem?_eq_getElem (by omega)⟩
  rw [show -(1 : Int) = -1 from rfl, show atI ((P[k]).map D.int) (-1) = _ from atI_last (getLast_map _ ht)]
  walk_at "g"
  refine ⟨90, rfl, by omega, by omega, fun b hb0 hb1 => ?_⟩
  walk_at "w"
  refine ⟨small_len (show 1 ≤ 1000 by omega), ?_⟩
  walk_at "w"
  rw [cut_init]
  refine ⟨small_len (by rw [List.length_dropLast, List.length_map]; show _ + 1 ≤ 1000; omega), ?_⟩
  walk_at "w"
  refine ⟨small_len (show 1 ≤ 1000 by omega), ?_⟩
  walk_at "w"
  rw [cut_take _ _ (by rw [List.length_map]; omega)]
  refine ⟨small_len (by rw [List.length_take, List.length_map]; show _ + 1 ≤ 1000; omega), ?_⟩
  walk_at "w"
  have er2 : ((k : Nat) : Int) + 1 = ((k + 1 : Nat) : Int) := by omega
  rw [er2, cut_drop _ _ (by rw [List.length_map]; omega)]
  refine ⟨small_len (by rw [List.length_append, List.length_take, List.length_drop, List.length_map]; show (_ + 1) + _ ≤ 1000; omega), ?_⟩
  walk_at "w"
  have e : (P.map encTs).take k ++ [D.tup (((P[k]).map D.int).dropLast ++ [D.int (t + 1 + b)])] ++ (P.map encTs).drop (k + 1) = (P.take k ++ [(P[k]).dropLast ++ [t + 1 + b]] ++ P.drop (k + 1)).map encTs := by
    rw [List.map_append, List.map_append, List.map_take, List.map_drop]
    congr 2
    show [D.tup _] = [D.tup (((P[k]).dropLast ++ [t + 1 + b]).map D.int)]
    rw [List.map_append, List.map_dropLast]
    rfl
  rw [e]
  refine q _ ?_ (fun ts hts => ?_) fun B hB hb ts hts z hz => ?_
  · rw [List.length_append, List.length_append, List.length_take, List.length_drop]
    show min _ _ + 1 + _ = _
    omega
  · rcases List.mem_append.mp hts with h | h
    · rcases List.mem_append.mp h with h | h
      · exact (h3 ts (List.mem_of_mem_take h)).2
      · simp at h
        subst h
        rw [List.length_append, List.length_dropLast]
        show _ + 1 ≤ 100
        omega
    · exact (h3 ts (List.mem_of_mem_drop h)).2
  · rcases List.mem_append.mp hts with h | h
    · rcases List.mem_append.mp h with h | h
      · have := hb ts (List.mem_of_mem_take h) z hz; omega
      · simp at h
        subst h
        rcases List.mem_append.mp hz with h | h
        · have := hb _ (List.getElem_mem hlt) z ((List.dropLast_sublist _).subset h); omega
        · simp at h
          have := hb _ (List.getElem_mem hlt) t (List.mem_of_getLast? ht)
          omega
    · have := hb ts (List.mem_of_mem_drop h) z hz; omega
end DL

end
section

namespace DL
open PySem L2 PyProof.Rows MX
local macro_rules | `(tactic| walk_at "w") => `(tactic| ((conv => whnf); repeat (first | (refine br_t rfl ?_; conv => whnf) | (refine br_f rfl ?_; conv => whnf))))
local macro_rules | `(tactic| walk_at "g") => `(tactic| (walk_at "w"; repeat (refine ⟨rfl, ?_⟩; walk_at "w")))
/-! ### sorted things -/
theorem leD_eq (a b : D) : leD a b = !PyProof.Rows.lexLt PyProof.Rows.itemOrd (PySem.W.keyToks (py b)) (PySem.W.keyToks (py a)) := rfl
theorem leD_total : PySem.W.TotalLe leD := PySem.W.sortLe_total (PyProof.Rows.listOrd PyProof.Rows.itemOrd) false fun b => PySem.W.keyToks (py b)
theorem sortD_map {α : Type} (enc : α → D) (xs : List α) : sortD (xs.map enc) = (xs.mergeSort fun a b => leD (enc a) (enc b)).map enc :=
  (List.map_mergeSort (r := fun a b => leD (enc a) (enc b)) (s := leD) (f := enc) (fun _ _ _ _ => rfl)).symm
theorem sort_pw {α : Type} (enc : α → D) (xs : List α) : (xs.mergeSort fun a b => leD (enc a) (enc b)).Pairwise fun a b => leD (enc a) (enc b) = true :=
  List.pairwise_mergeSort (le := fun a b => leD (enc a) (enc b)) (fun a b c h1 h2 => leD_total.trans _ _ _ h1 h2) (fun a b => Bool.or_eq_true_iff.mpr (leD_total.total _ _)) xs
theorem lex_c (x y : Int ⊕ List Nat) (r t : List (Int ⊕ List Nat)) : PyProof.Rows.lexLt PyProof.Rows.itemOrd (x :: r) (y :: t) = (PyProof.Rows.itemLt x y || (!PyProof.Rows.itemLt y x && PyProof.Rows.lexLt PyProof.Rows.itemOrd r t)) := PyProof.Rows.lex_cons (O := PyProof.Rows.itemOrd) x y r t
theorem it_i (a b : Int) : PyProof.Rows.itemLt (.inl a) (.inl b) = decide (a < b) := rfl
theorem it_s (a b : List Nat) : PyProof.Rows.itemLt (.inr a) (.inr b) = decide (a < b) := rfl
theorem toks_tup (xs : List D) : PySem.W.keyToks (py (.tup xs)) = PySem.W.keyToksAll (pys xs) := rfl
theorem toks_c (x : D) (xs : List D) : PySem.W.keyToksAll (pys (x :: xs)) = .inl 1 :: (PySem.W.keyToks (py x) ++ PySem.W.keyToksAll (pys xs)) := rfl
theorem toks_s (x : Str) : PySem.W.keyToks (py (.str x)) = [.inr x.cps.toList] := rfl
theorem toks_i (x : Int) : PySem.W.keyToks (py (.int x)) = [.inl x] := rfl
theorem str_ext {a b : Str} (h : a.cps.toList = b.cps.toList) : a = b := PySem.W.str_of_cps h
theorem lts_irrefl (a : List Nat) : ¬ a < a := List.lt_irrefl a
theorem lts_total {a b : List Nat} (h : ¬ a < b) (h2 : ¬ b < a) : a = b := List.le_antisymm (List.not_lt.mp h2) (List.not_lt.mp h)
/-- tuples whose first things are unlike texts -/
theorem leD_nm {a b : Str} {r s : List D} (h : leD (.tup (.str a :: r)) (.tup (.str b :: s)) = true) (hne : a ≠ b) : a.cps.toList < b.cps.toList := by
  rw [leD_eq, toks_tup, toks_tup, toks_c, toks_c, toks_s, toks_s, lex_c, List.singleton_append, List.singleton_append, lex_c, it_i, it_s, it_s] at h
  simp at h
  apply Classical.byContradiction
  intro hlt
  have := h.2
  apply hne
  refine str_ext (lts_total hlt ?_)
  intro q
  exact absurd q (by simpa using h.1)
theorem alike_ln (a b : Ln) : PySem.W.alike (py (encLn a)) (py (encLn b)) = true := rfl
theorem sort_args {α : Type} (enc : α → D) (xs : List α) (hlay : ∀ x ∈ xs, lay (enc x) = true) (hal : ∀ x ∈ xs, ∀ y ∈ xs, PySem.W.alike (py (enc x)) (py (enc y)) = true) (hs : PySem.W.Sortable (pys (xs.map enc))) (hd : ∀ x ∈ xs, dep (enc x) ≤ 60) :
    PyData.canLayAll0 (pys (xs.map enc)) = true ∧ alikes (xs.map enc) ∧ ∀ d ∈ xs.map enc, (py d).depth ≤ 60 := by
  refine ⟨lays_py _ (lays_map _ _ hlay), ⟨fun d hd d' hd' => ?_, hs⟩, fun d hd' => ?_⟩
  · rw [pys_map, List.map_map] at hd hd'
    obtain ⟨x, hx, e⟩ := List.mem_map.mp hd
    obtain ⟨y, hy, e'⟩ := List.mem_map.mp hd'
    subst e e'
    exact hal x hx y hy
  · obtain ⟨x, hx, e⟩ := List.mem_map.mp hd'
    subst e
    rw [dep_py _ (hlay x hx)]
    exact hd x hx
theorem sortable_tup {α : Type} (enc : α → D) (h : ∀ x, ∃ y r, enc x = .tup (y :: r)) (xs : List α) : PySem.W.Sortable (pys (xs.map enc)) := .inl fun d hd => by
  rw [pys_map, List.map_map] at hd
  obtain ⟨x, hx, e⟩ := List.mem_map.mp hd
  obtain ⟨y, r, e2⟩ := h x
  refine ⟨py y, pys r, ?_⟩
  rw [← e]
  show py (enc x) = _
  rw [e2]
  rfl
/-! ### lanes as drawn -/
def nms8 : List Str := ["ash", "b", "cy", "dell", "e", "fen", "gate", "h"]
theorem nms8_ok : ∀ x ∈ nms8, isNameS x = true ∧ x ≠ "home" := by decide +kernel
theorem home_nm : isNameS "home" = true := by decide +kernel
theorem nms8_nd : nms8.Nodup := by decide +kernel
/-- each leads home or to one that was there before -/
def JoinR (rows : List Ln) : Prop := ∀ (k : Nat) (l : Ln), rows[k]? = some l → l.to = "home" ∨ ∃ (j : Nat) (m : Ln), j < k ∧ rows[j]? = some m ∧ m.nm = l.to
theorem join_way {rows L : List Ln} (nd : (rows.map Ln.nm).Nodup) (hJ : JoinR rows) (p : L.Perm rows) (hh : ∀ l ∈ rows, l.nm ≠ "home") : ∀ (k : Nat) (l : Ln), rows[k]? = some l → ∀ (n : Nat) (found : List Str), k + 2 ≤ n → (∀ j m, j ≤ k → rows[j]? = some m → m.nm ∉ found) → (wayGo L n l.nm found).isSome = true := by
  intro k
  induction k using Nat.strongRecOn with
  | _ k ih =>
    intro l hl n found hn hf
    cases n with
    | zero => omega
    | succ n =>
      have hm := List.mem_of_getElem? hl
      have ndL : (L.map Ln.nm).Nodup := (p.map Ln.nm).nodup_iff.mpr nd
      rw [wayGo, if_neg (hh l hm), lookL_mem ndL (p.mem_iff.mpr hm)]
      dsimp only
      rw [if_neg (hf k l (Nat.le_refl _) hl)]
      rcases hJ k l hl with h | ⟨j, m, hj, hjm, e⟩
      · cases n with
        | zero => omega
        | succ n => rw [h, wayGo, if_pos rfl]; rfl
      · rw [← e]
        refine ih j hj m hjm n _ (by omega) fun i q hi hq hin => ?_
        rcases List.mem_append.mp hin with z | z
        · exact hf i q (by omega) hq z
        · simp at z
          have e1 : (rows.map Ln.nm)[i]? = some q.nm := by rw [List.getElem?_map, hq]; rfl
          have e2 : (rows.map Ln.nm)[k]? = some l.nm := by rw [List.getElem?_map, hl]; rfl
          rw [z, ← e2] at e1
          have := (List.getElem?_inj (i := i) (j := k) (by have := (List.getElem?_eq_some_iff.mp hq).1; rw [List.length_map]; omega) nd).mp e1
          omega
def sortLn (R : List Ln) : List Ln := R.mergeSort fun a b => leD (encLn a) (encLn b)
theorem sortLn_perm (R : List Ln) : (sortLn R).Perm R := List.mergeSort_perm _ _
theorem sortedB_of {L : List Ln} (h : L.Pairwise fun a b => a.nm.cps.toList < b.nm.cps.toList) : sortedB L = true := by
  unfold sortedB
  rw [List.all_eq_true]
  intro k hk
  have hk := List.mem_range.mp hk
  rw [List.getElem?_eq_getElem (by omega : k < L.length), List.getElem?_eq_getElem (by omega : k + 1 < L.length)]
  exact decide_eq_true (List.pairwise_iff_getElem.mp h k (k + 1) (by omega) (by omega) (by omega))
theorem pw_and {α : Type} {R S : α → α → Prop} {l : List α} (h1 : l.Pairwise R) (h2 : l.Pairwise S) : l.Pairwise fun a b => R a b ∧ S a b := List.Pairwise.and h1 h2
theorem sortLn_srt {R : List Ln} (nd : (R.map Ln.nm).Nodup) : sortedB (sortLn R) = true := by
  refine sortedB_of ?_
  have h1 : (sortLn R).Pairwise fun a b => leD (encLn a) (encLn b) = true := sort_pw encLn R
  have h2 : (sortLn R).Pairwise fun a b => a.nm ≠ b.nm := List.pairwise_map.mp (((sortLn_perm R).map Ln.nm).nodup_iff.mpr nd)
  exact (pw_and h1 h2).imp fun h => leD_nm h.1 h.2
theorem sortLn_V {rows : List Ln} (h1 : 1 ≤ rows.length) (h8 : rows.length ≤ 8) (hv : ∀ l ∈ rows, LaneV l) (nd : (rows.map Ln.nm).Nodup) (hJ : JoinR rows) : LanesV (sortLn rows) where
  lo := by rw [(sortLn_perm rows).length_eq]; exact h1
  hi := by rw [(sortLn_perm rows).length_eq]; exact h8
  lane := fun l hl => hv l ((sortLn_perm rows).mem_iff.mp hl)
  srt := sortLn_srt nd
  way := fun l hl => by
    obtain ⟨k, hk⟩ := List.getElem?_of_mem ((sortLn_perm rows).mem_iff.mp hl)
    refine join_way nd hJ (sortLn_perm rows) (fun l hl => (hv l hl).2.2.1) k l hk _ [] ?_ (by simp)
    have := (List.getElem?_eq_some_iff.mp hk).1
    rw [(sortLn_perm rows).length_eq]
    omega
def F_l_lanes : PSp := fun ds Q _ => ∃ top, ds = [.int top] ∧ 1 ≤ top ∧ top ≤ 8 ∧ ∀ L, LanesV L → (L.length : Int) ≤ top → (∀ l ∈ L, l.nm ∈ nms8) → Q (encLs L)
/-- law_lanes: well top names left had rows one other wide at -/
def t_l_lanes (Wd : Str → List DO → Prop) : TDS :=
  sSeq (sSet 2 (dLst (daCons (dC (.str "ash")) (daCons (dC (.str "b")) (daCons (dC (.str "cy")) (daCons (dC (.str "dell")) (daCons (dC (.str "e")) (daCons (dC (.str "fen")) (daCons (dC (.str "gate")) (daCons (dC (.str "h")) (daNil))))))))))) (sSeq (sSet 3 (dCompM (iRange1 (daCons (dOp dAdd (dC (.int 1)) (dCallW F_l_take Wd (daCons (dVar 0) (daCons (dVar 1) (daNil))))) (daNil))) (gN 9) (dYes) (dOp dIx (dVar 2) (dVar 9)) [9])) (sSeq (sPar 4 5 (daCons (dLstM (daCons (dC (.str "home")) (daNil))) (daCons (dLstM (daNil)) (daNil)))) (sSeq (sWhile (dB (dOp dNe (dVar 3) (dLst (daNil)))) (sSeq (sSet 6 (dMeth isLst rPopD (dVar 3) (daCons (dCallW F_l_take Wd (daCons (dVar 0) (daCons (dCB dLen (daCons (dVar 3) (daNil))) (daNil)))) (daNil)))) (sSeq (sSet 7 (dIf (dB (dOp dEq (dCallW F_l_take Wd (daCons (dVar 0) (daCons (dC (.int 3)) (daNil)))) (dC (.int 0)))) (dOp dIx (dVar 4) (dNeg (dC (.int 1)))) (dOp dIx (dVar 4) (dCallW F_l_take Wd (daCons (dVar 0) (daCons (dCB dLen (daCons (dVar 4) (daNil))) (daNil))))))) (sSeq (sSet 8 (dOp dAdd (dC (.int 1)) (dCallW F_l_take Wd (daCons (dVar 0) (daCons (dOp dIx (dLst (daCons (dC (.int 1)) (daCons (dC (.int 3)) (daCons (dC (.int 9)) (daNil))))) (dCallW F_l_take Wd (daCons (dVar 0) (daCons (dC (.int 3)) (daNil))))) (daNil)))))) (sSeq (sExpr (dMeth isLst rAppendD (dVar 5) (daCons (dTup (daCons (dVar 6) (daCons (dVar 7) (daCons (dVar 8) (daCons (dOp dAdd (dC (.int 1)) (dCallW F_l_take Wd (daCons (dVar 0) (daCons (dOp dIx (dLst (daCons (dC (.int 2)) (daCons (dC (.int 5)) (daCons (dC (.int 20)) (daNil))))) (dCallW F_l_take Wd (daCons (dVar 0) (daCons (dC (.int 3)) (daNil))))) (daNil))))) (daNil)))))) (daNil)))) (sExpr (dMeth isLst rAppendD (dVar 4) (daCons (dVar 6) (daNil))))))))) (sRet (dCB dTuple (daCons (dCB dSort (daCons (dVar 5) (daNil))) (daNil)))))))
theorem range_take (xs : List Str) : ∀ n, n ≤ xs.length → (List.range n).map (fun k => xs.getD k "") = xs.take n := by
  intro n h
  refine List.ext_getElem? fun i => ?_
  rw [List.getElem?_map, List.getElem?_take]
  by_cases hi : i < n
  · rw [List.getElem?_range hi, if_pos hi]
    show some (xs.getD i "") = _
    rw [List.getD_eq_getElem?_getD, List.getElem?_eq_getElem (by omega)]
    rfl
  · rw [if_neg hi, List.getElem?_eq_none (by rw [List.length_range]; omega)]
    rfl
theorem lane_alikes (rows : List Ln) (hv : ∀ l ∈ rows, LaneV l) : PyData.canLayAll0 (pys (rows.map encLn)) = true ∧ alikes (rows.map encLn) ∧ ∀ d ∈ rows.map encLn, (py d).depth ≤ 60 := by
  refine sort_args encLn rows (fun l hl => ?_) (fun a _ b _ => rfl) (sortable_tup encLn (fun x => ⟨_, _, rfl⟩) rows) fun l _ => ?_
  · have h := hv l hl
    show (PyData.strOk l.nm && (PyData.strOk l.to && (true && (true && true)))) = true
    rw [name_ok h.1, name_ok h.2.1]
    rfl
  · show 1 ≤ 60
    omega
def WLa (a1 a2 : Option Val) (top : Int) : Nat → Sl → List DO → Prop := fun m E M => ∃ (left : List Str) (rows : List Ln) (y6 y7 y8 y9 : Option Val), E = [some (.mu 0), a1, a2, some (.mu 1), some (.mu 2), some (.mu 3), y6, y7, y8, y9] ∧
  M = [.well, .lst (left.map .str), .lst ((("home" : Str) :: rows.map Ln.nm).map .str), .lst (rows.map encLn)] ∧ (left ++ rows.map Ln.nm).Nodup ∧ (∀ x ∈ left ++ rows.map Ln.nm, x ∈ nms8) ∧ (∀ l ∈ rows, LaneV l) ∧ JoinR rows ∧ m = left.length ∧ 1 ≤ left.length + rows.length ∧ (left.length + rows.length : Int) ≤ top
theorem join_snoc {rows : List Ln} {l : Ln} (h : JoinR rows) (hl : l.to = "home" ∨ l.to ∈ rows.map Ln.nm) : JoinR (rows ++ [l]) := fun k x hx => by
  by_cases hk : k < rows.length
  · rw [List.getElem?_append_left hk] at hx
    rcases h k x hx with q | ⟨j, m, h1, h2, h3⟩
    · exact .inl q
    · exact .inr ⟨j, m, h1, by rw [List.getElem?_append_left (by omega)]; exact h2, h3⟩
  · have : k = rows.length := by
      have := (List.getElem?_eq_some_iff.mp hx).1
      rw [List.length_append, List.length_singleton] at this
      omega
    subst this
    rw [get_last] at hx
    cases hx
    rcases hl with q | q
    · exact .inl q
    · obtain ⟨m, hm, e⟩ := List.mem_map.mp q
      obtain ⟨j, hj⟩ := List.getElem?_of_mem hm
      have := (List.getElem?_eq_some_iff.mp hj).1
      exact .inr ⟨j, m, this, by rw [List.getElem?_append_left this]; exact hj, e⟩
abbrev laR (Wd : Str → List DO → Prop) : TDS := (sSeq (sSet 8 (dOp dAdd (dC (.int 1)) (dCallW F_l_take Wd (daCons (dVar 0) (daCons (dOp dIx (dLst (daCons (dC (.int 1)) (daCons (dC (.int 3)) (daCons (dC (.int 9)) (daNil))))) (dCallW F_l_take Wd (daCons (dVar 0) (daCons (dC (.int 3)) (daNil))))) (daNil)))))) (sSeq (sExpr (dMeth isLst rAppendD (dVar 5) (daCons (dTup (daCons (dVar 6) (daCons (dVar 7) (daCons (dVar 8) (daCons (dOp dAdd (dC (.int 1)) (dCallW F_l_take Wd (daCons (dVar 0) (daCons (dOp dIx (dLst (daCons (dC (.int 2)) (daCons (dC (.int 5)) (daCons (dC (.int 20)) (daNil))))) (dCallW F_l_take Wd (daCons (dVar 0) (daCons (dC (.int 3)) (daNil))))) (daNil))))) (daNil)))))) (daNil)))) (sExpr (dMeth isLst rAppendD (dVar 4) (daCons (dVar 6) (daNil))))))
theorem three_at (a b c : Int) {r : Int} (h0 : 0 ≤ r) (h1 : r < 3) : ∃ x, atI [D.int a, D.int b, D.int c] r = some (.int x) ∧ (x = a ∨ x = b ∨ x = c) := by
  have : r = 0 ∨ r = 1 ∨ r = 2 := by omega
  rcases this with h | h | h <;> rw [h]
  · exact ⟨a, rfl, .inl rfl⟩
  · exact ⟨b, rfl, .inr (.inl rfl)⟩
  · exact ⟨c, rfl, .inr (.inr rfl)⟩
theorem la_rest {De : DEnds} {Wd : Str → List DO → Prop} {a1 a2 y8 y9 : Option Val} {x o : Str} {left had : List D} {rows : List Ln} (hr : rows.length ≤ 8) (hl : had.length ≤ 100)
    (q : ∀ (wd lg : Int) y8, 1 ≤ wd → wd ≤ 9 → 1 ≤ lg → lg ≤ 20 → De.nx [some (.mu 0), a1, a2, some (.mu 1), some (.mu 2), some (.mu 3), some (.d (.str x)), some (.d (.str o)), y8, y9] [.well, .lst left, .lst (had ++ [.str x]), .lst ((rows ++ [Ln.mk x o wd lg]).map encLn)]) :
    laR Wd De [some (.mu 0), a1, a2, some (.mu 1), some (.mu 2), some (.mu 3), some (.d (.str x)), some (.d (.str o)), y8, y9] [.well, .lst left, .lst had, .lst (rows.map encLn)] := by
  walk_at "w"
  refine ⟨small_len (show 3 ≤ 1000 by omega), ?_⟩
  walk_at "g"
  refine ⟨3, rfl, by omega, by omega, fun r h0 h1 => ?_⟩
  obtain ⟨b, e, hb⟩ := three_at 1 3 9 h0 h1
  walk_at "w"
  rw [e]
  walk_at "g"
  refine ⟨b, rfl, by omega, by omega, fun w h2 h3 => ?_⟩
  walk_at "g"
  refine ⟨small_len (show 3 ≤ 1000 by omega), ?_⟩
  walk_at "g"
  refine ⟨3, rfl, by omega, by omega, fun r h4 h5 => ?_⟩
  obtain ⟨c, e, hc⟩ := three_at 2 5 20 h4 h5
  walk_at "w"
  rw [e]
  walk_at "g"
  refine ⟨c, rfl, by omega, by omega, fun z h6 h7 => ?_⟩
  walk_at "w"
  refine ⟨small_len (show 4 ≤ 1000 by omega), ?_⟩
  walk_at "w"
  refine ⟨small1000 (by rw [List.length_map]; omega), ?_⟩
  walk_at "g"
  refine ⟨small1000 (by omega), ?_⟩
  have := q (1 + w) (1 + z) (some (.d (.int (1 + w)))) (by omega) (by omega) (by omega) (by omega)
  rw [List.map_append] at this
  exact this
theorem w_l_lanes : WPW 10 t_l_lanes F_l_lanes := by
  rintro _ Qd Ed ⟨top, rfl, h1, h8, q⟩
  walk_at "w"
  refine ⟨small_len (show 8 ≤ 1000 by omega), ?_⟩
  walk_at "g"
  refine ⟨top, rfl, h1, by omega, fun r r0 r1 => ?_⟩
  walk_at "w"
  refine ⟨by omega, by omega, ?_⟩
  obtain ⟨n, hn⟩ : ∃ n : Nat, (1 + r).toNat = n := ⟨_, rfl⟩
  rw [hn]
  refine dLC_map (fun i : Nat => D.int ((0 : Int) + (i : Nat))) (fun k => .str (nms8.getD k "")) trivial (List.range n) (by rw [List.length_range]; exact small_len (by omega)) (fun k hk Y N h => ?_) ?_
  · have hk := List.mem_range.mp hk
    have hk8 : k < nms8.length := by show k < 8; omega
    walk_at "w"
    have e : atI [D.str "ash", D.str "b", D.str "cy", D.str "dell", D.str "e", D.str "fen", D.str "gate", D.str "h"] (0 + (k : Int)) = some (.str (nms8.getD k "")) := by
      rw [atI_off _ k _ (by omega)]
      show (nms8.map D.str)[k]? = _
      rw [List.getElem?_map, List.getD_eq_getElem?_getD, List.getElem?_eq_getElem hk8]
      rfl
    rw [e]
    walk_at "w"
    exact h
  walk_at "w"
  refine ⟨small_len (show 1 ≤ 1000 by omega), ?_⟩
  walk_at "w"
  refine ⟨small_len (show 0 ≤ 1000 by omega), ?_⟩
  walk_at "w"
  have hl8 : nms8.length = 8 := rfl
  refine ⟨WLa (some (.d (.int top))) (some (.d (.lst (nms8.map .str)))) top, ⟨(nms8.take n).length, nms8.take n, [], _, _, _, _, rfl, ?_, ?_, ?_, by simp, ?_, rfl, ?_, ?_⟩, ?_⟩
  · rw [← range_take nms8 n (by omega), List.map_map]
    rfl
  · rw [List.map_nil, List.append_nil]
    exact nms8_nd.sublist (List.take_sublist _ _)
  · intro x hx
    rw [List.map_nil, List.append_nil] at hx
    exact List.mem_of_mem_take hx
  · intro k l h
    simp at h
  · rw [List.length_take]; simp; omega
  · rw [List.length_take]; simp; omega
  rintro m _ _ ⟨left, rows, y6, y7, y8, y9, rfl, rfl, nd, hin, hv, hJ, hm, hlo, hhi⟩
  walk_at "w"
  refine ⟨small_len (show 0 ≤ 1000 by omega), ?_⟩
  walk_at "w"
  refine ⟨okD_strs fun x hx => name_ok (nms8_ok x (hin x (List.mem_append_left _ hx))).1, okD_nil, ?_⟩
  rw [eqD_nil]
  walk_at "w"
  refine br_of (fun h => ?_) (fun h => ?_)
  · have hne : left ≠ [] := by
      intro z
      rw [z] at h
      cases h
    have hpos : 0 < left.length := List.length_pos_iff.mpr hne
    walk_at "g"
    refine ⟨left.length, by rw [List.length_map], by omega, by omega, fun r h0 h1 => ?_⟩
    walk_at "w"
    refine ⟨by omega, by omega, ?_⟩
    rw [List.length_map, ixN_lt h0 h1]
    walk_at "w"
    obtain ⟨x, hx⟩ : ∃ x, left[r.toNat]? = some x := ⟨left[r.toNat], List.getElem?_eq_getElem (by omega)⟩
    rw [List.getElem?_map, hx]
    walk_at "g"
    have pe := erase_perm hx
    have ple := pe.length_eq
    rw [List.length_cons] at ple
    have hxl : x ∈ left := List.mem_of_getElem? hx
    obtain ⟨nx1, nx2⟩ := nms8_ok x (hin x (List.mem_append_left _ hxl))
    rw [eraseIdx_map]
    have fin : ∀ (o : Str) (wd lg : Int) (y8 y9 : Option Val), (o = "home" ∨ o ∈ rows.map Ln.nm) → 1 ≤ wd → wd ≤ 9 → 1 ≤ lg → lg ≤ 20 → ∃ m', m' < m ∧ WLa (some (.d (.int top))) (some (.d (.lst (nms8.map .str)))) top m'
        [some (.mu 0), some (.d (.int top)), some (.d (.lst (nms8.map .str))), some (.mu 1), some (.mu 2), some (.mu 3), some (.d (.str x)), some (.d (.str o)), y8, y9] [.well, .lst ((left.eraseIdx r.toNat).map .str), .lst ((("home" : Str) :: rows.map Ln.nm).map D.str ++ [D.str x]), .lst ((rows ++ [Ln.mk x o wd lg]).map encLn)] := by
      intro o wd lg y8 y9 ho b1 b2 b3 b4
      have pn : ((left.eraseIdx r.toNat) ++ (rows ++ [Ln.mk x o wd lg]).map Ln.nm).Perm (left ++ rows.map Ln.nm) := by
        rw [List.map_append, ← List.append_assoc]
        refine List.perm_append_comm.trans ?_
        show (x :: (left.eraseIdx r.toNat ++ rows.map Ln.nm)).Perm _
        rw [← List.cons_append]
        exact pe.append_right _
      refine ⟨(left.eraseIdx r.toNat).length, by omega, left.eraseIdx r.toNat, rows ++ [Ln.mk x o wd lg], _, _, _, _, rfl, ?_, pn.nodup_iff.mpr nd, fun z hz => hin z (pn.mem_iff.mp hz), fun l hl => ?_, join_snoc hJ ho, rfl, ?_, ?_⟩
      · rw [List.map_append (f := Ln.nm)]
        show _ = [DO.well, _, DO.lst (((("home" : Str) :: rows.map Ln.nm) ++ [x]).map D.str), _]
        rw [List.map_append (f := D.str)]
        rfl
      · rcases List.mem_append.mp hl with z | z
        · exact hv l z
        · simp at z
          subst z
          refine ⟨nx1, ?_, nx2, b1, b2, b3, b4⟩
          rcases ho with z | z
          · rw [z]; exact home_nm
          · exact (nms8_ok o (hin o (List.mem_append_right _ z))).1
      · rw [List.length_append, List.length_singleton]; omega
      · rw [List.length_append, List.length_singleton]; omega
    refine ⟨3, rfl, by omega, by omega, fun r3 h2 h3 => ?_⟩
    walk_at "w"
    refine ⟨okD_int _, okD_int _, ?_⟩
    rw [eqD_int]
    walk_at "w"
    have hhad : ((("home" : Str) :: rows.map Ln.nm).map D.str).length = rows.length + 1 := by rw [List.length_map, List.length_cons, List.length_map]
    refine br_of (fun h => ?_) (fun h => ?_)
    · obtain ⟨o, eo⟩ : ∃ o, (("home" : Str) :: rows.map Ln.nm).getLast? = some o := by
        rw [List.getLast?_eq_getElem?]
        exact ⟨_, List.getElem?_eq_getElem (by rw [List.length_cons]; omega)⟩
      have ho : o = "home" ∨ o ∈ rows.map Ln.nm := by simpa using List.mem_of_getLast? eo
      walk_at "w"
      rw [show -(1 : Int) = -1 from rfl, show atI ((("home" : Str) :: rows.map Ln.nm).map D.str) (-1) = _ from atI_last (getLast_map _ eo)]
      walk_at "w"
      exact la_rest (by omega) (by rw [hhad]; omega) fun wd lg y8 b1 b2 b3 b4 => fin o wd lg y8 _ ho b1 b2 b3 b4
    · walk_at "g"
      refine ⟨_, rfl, by rw [hhad]; omega, by rw [hhad]; omega, fun k h4 h5 => ?_⟩
      rw [hhad] at h5
      obtain ⟨o, eo⟩ : ∃ o, (("home" : Str) :: rows.map Ln.nm)[k.toNat]? = some o := ⟨_, List.getElem?_eq_getElem (by rw [List.length_cons, List.length_map]; omega)⟩
      have ho : o = "home" ∨ o ∈ rows.map Ln.nm := by simpa using List.mem_of_getElem? eo
      walk_at "w"
      rw [show atI ((("home" : Str) :: rows.map Ln.nm).map D.str) k = some (.str o) from by rw [atI_off _ k.toNat _ (by omega), List.getElem?_map, eo]; rfl]
      walk_at "w"
      exact la_rest (by omega) (by rw [hhad]; omega) fun wd lg y8 b1 b2 b3 b4 => fin o wd lg y8 _ ho b1 b2 b3 b4
  · have hz : left = [] := by
      cases left with
      | nil => rfl
      | cons a b => cases h
    subst hz
    walk_at "w"
    obtain ⟨c1, c2, c3⟩ := lane_alikes rows hv
    refine ⟨c1, c2, c3, ?_⟩
    rw [sortD_map]
    walk_at "w"
    rw [List.nil_append] at nd hin
    simp at hlo hhi
    refine q (sortLn rows) (sortLn_V hlo (by omega) hv nd hJ) (by rw [(sortLn_perm rows).length_eq]; exact hhi) fun l hl => hin _ (List.mem_map.mpr ⟨l, (sortLn_perm rows).mem_iff.mp hl, rfl⟩)
/-! ### folk as drawn -/
def nms10 : List Str := ["al", "bea", "cid", "dot", "eve", "flo", "gil", "hob", "ike", "jo"]
theorem nms10_ok : ∀ x ∈ nms10, isNameS x = true := by decide +kernel
theorem nms10_srt : nms10.Pairwise fun a b => a.cps.toList < b.cps.toList := by decide +kernel
def F_l_folk : PSp := fun ds Q _ => ∃ L top, ds = [encLs L, .int top] ∧ LanesV L ∧ 1 ≤ top ∧ top ≤ 10 ∧ ∀ F, FolkV L F → (F.length : Int) ≤ top → nmsF F = nms10.take F.length → Q (encFs F)
/-- law_folk: well lanes top names found name tick -/
def t_l_folk (Wd : Str → List DO → Prop) : TDS :=
  sSeq (sPar 3 4 (daCons (dLst (daCons (dC (.str "al")) (daCons (dC (.str "bea")) (daCons (dC (.str "cid")) (daCons (dC (.str "dot")) (daCons (dC (.str "eve")) (daCons (dC (.str "flo")) (daCons (dC (.str "gil")) (daCons (dC (.str "hob")) (daCons (dC (.str "ike")) (daCons (dC (.str "jo")) (daNil)))))))))))) (daCons (dLstM (daNil)) (daNil)))) (sSeq (sFor (iSeq (dSlice (dVar 3) doNone (doSome (dOp dAdd (dC (.int 1)) (dCallW F_l_take Wd (daCons (dVar 0) (daCons (dVar 2) (daNil)))))))) (gN 5) (sSeq (sSet 6 (dOp dIx (dLst (daCons (dC (.int 0)) (daCons (dCallW F_l_take Wd (daCons (dVar 0) (daCons (dC (.int 3)) (daNil)))) (daCons (dCallW F_l_take Wd (daCons (dVar 0) (daCons (dC (.int 8)) (daNil)))) (daCons (dCallW F_l_take Wd (daCons (dVar 0) (daCons (dC (.int 51)) (daNil)))) (daNil)))))) (dCallW F_l_take Wd (daCons (dVar 0) (daCons (dC (.int 4)) (daNil)))))) (sExpr (dMeth isLst rAppendD (dVar 4) (daCons (dTup (daCons (dVar 5) (daCons (dOp dIx (dOp dIx (dVar 1) (dCallW F_l_take Wd (daCons (dVar 0) (daCons (dCB dLen (daCons (dVar 1) (daNil))) (daNil))))) (dC (.int 0))) (daCons (dVar 6) (daNil))))) (daNil)))))) (sRet (dCB dTuple (daCons (dVar 4) (daNil)))))
theorem four_at (a b c d : Int) {r : Int} (h0 : 0 ≤ r) (h1 : r < 4) : ∃ x, atI [D.int a, D.int b, D.int c, D.int d] r = some (.int x) ∧ (x = a ∨ x = b ∨ x = c ∨ x = d) := by
  have : r = 0 ∨ r = 1 ∨ r = 2 ∨ r = 3 := by omega
  rcases this with h | h | h | h <;> rw [h]
  · exact ⟨a, rfl, .inl rfl⟩
  · exact ⟨b, rfl, .inr (.inl rfl)⟩
  · exact ⟨c, rfl, .inr (.inr (.inl rfl))⟩
  · exact ⟨d, rfl, .inr (.inr (.inr rfl))⟩
abbrev foB (Wd : Str → List DO → Prop) : TDS := (sSeq (sSet 6 (dOp dIx (dLst (daCons (dC (.int 0)) (daCons (dCallW F_l_take Wd (daCons (dVar 0) (daCons (dC (.int 3)) (daNil)))) (daCons (dCallW F_l_take Wd (daCons (dVar 0) (daCons (dC (.int 8)) (daNil)))) (daCons (dCallW F_l_take Wd (daCons (dVar 0) (daCons (dC (.int 51)) (daNil)))) (daNil)))))) (dCallW F_l_take Wd (daCons (dVar 0) (daCons (dC (.int 4)) (daNil)))))) (sExpr (dMeth isLst rAppendD (dVar 4) (daCons (dTup (daCons (dVar 5) (daCons (dOp dIx (dOp dIx (dVar 1) (dCallW F_l_take Wd (daCons (dVar 0) (daCons (dCB dLen (daCons (dVar 1) (daNil))) (daNil))))) (dC (.int 0))) (daCons (dVar 6) (daNil))))) (daNil)))))
theorem fo_loop {L : List Ln} {De : DEnds} {Kp : List DO → Prop} {Wd : Str → List DO → Prop} (hk : ∀ M, Kp M) (v : LanesV L) {a2 a3 : Option Val} : ∀ (ns : List Str) (F : List Fk) (y5 y6 : Option Val), (∀ n ∈ ns, isNameS n = true) → (∀ f ∈ F, FkV L f) → F.length + ns.length ≤ 100 →
    (∀ F' y5 y6, (∀ f ∈ F', FkV L f) → nmsF F' = nmsF F ++ ns → De.nx [some (.mu 0), some (.d (encLs L)), a2, a3, some (.mu 1), y5, y6] [.well, .lst (F'.map encFk)]) →
    dLoop Kp (gN 5) (foB Wd) De (ns.map .str) [some (.mu 0), some (.d (encLs L)), a2, a3, some (.mu 1), y5, y6] [.well, .lst (F.map encFk)]
  | [], F, y5, y6, _, hF, _, q => ⟨hk _, q F _ _ hF (by rw [List.append_nil])⟩
  | n :: ns, F, y5, y6, hn, hF, hl, q => by
    have l8 := v.hi
    have l1 := v.lo
    rw [List.length_cons] at hl
    refine ⟨hk _, ?_⟩
    walk_at "g"
    refine ⟨3, rfl, by omega, by omega, fun b h0 h1 => ?_⟩
    walk_at "g"
    refine ⟨8, rfl, by omega, by omega, fun c h2 h3 => ?_⟩
    walk_at "g"
    refine ⟨51, rfl, by omega, by omega, fun d h4 h5 => ?_⟩
    walk_at "w"
    refine ⟨small_len (show 4 ≤ 1000 by omega), ?_⟩
    walk_at "g"
    refine ⟨4, rfl, by omega, by omega, fun r h6 h7 => ?_⟩
    obtain ⟨t, e, ht⟩ := four_at 0 b c d h6 h7
    walk_at "w"
    rw [e]
    walk_at "g"
    refine ⟨L.length, by rw [List.length_map], by omega, by omega, fun k h8 h9 => ?_⟩
    obtain ⟨l, el⟩ : ∃ l, L[k.toNat]? = some l := ⟨_, List.getElem?_eq_getElem (by omega)⟩
    walk_at "w"
    rw [show atI (L.map encLn) k = some (encLn l) from by rw [atI_off _ k.toNat _ (by omega), List.getElem?_map, el]; rfl]
    walk_at "w"
    refine ⟨small_len (show 3 ≤ 1000 by omega), ?_⟩
    walk_at "w"
    refine ⟨small1000 (by rw [List.length_map]; omega), ?_⟩
    walk_at "w"
    have hf : FkV L ⟨n, l.nm, t⟩ := ⟨hn n List.mem_cons_self, by rw [lookL_mem v.nd (List.mem_of_getElem? el)]; rfl, by show 0 ≤ t; omega, by show t ≤ 50; omega⟩
    have := fo_loop (De := De) (Wd := Wd) hk v (a2 := a2) (a3 := a3) ns (F ++ [⟨n, l.nm, t⟩]) (some (.d (.str n))) (some (.d (.int t))) (fun x hx => hn x (List.mem_cons_of_mem _ hx)) (fun f h => by
      rcases List.mem_append.mp h with z | z
      · exact hF f z
      · simp at z; subst z; exact hf) (by rw [List.length_append, List.length_singleton]; omega) fun F' y5 y6 h1 h2 => q F' y5 y6 h1 (by
        rw [h2]
        unfold nmsF
        rw [List.map_append, List.append_assoc]
        rfl)
    rw [List.map_append] at this
    exact this
theorem w_l_folk : WPW 7 t_l_folk F_l_folk := by
  rintro _ Qd Ed ⟨L, top, rfl, v, h1, h2, q⟩
  walk_at "w"
  refine ⟨small_len (show 10 ≤ 1000 by omega), ?_⟩
  walk_at "w"
  refine ⟨small_len (show 0 ≤ 1000 by omega), ?_⟩
  walk_at "g"
  refine ⟨top, rfl, h1, by omega, fun r h3 h4 => ?_⟩
  obtain ⟨n, hn⟩ : ∃ n : Nat, 1 + r = (n : Int) := ⟨(1 + r).toNat, by omega⟩
  have hlen : nms10.length = 10 := rfl
  walk_at "w"
  rw [hn, show cutD [D.str "al", D.str "bea", D.str "cid", D.str "dot", D.str "eve", D.str "flo", D.str "gil", D.str "hob", D.str "ike", D.str "jo"] none (some (n : Int)) = (nms10.take n).map D.str from by
    rw [cut_take _ n (by show n ≤ 10; omega), List.map_take]; rfl]
  refine fo_loop (fun _ => trivial) v (nms10.take n) [] _ _ (fun x hx => nms10_ok x (List.mem_of_mem_take hx)) (by simp) (by rw [List.length_take, List.length_nil]; omega) fun F y5 y6 hF hnm => ?_
  have e : nmsF F = nms10.take n := hnm
  have el : F.length = n := by
    have := congrArg List.length e
    rw [nmsF, List.length_map, List.length_take] at this
    omega
  walk_at "w"
  refine q F ⟨by omega, by omega, hF, sortedF_of ?_⟩ (by omega) (by rw [e, el])
  have : (F.map Fk.nm).Pairwise fun a b => a.cps.toList < b.cps.toList := by
    rw [show F.map Fk.nm = nms10.take n from e]
    exact nms10_srt.sublist (List.take_sublist _ _)
  rw [List.pairwise_map] at this
  exact this
end DL

end
section

namespace DL
open PySem L2 PyProof.Rows MX
local macro_rules | `(tactic| walk_at "w") => `(tactic| ((conv => whnf); repeat (first | (refine br_t rfl ?_; conv => whnf) | (refine br_f rfl ?_; conv => whnf))))
local macro_rules | `(tactic| walk_at "g") => `(tactic| (walk_at "w"; repeat (refine ⟨rfl, ?_⟩; walk_at "w")))
local macro_rules | `(tactic| walk_at "h") => `(tactic| (walk_at "w"; repeat (first | (refine ⟨rfl, ?_⟩; walk_at "w") | (refine ⟨List.getElem?_concat_length, ?_⟩; walk_at "w"))))
/-! ### loops by an invariant -/
theorem loop_inv {α : Type} {Kp : List DO → Prop} {t : TDG} {body : TDS} {De : DEnds} (enc : α → D) (I : Sl → List DO → Prop) (hk : ∀ M, Kp M) : ∀ (xs : List α) (E : Sl) (M : List DO), I E M →
    (∀ x ∈ xs, ∀ E M (K : Sl → List DO → Prop), I E M → (∀ E' M', I E' M' → K E' M') → t (.d (enc x)) E M fun E1 M1 => body { De with nx := K, ct := K, bk := De.nx } E1 M1) →
    (∀ E M, I E M → De.nx E M) → dLoop Kp t body De (xs.map enc) E M
  | [], E, M, h, _, q => ⟨hk _, q E M h⟩
  | x :: xs, E, M, h, st, q => ⟨hk _, st x List.mem_cons_self E M _ h fun E' M' h' => loop_inv enc I hk xs E' M' h' (fun y hy => st y (List.mem_cons_of_mem _ hy)) q⟩
/-! ### what may be asked -/
theorem small_lane (l : Ln) (h : LaneV l) : small2 (encLn l) = true := by
  have h1 : (name_len h.1) = (name_len h.1) := rfl
  show (decide ((4 : Nat) ≤ 1000) && (decide (l.nm.length ≤ 1000) && (decide (l.to.length ≤ 1000) && (true && (true && true))))) = true
  have a := name_len h.1
  have b := name_len h.2.1
  rw [decide_eq_true (by omega : l.nm.length ≤ 1000), decide_eq_true (by omega : l.to.length ≤ 1000)]
  rfl
theorem small_ls {L : List Ln} (v : LanesV L) : small3 (encLs L) = true := by
  have := v.hi
  show (decide ((L.map encLn).length ≤ 1000) && (L.map encLn).all small2) = true
  rw [List.length_map, decide_eq_true (by omega : L.length ≤ 1000), List.all_map, Bool.true_and, List.all_eq_true]
  exact fun l hl => small_lane l (v.lane l hl)
theorem small_fk {L : List Ln} (v : LanesV L) (f : Fk) (h : FkV L f) : small2 (encFk f) = true := by
  have a := name_len h.nm
  have b := (cr_ok v h.cr).1
  show (decide ((3 : Nat) ≤ 1000) && (decide (f.nm.length ≤ 1000) && (decide (f.cr.length ≤ 1000) && (true && true)))) = true
  rw [decide_eq_true (by omega : f.nm.length ≤ 1000), decide_eq_true b]
  rfl
theorem small_fs {L : List Ln} (v : LanesV L) {F : List Fk} (hF : F.length ≤ 1000) (one : ∀ f ∈ F, FkV L f) : small3 (encFs F) = true := by
  show (decide ((F.map encFk).length ≤ 1000) && (F.map encFk).all small2) = true
  rw [List.length_map, decide_eq_true hF, List.all_map, Bool.true_and, List.all_eq_true]
  exact fun f hf => small_fk v f (one f hf)
theorem small_p {P : List (List Int)} (h : P.length ≤ 1000) (h2 : ∀ ts ∈ P, ts.length ≤ 1000) : small3 (encP P) = true := by
  show (decide ((P.map encTs).length ≤ 1000) && (P.map encTs).all small2) = true
  rw [List.length_map, decide_eq_true h, List.all_map, Bool.true_and, List.all_eq_true]
  exact fun ts hts => small_ts (h2 ts hts)
theorem ask_is {L : List Ln} {F : List Fk} {E : Str → Prop} {K : List Ln → List Fk → Prop} (v : LanesV L) (f : FolkV L F) (k : K L F) : askF (encLs L) (encFs F) E K := by
  have := f.hi
  refine ⟨small_ls v, small_fs v (by omega) f.one, fun h => ?_, fun L' e v' => ⟨fun h => ?_, fun F' e' f' => ?_⟩⟩
  · rw [lanes_enc v] at h; cases h
  · cases encLs_inj e
    rw [folk_enc f] at h; cases h
  · cases encLs_inj e
    cases encFs_inj e'
    exact k
theorem FolkV.sub {L : List Ln} {F S : List Fk} (f : FolkV L F) (h : S.Sublist F) (hS : S ≠ []) : FolkV L S where
  lo := List.length_pos_iff.mpr hS
  hi := Nat.le_trans h.length_le f.hi
  one := fun x hx => f.one x (h.subset hx)
  srt := sortedF_of ((sortedF_pw f.srt).sublist h)
theorem homes_tk {L : List Ln} {F : List Fk} {P : List (List Int)} (nd : (F.map Fk.nm).Nodup) (h : P.length = F.length) : homesD L (F.zip P) = F.map fun f => (.inr f.nm, .int (hP L (f, tkP F P f))) := by
  unfold homesD
  rw [zip_tk nd h, List.map_map]
  rfl
theorem sum_rows (L : List Ln) : ∀ ps : List FP, ((rowsZ L ps).map fun r => r.g - r.s).sum = (ps.map (idleP L)).sum
  | [] => rfl
  | p :: ps => by
    have := sum_rows L ps
    unfold rowsZ at this ⊢
    rw [List.flatMap_cons, List.map_append, List.sum_append, this, List.map_cons, List.sum_cons]
    rfl
theorem endT_le (L : List Ln) (B : Int) (hl : ∀ c, lgL L c ≤ 20) : ∀ (way : List Str) (ts : List Int) (s : Int), s ≤ B + 20 → (∀ t ∈ ts, t ≤ B) → endT L way ts s ≤ B + 20
  | [], ts, s, h, _ => by unfold endT; exact h
  | c :: way, [], s, h, _ => h
  | c :: way, t :: ts, s, h, ht => by
    rw [endT]
    refine endT_le L B hl way ts _ ?_ fun x hx => ht x (List.mem_cons_of_mem _ hx)
    have := ht t List.mem_cons_self
    have := hl c
    omega
theorem lgL_le {L : List Ln} (v : LanesV L) (c : Str) : lgL L c ≤ 20 := by
  by_cases h : c ∈ csL L
  · exact (far v).hi c h
  · unfold lgL
    cases e : lookL L c with
    | none => simp
    | some l => exact absurd (cs_some.mp (by rw [e]; rfl)) h
theorem tk_mem {F : List Fk} {P : List (List Int)} (nd : (F.map Fk.nm).Nodup) (h : P.length = F.length) {f : Fk} (hf : f ∈ F) : (f, tkP F P f) ∈ F.zip P := by
  rw [zip_tk nd h]
  exact List.mem_map.mpr ⟨f, hf, rfl⟩
theorem dVar_use {i : Nat} {E : Sl} {M : List DO} {Q : Val → List DO → Prop} {v : Val} (h : get E i = some v) (q : Q v M) : dVar i E M Q := by
  unfold dVar
  rw [h]
  exact q
theorem look_homes {L : List Ln} {F : List Fk} {P : List (List Int)} (nd : (F.map Fk.nm).Nodup) (h : P.length = F.length) {f : Fk} (hf : f ∈ F) : dlook (.dk (homesD L (F.zip P))) (.str f.nm) = some (some (.int (hP L (f, tkP F P f)))) := by
  rw [homes_tk nd h]
  exact congrArg some (look_nm F (fun f => .int (hP L (f, tkP F P f))) nd hf)
theorem lay_fk {L : List Ln} (v : LanesV L) {f : Fk} (h : FkV L f) : lay (encFk f) = true := by
  show (PyData.strOk f.nm && (PyData.strOk f.cr && (true && true))) = true
  rw [name_ok h.nm, (cr_ok v h.cr).2]
  rfl
theorem okD_fs {L : List Ln} (v : LanesV L) {F : List Fk} (h : ∀ f ∈ F, FkV L f) : okD (.tup (F.map encFk)) = true := by
  refine okD_of (lays_map _ _ fun f hf => lay_fk v (h f hf)) ?_
  have := deps_map encFk 1 F fun x _ => Nat.le_refl 1
  show deps (F.map encFk) + 1 ≤ 64
  omega
theorem eqD_tnil (xs : List D) : eqD (.tup xs) (.tup []) = xs.isEmpty := by
  cases xs with
  | nil => rfl
  | cons x xs => rfl
theorem fm_count {α : Type} (p : α → Bool) (g : α → D) (xs : List α) : (xs.filterMap fun x => if p x = true then some (g x) else none).length = xs.countP p := by
  induction xs with
  | nil => rfl
  | cons x xs ih =>
    rw [List.filterMap_cons, List.countP_cons]
    by_cases h : p x = true
    · simp [h, ih]
    · simp [h, ih]
end DL

end
section
set_option maxRecDepth 100000
set_option maxHeartbeats 4000000
/-! sorted of a tuple; a tuple times an int. -/
namespace DL
open PySem L2 PyProof.Rows PySem.W
section
variable {prog : Program} {w : World} {A : Around} {E : Value → Shared → Prop} {s : Shared}
theorem collect_tup {l : Addr} {vs : List Value} {Q : List Value → Shared → Prop} (hl : IsTup s.heap l vs.toArray) (hz : vs.length ≤ sizeLine) (h : Q vs { s with heap := (s.heap.push (seqObj "list" #[] 0)).update s.heap.objs.size (Obj.mapSeq (· ++ vs.toArray)) }) : wpAny (model prog w) A (collect (.ref l)) Q E s := by
  obtain ⟨o, ho, hc, n, hd⟩ := id hl
  unfold collect
  refine wpAny_bind (wpAny_runValue (codeAny_builtin entry_proto_collect' ?_))
  show wpAny _ _ (do again (.builtin "list.__iadd__" ⟨[← newList [], .ref l], []⟩)) _ _ s; refine wpAny_bind (wpAny_newList (wpAny_pure ⟨Code.quiet_builtin _ (by decide +kernel), codeAny_builtin entry_list_iadd' ?_⟩))
  show wpAny _ _ (Builtin.List.listExtendWith (.ref s.heap.objs.size) (.ref l) (.ref s.heap.objs.size)) _ _ { s with heap := s.heap.push (seqObj "list" #[] 0) }; unfold Builtin.List.listExtendWith
  have ho' : (s.heap.push (seqObj "list" #[] 0)).get? l = some o := Heap.get?_push_of_some _ ho
  refine wpAny_bind (wpAny_typeOf (T := "tuple") ⟨o, ho', hc⟩ ?_)
  rw [if_pos (by simp)]
  refine wpAny_bind (listItems_at ho' hd (wpAny_bind (listItems_at (xs := #[]) (n := 0) (Heap.get?_push_size _ rfl) rfl ?_)))
  rw [if_neg (by simp)]
  refine wpAny_bind (listUpdate_at (xs := #[]) (n := 0) (Heap.get?_push_size _ rfl) rfl (wpAny_pure ?_) (Nat.zero_le _) (by show (#[] ++ vs.toArray).size ≤ sizeLine + 1; simp only [Array.size_append, List.size_toArray, List.length_nil]; omega))
  show wpAny (model prog w) A (do
      let o ← load s.heap.objs.size; match o.data with | .seq xs _ => pure xs.toList | _ => unsupported "internal:collect") Q E { s with heap := (s.heap.push (seqObj "list" #[] 0)).update s.heap.objs.size (Obj.mapSeq (· ++ vs.toArray)) }
  refine wpAny_bind (wpAny_load (get?_update_seq (Heap.get?_push_size _ rfl) _) ?_)
  show wpAny _ _ (pure ((#[] : Array Value) ++ vs.toArray).toList) Q E _; rw [show ((#[] : Array Value) ++ vs.toArray).toList = vs by simp]
  exact wpAny_pure h
variable {α : Type} {enc : α → PyData} {R : Value → α → Prop} {vs : List Value} {bs : List α}
theorem sorted_tup {l : Addr} {Q : Value → Shared → Prop} (hl : IsTup s.heap l vs.toArray) (e : EachIs R vs bs) (er : EachIs (fun v b => ∃ as, Reads s.heap v (enc b) as) vs bs) (hal : AllAlike (bs.map enc)) (hk : Sortable (bs.map enc)) (hL : bs.length ≤ sizeLine) (hu : ∀ b, b ∈ bs → A.units + 2 + (enc b).depth < cLine)
    (h : ∀ out, out.length = bs.length → EachIs R out (bs.mergeSort (dataLe false enc)) → Q (.ref (s.heap.objs.size + 1)) { s with heap := sortedAll s.heap vs (List.toArray out) }) : wpAny (model prog w) A (call (.builtin "sorted") [.ref l]) Q E s := by
  have hz : vs.length ≤ sizeLine := by rw [e.length]; exact hL
  have er' : EachIs (fun v b => ∃ as, Reads (sortingHeap (copyHeap s.heap vs) (s.heap.objs.size + 1) vs) v (enc b) as) vs bs := er.mono fun _ _ ⟨as, r⟩ => ⟨as, PyProof.Rows.Reads.keeps (fun _ _ => sorting_copy_old) r⟩
  have S := SortsAt.data (prog := prog) (w := w) (A := A.in1.in1) (s := { s with heap := sortingHeap (copyHeap s.heap vs) (s.heap.objs.size + 1) vs }) (each_map (R := fun v d => ∃ as, Reads (sortingHeap (copyHeap s.heap vs) (s.heap.objs.size + 1) vs) v d as) enc er') hal hk (bound_map hu)
  refine Calls.call_function_entry kind_sorted plain_sorted entry_sorted (args_sorted1 _) ?_
  unfold Builtin.«sorted»
  refine wpAny_bind (m := checkCount "sorted" 1 1 _) (wpAny_pure (wpAny_bind (collect_tup hl hz (wpAny_bind (wpAny_newList ?_ hz)))))
  have hsz : ((s.heap.push (seqObj "list" #[] 0)).update s.heap.objs.size (Obj.mapSeq (· ++ vs.toArray))).objs.size = s.heap.objs.size + 1 := by rw [Heap.size_update, size_push']
  show wpAny _ _ _ _ _ { s with heap := copyHeap s.heap vs }; rw [hsz]
  refine wpAny_bind (wpAny_holding (wpAny_call_entry slot_list_sort ⟨_, copyHeap_at s.heap vs, rfl⟩ entry_list_sort ?_ (args_list_sort _)))
  refine list_sort_vals (s := { s with heap := copyHeap s.heap vs }) (copyHeap_at s.heap vs) S hz ⟨_, rfl, wpAny_pure ⟨_, rfl, ?_⟩⟩
  exact h _ (by rw [sortVals_length false rfl]; exact e.length) (sortVals_data false e er' hal)
end
def rSortT (K : PySem.W.Frag) : List V → Hp → VK → Prop := fun xs H Q => ∃ a vs ps, xs = [V.ref a] ∧ SqT K H a vs ∧ DpAll K H vs ps ∧ AllAlike ps ∧ Sortable ps ∧ (∀ d ∈ ps, d.depth ≤ 60) ∧ ∀ p, H p = none → Q (.ref p) (upd H p (.lst (sortV vs ps)))
theorem cr_sortedT {X : Cx} (hu : X.A.units + 64 < cLine) : CallR X (.builtin "sorted") (rSortT X.K) := by
  intro pins s σ H xs us Q I r ⟨a, vs, ps, e, hs, hd, al, so, dp, q⟩
  subst e
  obtain ⟨its, rv, hl, hz⟩ := I.tuple hs
  obtain ⟨u, rfl, ru⟩ := vals1 r
  obtain rfl : u = Value.ref a := ru
  have hlen := dps_len hd
  have hsnd : (vs.zip ps).map (fun b : V × PyData => b.2) = ps := by rw [List.map_snd_zip]; omega
  have ep := each_pairs I rv hd
  have hz' : vs.length ≤ sizeLine := by have := rv.length; omega
  refine sorted_tup (enc := fun b : V × PyData => b.2) (R := fun u b => RelV b.1 u) hl (ep.mono fun _ _ z => z.1) (ep.mono fun _ _ z => z.2) (by rw [hsnd]; exact al) (by rw [hsnd]; exact so) (by rw [List.length_zip]; omega) (fun b hb => ?_) fun out ho eo => ?_
  · have := dp b.2 (by rw [← hsnd]; exact List.mem_map.mpr ⟨b, hb, rfl⟩)
    show X.A.units + 2 + b.2.depth < cLine; omega
  · obtain ⟨c, hc⟩ := sortedAll_at s.heap its out.toArray
    have hd' : s.heap.objs.size ≤ s.heap.objs.size + 1 := Nat.le_succ _
    refine ⟨.ref (s.heap.objs.size + 1), upd H (s.heap.objs.size + 1) (.lst (sortV vs ps)), I.laid (t' := s.toks) (fun _ _ => sortedAll_old) hd' ⟨?_, out, c, vals_each eo, hc⟩, rfl, q _ (I.hok.fresh hd')⟩
    show (((vs.zip ps).mergeSort _).map _).length ≤ sizeLine
    rw [List.length_map, List.length_mergeSort, List.length_zip]; omega
/-- sorted(a list or a tuple) -/
def dSortA : RDC := fun ds Q => match ds with
  | [.lst xs] => dSort [.lst xs] Q
  | [.tup xs] => PyData.canLayAll0 (pys xs) = true ∧ alikes xs ∧ (∀ d ∈ xs, (py d).depth ≤ 60) ∧ Q (.lst (sortD xs)) | _ => False
theorem rc_sortedA {K : PySem.W.Frag} : RC K (fun xs H Q => rSortL K xs H Q ∨ rSortT K xs H Q) dSortA := by
  refine ⟨fun {g E M σ H R A ds xs Qd Q} ok rs h k => ?_⟩
  unfold dSortA at h
  split at h
  · exact .inl (rc_sorted.run ok rs h k)
  · rename_i xs'
    obtain ⟨p, vs, e, h1, h2⟩ := one_tup rs
    refine .inr ⟨p, vs, pys xs', e, .of (ok.sub _ _ h1), dps_of ok.sub xs' h.1 h2, h.2.1.1, h.2.1.2, fun d hd => ?_, fin_lst ok (sort_rep h2) h.2.2.2 k⟩
    rw [pys_map] at hd
    obtain ⟨d', h3, rfl⟩ := List.mem_map.mp hd
    exact h.2.2.1 d' h3
  · exact h.elim
theorem cr_sortedA {X : Cx} (hu : X.A.units + 64 < cLine) : CallR X (.builtin "sorted") (fun xs H Q => rSortL X.K xs H Q ∨ rSortT X.K xs H Q) := (cr_sortedL hu).or (cr_sortedT hu)
/-! ### a tuple times an int -/
theorem tuple_mul1 (l : Addr) (items : Array Value) (n : Nat) (dd : Option Addr) (sl : Array (Option Value)) (x : Int) (u : Tok) (c0 : (decide (x < -(2 ^ 63)) || decide (x ≥ 2 ^ 63)) = false) (c1 : (items.isEmpty || x == 1) = true) :
    Meets (Builtin.«tuple.__mul__» ⟨[.ref l, .int x u], []⟩) (fun _ R s => s.heap.get? l = some { cls := .type "tuple", dict := dd, data := .seq items n, slots := sl } ∧ R (.ok (.ret (Value.ref l))) s) :=
  .of_wp fun prog w A R s h => by
    obtain ⟨hp, g, d, tk, os⟩ := s
    obtain ⟨hl, h⟩ := h
    have f1 := AutoSeq1.idx_int
    wp_walk using wpAny_loadPart' hl
    repeat (first
      | (refine wpAny_ite_false (decide_eq_false (by rw [c0]; exact Bool.false_ne_true)) ?_; wp_walk using wpAny_loadPart' hl)
      | (refine wpAny_ite_true (decide_eq_true (by rw [c1])) ?_; wp_walk using wpAny_loadPart' hl))
    exact ⟨_, rfl, h⟩
def rRep1 (K : PySem.W.Frag) : R2 := fun x y H Q => ∃ l xs, x = .ref l ∧ y = .int 1 ∧ SqT K H l xs ∧ Q (.ref l) H
theorem op_rep1 {X : Cx} : OpR X (binaryOp .Mult) (rRep1 X.K) := by
  intro pins s σ H x y v u Q I rx ry ⟨l, xs, e1, e2, hT, q⟩
  subst e1 e2
  cases rx
  obtain ⟨t, rfl⟩ := ry
  obtain ⟨its, r, ⟨⟨cls, dd, data, sl⟩, ho, hc, n, hd⟩, hs⟩ := I.tuple hT
  simp only at hc hd
  subst hc hd
  refine wpAny_binaryOp_repeat_ref (T := "tuple") (U := "int") (by decide) ⟨_, ho, rfl⟩ (fun s' => typeIs_int s' 1 t) noFill_tuple_mul F.fills_int_mul F.slot_int_rmul repeat_tuple F.slot_int_index.lookup
    (call_meets F.slot_int_rmul (typeIs_int s 1 t) F.entry_int_rmul (F.args_int_rmul_2 _ _) (int_rmul_tuple 1 t l its.toArray n dd sl)
      ⟨ho, rfl, ⟨_, ho, rfl⟩, call_meets F.slot_tuple_mul ⟨_, ho, rfl⟩ F.entry_tuple_mul (F.args_tuple_mul_2 _ _) (tuple_mul1 l its.toArray n dd sl 1 t (by decide) (by simp)) ⟨ho, ?_⟩⟩)
  exact ⟨.ref l, H, I, rfl, q⟩
/-- (a, ..) * n -/
def dMulT : RD2 := fun a b Q => match a, b with
  | .tup xs, .int k => xs ≠ [] ∧ 1 ≤ k ∧ k ≤ 1000 ∧ xs.length ≤ 1000 ∧ Q (.tup (List.replicate k.toNat xs).flatten)
  | _, _ => False
theorem op_mulT {X : Cx} : OpR X (binaryOp .Mult) (fun x y H Q => rRepT X.K x y H Q ∨ rRep1 X.K x y H Q) := op_repT.or op_rep1
theorem ro_mulT {K : PySem.W.Frag} : RO K (fun x y H Q => rRepT K x y H Q ∨ rRep1 K x y H Q) dMulT := by
  refine ⟨fun {g E M σ H R A a b x y Qd Q} ok ra rb h k => ?_⟩
  unfold dMulT at h
  split at h
  · rename_i xs n
    obtain ⟨h1, h2, h3, h4, q⟩ := h
    have ra' : Rep K R (.tup xs) x := ra
    obtain ⟨p, vs, e1, h5, r1⟩ := id ra'
    subst e1
    by_cases e : n = 1
    · subst e
      have er : (List.replicate (1 : Int).toNat xs).flatten = xs := by simp
      rw [er] at q
      exact .inr ⟨p, vs, rfl, rb, .of (ok.sub _ _ h5), fin_same ok (d := .tup xs) ra' q k⟩
    · exact .inl ⟨p, n, vs, rfl, rb, .of (ok.sub _ _ h5), fun z => h1 (by rw [z] at r1; have := r1.length; exact List.eq_nil_of_length_eq_zero this), by omega, h3, by rw [← r1.length]; exact h4, fin_tup ok (r1.rep _) q k⟩
  · exact h.elim
end DL

end
section
set_option maxRecDepth 100000
set_option maxHeartbeats 2000000
/-! While an exception is handled: the ends of iterators, zips, unpacking. -/
namespace DH
open PySem PySem.Spec PyProof.Rows HotX
section
variable {prog : Program} {w : World} {A : Around} {E : Value → Shared → Prop} {s : Shared}
theorem HotAt.in1 {x1 : Addr} {h : Heap} (c : HotAt A x1 h) : HotAt A.in1 x1 h := ⟨c.1, c.2⟩
theorem HotAt.keep {x1 : Addr} {h h' : Heap} (c : HotAt A x1 h) (k : ∀ o, h.get? x1 = some o → h'.get? x1 = some o) : HotAt A x1 h' := by
  obtain ⟨e, o, vs, a, b, d⟩ := c
  exact ⟨e, o, vs, k o a, b, d⟩
/-- a new StopIteration, raised there -/
theorem stop_hot {α : Type} {x1 it : Addr} {h0 : Heap} {g : Heap} {Q : α → Shared → Prop} (hot : HotAt A x1 g) (hs : s.heap = g) (hx : Heap.ExtBut it h0 g)
    (hE : ∀ h' e, Heap.ExtBut it h0 h' → (∃ o, h'.get? e = some o ∧ o.cls = .type "StopIteration") → E (.ref e) { s with heap := h' }) :
    wpAny (model prog w) A (do let e ← newExc (.type "StopIteration") []; raiseNew e : Sem α) Q E s := by
  subst hs
  refine wpAny_bind ?_
  simp only [newExc, newTuple]
  refine wpAny_bind (wpAny_newObj_type ?_ (by size_fits))
  refine wpAny_bind (m := firstArgMember _ _) (wpAny_of_eq (a := Value.none) (by first | rfl | (simp only [firstArgMember]; rfl)) ?_)
  refine wpAny_newObj_type ?_ (by size_fits)
  have up : ∀ b o, s.heap.get? b = some o → ((s.heap.push { cls := .type "tuple", data := .seq #[] }).get? b = some o) := fun b o e => Heap.get?_push_of_some _ e
  obtain ⟨hh, o1, vs1, h1, d1, c1⟩ := hot
  have h1' := Heap.get?_push_of_some { cls := .type "tuple", data := .seq #[] } h1
  refine raiseNew_hot ⟨hh, o1, vs1, Heap.get?_push_of_some _ h1', d1, c1⟩ (Nat.ne_of_lt (Heap.lt_size h1')) (Heap.get?_push_size _ rfl) rfl (by first | (simp; done) | (simp; omega) | (simp only [Array.size_append]; simp; omega)) ?_
  refine hE _ _ (fun b o hb e => ?_) ⟨_, Heap.get?_update_self _ (Heap.get?_push_size _ rfl) rfl, rfl⟩
  have e1 := Heap.get?_push_of_some { cls := .type "tuple", data := .seq #[] } (hx b o hb e)
  rw [Heap.get?_update_other _ _ (Nat.ne_of_gt (Heap.lt_size e1))]
  exact Heap.get?_push_of_some _ e1
/-- a list's iterator at its end, within another's next -/
theorem nextOf_list_stop {it l x1 : Addr} {i : Nat} {items : Array Value} {Q : Value → Shared → Prop} (hot : HotAt A x1 s.heap) (hne : x1 ≠ it) (hit : s.heap.IsListIter it l i) (hl : s.heap.IsList l items) (hx : items[i]? = none)
    (hE : ∀ h' e, Heap.ExtBut it s.heap h' → (∃ o, h'.get? e = some o ∧ o.cls = .type "StopIteration") → E (.ref e) { s with heap := h' }) : wpAny (model prog w) A (Builtin.SmallTypes.nextOf (.ref it)) Q E s := by
  obtain ⟨o, ho, hc, hd⟩ := id hit
  obtain ⟨ol, hol, _, nl, hdl⟩ := hl
  unfold Builtin.SmallTypes.nextOf
  refine wpAny_bind (wpAny_callSpecial?_slot (name := Str.ofString "__next__") hit.typeIs slot_listiter_next (wpAny_call_entry slot_listiter_next hit.typeIs entry_listiter_next ?_ (args_listiter_next _)))
  show wpAny _ _ (field (.ref it) 0 >>= _) _ _ s; refine wpAny_bind (wpAny_field ho hd (x := .ref l) rfl ?_)
  show wpAny _ _ (if (Value.ref l == Value.none) = true then _ else _) _ _ s; rw [if_neg (show ¬ ((Value.ref l == Value.none) = true) from Bool.false_ne_true)]
  show wpAny _ _ (field (.ref it) 1 >>= _) _ _ s; refine wpAny_bind (wpAny_field ho hd (x := .int i 0) rfl ?_)
  show wpAny _ _ (seqItems? (.ref l) >>= _) _ _ s; refine wpAny_bind (wpAny_seqItems hol hdl ?_)
  simp only [Int.toNat_natCast, hx]
  refine wpAny_bind (wpAny_rule (wpAny_bind (wpAny_setField ho hd (by simp) ?_)))
  exact stop_hot (s := { s with heap := _ }) (HotAt.keep hot fun o e => (Heap.SameBut.update ..).extBut x1 o hne e) rfl (Heap.SameBut.update ..).extBut hE
theorem draws_list {x1 : Addr} (it l : Addr) (hne : l ≠ it) (hx : x1 ≠ it) (items : Array Value) :
    Draws prog w A it [it, l, x1] items.size (fun i v => items[i]? = some v) (fun i h => h.IsListIter it l i ∧ h.IsList l items ∧ HotAt A x1 h) where
  live := fun _ _ st => let ⟨o, ho, _⟩ := st.1; ⟨o, ho⟩
  frame := fun _ _ _ st hk => ⟨st.1.at fun o e => hk it (by simp) o e, st.2.1.at fun o e => hk l (by simp) o e, HotAt.keep st.2.2 fun o e => hk x1 (by simp) o e⟩
  item := fun i s Q E hi st hQ => wpAny_nextOf_list_item st.1 st.2.1 (x := items[i]) (by simp [hi]) fun h' hit' hs' =>
    hQ _ h' s.toks (by simp [hi]) ⟨hit', st.2.1.extBut hs'.extBut hne, HotAt.keep st.2.2 fun o e => hs'.extBut x1 o hx e⟩ hs'
  done := fun s Q E st hE => nextOf_list_stop st.2.2 hx st.1 st.2.1 (by simp) hE
/-- a tuple's iterator at its end -/
theorem next_tuple_stop {it t x1 : Addr} {i : Nat} {items : Array Value} {Q : Option Value → Shared → Prop} (hot : HotAt A x1 s.heap) (hne : x1 ≠ it) (hit : IsTupIter s.heap it t i) (ht : IsTup s.heap t items) (hx : items[i]? = none)
    (hQ : ∀ h', Heap.ExtBut it s.heap h' → Q none { s with heap := h' }) : wpAny (model prog w) A (pyNext (.ref it)) Q E s := by
  obtain ⟨o, ho, hc, hd⟩ := id hit
  obtain ⟨ol, hol, _, nl, hdl⟩ := ht
  unfold pyNext
  refine wpAny_bind (wpAny_attempt (wpAny_callSpecial?_slot (name := Str.ofString "__next__") hit.typeIs slot_tupleiter_next (wpAny_call_entry slot_tupleiter_next hit.typeIs entry_tupleiter_next ?_ (args_tupleiter_next _))))
  show wpAny _ _ (field (.ref it) 0 >>= _) _ _ s; refine wpAny_bind (wpAny_field ho hd (x := .ref t) rfl ?_)
  show wpAny _ _ (if (Value.ref t == Value.none) = true then _ else _) _ _ s; rw [if_neg (show ¬ ((Value.ref t == Value.none) = true) from Bool.false_ne_true)]
  show wpAny _ _ (field (.ref it) 1 >>= _) _ _ s; refine wpAny_bind (wpAny_field ho hd (x := .int i 0) rfl ?_)
  show wpAny _ _ (seqItems? (.ref t) >>= _) _ _ s; refine wpAny_bind (wpAny_seqItems hol hdl ?_)
  simp only [Int.toNat_natCast, hx]
  refine wpAny_bind (wpAny_rule (wpAny_bind (wpAny_setField ho hd (by simp) ?_)))
  refine stop_hot (s := { s with heap := _ }) (HotAt.keep hot fun o e => (Heap.SameBut.update ..).extBut x1 o hne e) rfl (Heap.SameBut.update ..).extBut fun h' e hk he => ?_
  obtain ⟨oe, he, hc⟩ := he
  refine wpAny_bind (wpAny_isInstance (T := "StopIteration") (b := true) ⟨_, he, hc⟩ isSubtype_stop ?_)
  exact wpAny_pure (hQ _ hk)
theorem unpack_hot {t x1 : Addr} {items : Array Value} {Q : List Value → Shared → Prop} (hot : HotAt A x1 s.heap) (ht : IsTup s.heap t items)
    (hQ : ∀ h', Heap.ExtBut s.heap.objs.size s.heap h' → Q items.toList { s with heap := h' }) : wpAny (model prog w) A (unpackItems (.ref t) items.size none) Q E s := by
  have hlt : t ≠ s.heap.objs.size := by obtain ⟨o, ho, _⟩ := ht; exact Nat.ne_of_lt (Heap.lt_size ho)
  have hxl : x1 ≠ s.heap.objs.size := by obtain ⟨_, o, vs, a, _⟩ := hot; exact Nat.ne_of_lt (Heap.lt_size a)
  unfold unpackItems
  refine wpAny_bind ?_
  unfold notIterableAtAll
  refine wpAny_bind (wpAny_specialOf ht.typeIs slot_tuple_iter.lookup (wpAny_pure ?_))
  simp only [Bool.false_eq_true, if_false]
  refine wpAny_bind (wpAny_holding (iter_tuple ht ?_))
  refine wpAny_bind (wpAny_holding (draw_tuple hlt items.size 0 _ _ ⟨_, Heap.get?_push_size _ rfl, rfl, rfl⟩ (ht.push _) (by omega) fun h₁ hit₁ hs₁ => ?_))
  have hall : List.take items.size (List.drop 0 items.toList) = items.toList := by rw [List.drop_zero]; exact List.take_of_length_le (by simp)
  rw [hall, if_neg (by simp)]
  have ht₁ : IsTup h₁ t items := (ht.push _).extBut hs₁.extBut hlt
  have hot₁ : HotAt A x1 h₁ := HotAt.keep hot fun o e => hs₁.extBut x1 o hxl (Heap.get?_push_of_some _ e)
  refine wpAny_bind (wpAny_holding (next_tuple_stop hot₁ hxl hit₁ ht₁ (by simp) fun h₂ he₂ => ?_))
  simp only [Option.isSome_none, Bool.false_eq_true, if_false]
  exact wpAny_pure (hQ h₂ fun b o hb e => he₂ b o hb (hs₁.extBut b o hb (Heap.get?_push_of_some _ e)))
theorem assign_tup_hot {env : Env} {elts : List Expr} {n1} {pos : Pos} {t x1 : Addr} {items : Array Value} {Q : Unit → Shared → Prop} (hot : HotAt A x1 s.heap) (ht : IsTup s.heap t items) (hn : (assignEach elts env).length = items.size) (hstar : (assignEach elts env).findIdx? (·.1) = none)
    (h : ∀ h', Heap.ExtBut s.heap.objs.size s.heap h' → wpAny (model prog w) A (assignInOrder ((assignEach elts env).map (·.2)) items.toList) Q E { s with heap := h' }) : wpAny (model prog w) A (assign (.Tuple elts n1 pos) env (.ref t)) Q E s := by
  rw [assign_Tuple]
  refine wpAny_bind (wpAny_standAt ?_)
  unfold unpack
  rw [hn, hstar]
  exact wpAny_bind (wpAny_holding (unpack_hot hot ht h))
end
end DH

end
section
set_option maxRecDepth 100000
set_option maxHeartbeats 4000000
/-! While an exception is handled: zip of two lists, a list comprehension over it. -/
namespace DH
open PySem PySem.Spec PyProof.Rows HotX L2 L2H
theorem hot_pin {X : Cx} {pins : List (Addr × Obj)} {σ : L2.St} {H : Hp} {s : Shared} (c : HotC X) (I : Inv X pins σ H s) : ∃ x1, HotAt X.A x1 s.heap ∧ ∀ b, FpOk X pins H b → x1 ≠ b := by
  obtain ⟨p, ⟨hh, v1, e1, c1⟩, hp⟩ := c
  exact ⟨p.1, ⟨hh, p.2, v1, (I.pin p (List.mem_append_left _ hp)).1, e1, c1⟩, fun b f => f.2.2.2.2.2 p (List.mem_append_left _ hp)⟩
/-- the lists at a and b, item by item in new pairs -/
def ItH (K : PySem.W.Frag) (a b : Addr) : It :=
  ⟨fun i H => ∃ (xs ys : List V) (x y : V), SqL K H a xs ∧ SqL K H b ys ∧ xs[i]? = some x ∧ ys[i]? = some y,
    fun i H v H' => ∃ T x y, v = .ref T ∧ H T = none ∧ H' = upd H T (.tup [x, y]) ∧ (∀ xs, SqL K H a xs → xs[i]? = some x) ∧ ∀ ys, SqL K H b ys → ys[i]? = some y,
    fun i H => ∃ xs ys : List V, SqL K H a xs ∧ SqL K H b ys ∧ i = xs.length ∧ i = ys.length⟩
theorem lists_apart {h : Heap} {l it i : Addr} {items : Array Value} (p : h.IsList l items) (q : h.IsListIter it i n) : l ≠ it := fun e => by
  subst e
  obtain ⟨o, e1, c1, _⟩ := p
  obtain ⟨o2, e2, c2, _⟩ := q
  rw [e1] at e2
  cases e2
  rw [c1] at c2
  exact absurd c2 (by decide)
theorem sep_of {z TI TO i1 i2 a b x1 : Addr} (D : ZipApart z TI TO i1 i2 a b) (h1 : x1 ≠ z) (h2 : x1 ≠ TO) (h3 : x1 ≠ i1) (h4 : x1 ≠ i2) : ZipSep2 z TI TO i1 i2 [i1, a, x1] [i2, b, x1] where
  TIz := D.TIz
  TOz := D.TOz
  TITO := D.TITO
  TIi1 := D.TIi1
  mem1 := by simp
  zf1 := by simp [D.i1z.symm, D.l1z.symm, h1.symm]
  Tf1 := by simp [D.TOi1, D.l1TO.symm, h2.symm]
  TIi2 := D.TIi2
  mem2 := by simp
  zf2 := by simp [D.i2z.symm, D.l2z.symm, h1.symm]
  Tf2 := by simp [D.TOi2, D.l2TO.symm, h2.symm]
  sep1_2 := by simp [D.i12, D.l2i1.symm, h3.symm]
  sep2_1 := by simp [D.i12.symm, D.l1i2.symm, h4.symm]
def tnH (a b z TI TO i1 i2 : Addr) : Nat → Heap → Prop := fun i h => IsZip h z TI TO .none ∧ IsPair h TI (.ref i1) (.ref i2) ∧ (∃ x y, IsPair h TO x y) ∧ h.IsListIter i1 a i ∧ h.IsListIter i2 b i
theorem turnH_zip {P : Program} {w : World} {K : PySem.W.Frag} {elts : List Expr} {kk : Nat} {tpos : Pos} {a b z TI TO i1 i2 : Addr} (D : ZipApart z TI TO i1 i2 a b) :
    TurnH P w K (.Tuple elts kk tpos) (ItH K a b) [z, TI, TO, i1, i2] z (tnH a b z TI TO i1 i2) where
  mem := by simp
  obj := fun i h st c hc => by
    obtain ⟨hz, hTI, ⟨x, y, hTO⟩, ⟨o1, e1, _, d1⟩, ⟨o2, e2, _, d2⟩⟩ := st
    have e' : c = z ∨ c = TI ∨ c = TO ∨ c = i1 ∨ c = i2 := by simpa using hc
    rcases e' with q | q | q | q | q <;> rw [q]
    · exact ⟨_, hz, fun v q => nomatch q⟩
    · exact ⟨_, hTI, fun v q => nomatch q⟩
    · exact ⟨_, hTO, fun v q => nomatch q⟩
    · exact ⟨o1, e1, fun v q => by rw [d1] at q; cases q⟩
    · exact ⟨o2, e2, fun v q => by rw [d2] at q; cases q⟩
  keep := fun i h h' st k => by
    obtain ⟨hz, hTI, ⟨x, y, hTO⟩, h1, h2⟩ := st
    refine ⟨k z (by simp) _ hz, k TI (by simp) _ hTI, ⟨x, y, k TO (by simp) _ hTO⟩, h1.at fun o q => ?_, h2.at fun o q => ?_⟩
    · exact k i1 (by simp) o q
    · exact k i2 (by simp) o q
  item := by
    intro X hP hw hK hc i pins s σ H E I hf ⟨hz, hTI, ⟨x0, y0, hTO⟩, h1, h2⟩ ⟨xs, ys, x, y, hqx, hqy, hx, hy⟩
    subst hP hw hK
    obtain ⟨its, rv, p, _⟩ := I.list hqx
    obtain ⟨its2, rv2, p2, _⟩ := I.list hqy
    obtain ⟨u, hu, ru⟩ := rv.get hx
    obtain ⟨u2, hu2, ru2⟩ := rv2.get hy
    have hzl : z < s.heap.objs.size := Heap.lt_size hz
    have ap : ∀ {c : Addr}, c ∉ [z, TI, TO, i1, i2] → c ≠ z ∧ c ≠ TI ∧ c ≠ TO ∧ c ≠ i1 ∧ c ≠ i2 := fun hb => by simpa using hb
    refine wpAny_pyNext_zip_item D hz hTI hTO h1 h2 p.isList p2.isList (x := u) (y := u2) (by simpa using hu) (by simpa using hu2) fun h' z' TO' h1' h2' hT hsz hk => ⟨_, rfl, wpAny_letOwnedTupleGo_zip (s := { s with heap := h' }) z' fun h'' z'' sb => ?_⟩
    have hT2 : h''.get? s.heap.objs.size = some { cls := .type "tuple", data := .seq #[u, u2] } := (sb.2 _ (Nat.ne_of_gt hzl)).trans hT
    have new : ObjOk X.prog X.w (upd H s.heap.objs.size (.tup [x, y])) h'' s.heap.objs.size (.tup [x, y]) := ⟨show 2 ≤ sizeLine by decide, [u, u2], .cons ru (.cons ru2 .nil), ⟨_, hT2, rfl, _, rfl⟩⟩
    have I1 : Inv X pins σ (upd H s.heap.objs.size (.tup [x, y])) { s with heap := h'' } := I.turnedNew (t' := s.toks) (ch := [z, TI, TO, i1, i2]) (fun c o hb q => by
      obtain ⟨n1, _, n3, n4, n5⟩ := ap hb
      exact (sb.2 c n1).trans (hk c o n1 n3 n4 n5 q)) hf (Nat.le_refl _) new
    refine ⟨.ref s.heap.objs.size, _, I1, rfl, ⟨_, x, y, rfl, I.hok.fresh (Nat.le_refl _), rfl, fun l hl => by rw [I.list_inj hl hqx]; exact hx, fun l hl => by rw [I.list_inj hl hqy]; exact hy⟩,
      ⟨z'', (sb.2 _ D.TIz).trans (hk _ _ D.TIz D.TITO D.TIi1 D.TIi2 hTI), ⟨u, u2, (sb.2 _ D.TOz).trans TO'⟩, h1'.at fun o q => (sb.2 _ D.i1z).trans q, h2'.at fun o q => (sb.2 _ D.i2z).trans q⟩, fun c hcm => ?_⟩
    have hlt : c < s.heap.objs.size := by
      obtain ⟨_, e1, _⟩ := h1
      obtain ⟨_, e2, _⟩ := h2
      have e' : c = z ∨ c = TI ∨ c = TO ∨ c = i1 ∨ c = i2 := by simpa using hcm
      rcases e' with q | q | q | q | q <;> rw [q]
      · exact hzl
      · exact Heap.lt_size hTI
      · exact Heap.lt_size hTO
      · exact Heap.lt_size e1
      · exact Heap.lt_size e2
    rw [upd_ne (Nat.ne_of_lt hlt)]
    exact (hf c hcm).1
  done := by
    intro X hP hw hK hc i pins s σ H E I hf ⟨hz, hTI, ⟨x0, y0, hTO⟩, h1, h2⟩ ⟨xs, ys, hqx, hqy, en1, en2⟩
    subst hP hw hK
    obtain ⟨x1, hot, hx1⟩ := hot_pin hc I
    obtain ⟨its, rv, p, _⟩ := I.list hqx
    obtain ⟨its2, rv2, p2, _⟩ := I.list hqy
    have l1 := rv.length
    have l2 := rv2.length
    have S := sep_of D (hx1 z (hf z (by simp))) (hx1 TO (hf TO (by simp))) (hx1 i1 (hf i1 (by simp))) (hx1 i2 (hf i2 (by simp)))
    have ap : ∀ {c : Addr}, c ∉ [z, TI, TO, i1, i2] → c ≠ z ∧ c ≠ TI ∧ c ≠ TO ∧ c ≠ i1 ∧ c ≠ i2 := fun hb => by simpa using hb
    refine wpAny_pyNext_zipD2_end S (draws_list (A := X.A.in1) i1 a D.l1i1 (hx1 i1 (hf i1 (by simp))) its.toArray) (draws_list (A := X.A.in1) i2 b D.l2i2 (hx1 i2 (hf i2 (by simp))) its2.toArray) hz hTI hTO ⟨h1, p.isList, HotAt.in1 hot⟩ ⟨h2, p2.isList, HotAt.in1 hot⟩ (by simp; omega) (by simp; omega) (.inl (by simp; omega)) fun h' tk hk => ⟨rfl, ?_⟩
    exact I.turnedL (t' := tk) (ch := [z, TI, TO, i1, i2]) (fun c o hb q => by
      obtain ⟨n1, _, n3, n4, n5⟩ := ap hb
      exact hk c o n1 n3 n4 n5 q) hf
  self := fun A i s Q E st h => wpAny_pyIter_zip st.1 h
end DH

end
section
set_option maxRecDepth 100000
set_option maxHeartbeats 4000000
/-! While an exception is handled: a list comprehension. -/
namespace DH
open PySem PySem.Spec PyProof.Rows HotX L2 L2H
abbrev blkH (X : Cx) (s : Shared) (H : Hp) (scope : Scope) (cenv : Env) (fp : List Addr) : Cx := { X.blk s H scope cenv fp with pn := X.pn }
theorem inv_blkH {X : Cx} {pins : List (Addr × Obj)} {σ σ' : L2.St} {H H0 : Hp} {s s' s0 : Shared} {scope : Scope} {cenv : Env} {fp : List Addr} (I : Inv X pins σ H s) (J : Inv (X.blk s0 H0 scope cenv fp) [] σ' H s') (k : ∀ b o, s.heap.get? b = some o → s'.heap.get? b = some o) (hL : s.heap.objs.size ≤ cenv.locals) : Inv (blkH X s0 H0 scope cenv fp) [] σ' H s' := by
  refine ⟨⟨J.ok.mod, J.ok.kind, J.ok.glob, J.ok.blt, J.ok.above, J.ok.inj, J.ok.has, J.ok.cab, J.ok.hd, J.ok.frames, J.ok.stk, J.ok.exf, J.ok.bs, J.ok.bsz, J.ok.noex, J.ok.exfs, J.ok.funs, J.ok.frf⟩, J.os, J.bare, J.base, J.loc, J.cell, J.free, J.freeC, fun p hp => ?_, J.hok, J.len⟩
  have hp : p ∈ X.pn := by simpa using hp
  obtain ⟨h1, h2, h3, h4, h5⟩ := I.pin p (List.mem_append_left _ hp)
  refine ⟨k _ _ h1, h2, Nat.ne_of_lt (Nat.lt_of_lt_of_le (Heap.lt_size h1) hL), fun hm => ?_, h5⟩
  rcases List.mem_cons.mp (I.stkSub p.1 hm) with q | q
  · exact h3 q
  · exact h4 q
theorem HotC.blk {X : Cx} (c : HotC X) (s : Shared) (H : Hp) (scope : Scope) (cenv : Env) (fp : List Addr) : HotC (blkH X s H scope cenv fp) := by
  obtain ⟨p, h1, h2⟩ := c
  exact ⟨p, h1, h2⟩
section
variable {X : Cx}
abbrev everyBlk (X : Cx) (scope : Scope) (P : Cx → Prop) : Prop := ∀ (s : Shared) (H : Hp) (C : Addr) (cl : List (Str × Addr)) (fp : List Addr), P (blkH X s H scope (compEnvC scope cl C X.env) fp)
theorem lc_hot {pins : List (Addr × Obj)} {s : Shared} {σ : L2.St} {H : Hp} {Q : VK} {elt tg iter : Expr} {ifs : List Expr} {scope : Scope} {own : List (Str × Nat)} {pos pos' : Pos} {wi : TI} {g : TG} {tt : TT} {te : TE} {Qf : Value → Shared → Prop}
    (hc : HotC X) (hN : X.N.Nodup) (I : Inv X pins σ H s) (hi : PIH X tg iter wi) (ok : BlkOk X.N X.env.scope scope own) (hg : everyBlk X scope fun Y => PG Y tg g) (ht : everyBlk X scope fun Y => PTs Y ifs tt) (he : everyBlk X scope fun Y => PE Y elt te) (hs : ∀ x, foldedSetIterable iter X.env x = pure x)
    (h : tLc wi g tt te (own.map (·.2)) σ H Q) (hRR : ∀ D C s' m H', Inv X pins σ H' s' → Q (.ref D) H' → s'.heap.Ns C m → FpOk X pins H' C → compPost (model X.prog X.w) X.A X.xe none Qf (.ref D) C (.ok .next) s') :
    wpAny (model X.prog X.w) X.A (comprehension (.ListComp elt [⟨tg, iter, ifs, 0⟩] scope pos) scope X.env pos' (newList []) false (eval iter X.env) none) Qf X.xe s := by
  have hfree : ∀ y ∈ scope.names, y.2 = .free → ∃ c, X.env.cells.lookup y.1 = some c := fun y hy e => (ok.free y hy e).elim (fun k => I.ok.has _ (.inl k)) fun k => I.ok.has _ (.inr k)
  refine wpAny_comprehension_free (use := none) rfl hs (closure_ok hfree) ok.kind (fun y hy e => by rw [ok.uniq y hy, e]) (thn (hi.run pins s σ H _ I h) fun xv s1 hx => thn hx fun itv s2 h2 => ?_)
  obtain ⟨it, fp, tn, J, H2, e, I2, T, st2, f2, q⟩ := h2
  subst e
  refine wpAny_newObj_type (newEnv_comp ?_) (show 0 ≤ sizeLine by decide)
  generalize hD : s2.heap.objs.size = D
  obtain ⟨W, ⟨m0, w0⟩, turn⟩ := q D (I2.hok.fresh (Nat.le_of_eq hD))
  generalize hs3 : ({ s2 with heap := s2.heap.push { cls := .type "list", data := .seq ([] : List Value).toArray } } : Shared) = s3
  have h3 : s3.heap = s2.heap.push { cls := .type "list", data := .seq ([] : List Value).toArray } := by rw [← hs3]
  have I3 : Inv X pins σ (upd H2 D (.lst [])) s3 := by
    rw [← hs3]
    refine I2.laid (t' := s2.toks) (fun b o e => Heap.get?_push_of_some _ e) (Nat.le_of_eq hD) ⟨Nat.zero_le _, [], 0, .nil, ?_⟩
    rw [← hD]; exact Heap.get?_push_size _ rfl
  have f3 : ∀ b ∈ fp, FpOk X pins (upd H2 D (.lst [])) b ∧ b < s3.heap.objs.size := fun b hb => by
    have hlt : b < s2.heap.objs.size := by obtain ⟨o, e, _⟩ := T.obj _ _ st2 b hb; exact Heap.lt_size e
    refine ⟨⟨?_, (f2 b hb).2⟩, by rw [h3, Heap.size_push]; exact Nat.lt_succ_of_lt hlt⟩
    rw [upd_ne (by rw [← hD]; exact Nat.ne_of_lt hlt)]; exact (f2 b hb).1
  have st3 : tn 0 s3.heap := T.keep _ _ _ st2 fun b _ o e => by rw [h3]; exact Heap.get?_push_of_some _ e
  have kp : ∀ b o, s3.heap.get? b = some o → (pushCells (s3.heap.push { cls := .type "dict", data := .dict #[] }) scope.names).get? b = some o := fun b o e => pushCells_keeps _ _ _ _ (Heap.get?_push_of_some _ e)
  have I4 := inv_blkH (s' := { s3 with heap := pushCells (s3.heap.push { cls := .type "dict", data := .dict #[] }) scope.names }) I3 (block_start I3 ok hN f3) kp (Nat.le_refl _)
  have pg := hg s3 (upd H2 D (.lst [])) s3.heap.objs.size (cellsFrom (s3.heap.objs.size + 1) scope.names (cloFrom X.env.cells scope.names [])) fp
  have pt := ht s3 (upd H2 D (.lst [])) s3.heap.objs.size (cellsFrom (s3.heap.objs.size + 1) scope.names (cloFrom X.env.cells scope.names [])) fp
  have pe := he s3 (upd H2 D (.lst [])) s3.heap.objs.size (cellsFrom (s3.heap.objs.size + 1) scope.names (cloFrom X.env.cells scope.names [])) fp
  show codeAny _ _ (.compStart (.ListComp elt [⟨tg, iter, ifs, 0⟩] scope pos) 0 (.ref it) (.ref D) (compEnvC scope (cellsFrom (s3.heap.objs.size + 1) scope.names (cloFrom X.env.cells scope.names [])) s3.heap.objs.size X.env)) (compPost (model X.prog X.w) X.A X.xe none Qf (.ref D) s3.heap.objs.size) { s3 with heap := pushCells (s3.heap.push { cls := .type "dict", data := .dict #[] }) scope.names }
  have nfp : ∀ b ∈ fp, (upd H2 D (.lst [])) b = none := fun b hb => (f3 b hb).1.1
  generalize hce : compEnvC scope (cellsFrom (s3.heap.objs.size + 1) scope.names (cloFrom X.env.cells scope.names [])) s3.heap.objs.size X.env = ce at I4 pg pt pe ⊢
  have cL : ce.locals = s3.heap.objs.size := by subst hce; rfl
  generalize hH3 : upd H2 D (.lst []) = H3 at I3 I4 pg pt pe w0 nfp f3
  have kp4 : ∀ b o, s3.heap.get? b = some o → ({ s3 with heap := pushCells (s3.heap.push { cls := .type "dict", data := .dict #[] }) scope.names } : Shared).heap.get? b = some o := kp
  generalize hs4 : ({ s3 with heap := pushCells (s3.heap.push { cls := .type "dict", data := .dict #[] }) scope.names } : Shared) = s4 at I4 kp4 ⊢
  have st4 : tn 0 s4.heap := T.keep _ _ _ st3 fun b _ o e => kp4 b o e
  have ho : HotC (blkH X s3 H3 scope ce fp) := HotC.blk hc _ _ _ _ _
  have stat : ∀ {σ' : L2.St} {H' : Hp} {s' : Shared}, Inv (blkH X s3 H3 scope ce fp) [] σ' H' s' → (∀ b ∈ fp, H' b = none) → ∀ b ∈ fp, FpOk (blkH X s3 H3 scope ce fp) [] H' b := fun {σ' H' s'} I' hn b hb =>
    ⟨hn b hb, (I'.ok.exf b hb).1, I'.ok.exfs b hb, .inl hb, fun x c e => (I'.ok.exf b hb).2 x c e, fun p hp => (f3 b hb).1.2.2.2.2.2 p (List.mem_append_left _ (by simpa using hp))⟩
  have loop : codeAny (model X.prog X.w) X.A (.compLoop (.ListComp elt [⟨tg, iter, ifs, 0⟩] scope pos) 0 (.ref it) (.ref D) ce) (compPost (model X.prog X.w) X.A X.xe none Qf (.ref D) s3.heap.objs.size) s4 := by
    refine compLoop_any (fun n s' => ∃ i H', Inv (blkH X s3 H3 scope ce fp) [] (wipe σ (own.map (·.2))) H' s' ∧ tn i s'.heap ∧ (∀ b ∈ fp, H' b = none) ∧ W i n H') ?_ m0 ⟨0, H3, I4, st4, nfp, w0⟩
    rintro n s5 ⟨i, H5, I5, st5, n5, w5⟩
    rcases turn i n H5 w5 with ⟨stop, qq⟩ | ⟨go, Nx, hNx, step⟩
    · refine thnF (T.done (blkH X s3 H3 scope ce fp) rfl rfl rfl ho i [] s5 _ H5 (fun _ _ => False) I5 (stat I5 n5) st5 stop) fun r s6 ⟨hr, I6⟩ => ?_
      subst hr
      have I7 : Inv X pins σ H5 s6 := I3.call' (ch := fp) I6.os I6.base I6.hok I6.bare fun b hb => ⟨(f3 b hb).1.2.2.2.1, (f3 b hb).1.2.1, (f3 b hb).1.2.2.2.2.1, (f3 b hb).1.2.2.2.2.2⟩
      have nC : H5 s3.heap.objs.size = none := by
        have z : H5 ce.locals = none := I6.free
        rw [cL] at z; exact z
      obtain ⟨m, hn, _⟩ := I6.loc
      have hn : s6.heap.Ns ce.locals m := hn
      rw [cL] at hn
      exact hRR D s3.heap.objs.size s6 m H5 I7 qq hn (I3.fpOk (Nat.le_refl _) nC)
    · refine thnF (T.item (blkH X s3 H3 scope ce fp) rfl rfl rfl ho i [] s5 _ H5 (fun _ _ => False) I5 (stat I5 n5) st5 go) fun r s6 ⟨u, hr, h6⟩ => ?_
      subst hr
      refine thnF h6 fun _ s7 ⟨x, H7, I7, r7, y7, st7, n7⟩ => ?_
      have I7' := I7.pinned (stat I7 n7) (T.obj _ _ st7)
      refine thnF (pg.run _ s7 _ H7 x u _ I7' r7 (step x H7 y7)) fun _ s8 ⟨σ8, H8, I8, hw8, q8⟩ => thnF (pt.run _ s8 σ8 H8 _ I8 q8) fun b s9 ⟨H9, I9, q9⟩ => ?_
      have fin : ∀ {s' : Shared} {H' : Hp}, Inv (blkH X s3 H3 scope ce fp) ([] ++ pinsAt fp s7.heap) σ8 H' s' → Nx H' → ∃ m, m < n ∧ ∃ i H', Inv (blkH X s3 H3 scope ce fp) [] (wipe σ (own.map (·.2))) H' s' ∧ tn i s'.heap ∧ (∀ b ∈ fp, H' b = none) ∧ W i m H' := fun {s' H'} I' nx => by
        obtain ⟨m', hm, w'⟩ := hNx H' nx
        have pin' : ∀ b ∈ fp, ∀ o, s7.heap.get? b = some o → s'.heap.get? b = some o ∧ H' b = none := fun b hb o e => by
          have z := I'.pin (b, o) (List.mem_append_right _ (List.mem_append_right _ (mem_pinsAt hb e)))
          exact ⟨z.1, z.2.1⟩
        refine ⟨m', hm, i + 1, H', (I'.unpinned (pins := [])).weak (by rw [← hw8, wipe_length]) (fun j v e => by rw [← hw8] at e; exact (wipe_some e).1), T.keep _ _ _ st7 fun b hb o e => (pin' b hb o e).1, fun b hb => ?_, w'⟩
        obtain ⟨o, e, _⟩ := T.obj _ _ st7 b hb
        exact (pin' b hb o e).2
      cases b with
      | false => simp only [Bool.false_eq_true, if_false] at q9 ⊢; exact fin I9 q9
      | true =>
        simp only [if_true] at q9 ⊢
        refine thnF (pe.run _ s9 σ8 H9 _ I9 q9) fun z s10 ⟨yv, H10, I10, r10, acc, hD10, hz10, nx⟩ => ?_
        exact app_ok (X := blkH X s3 H3 scope ce fp) I10 hD10 hz10 r10 fun s11 I11 => fin I11 nx
  exact codeAny_compStart_list loop (T.self X.A 0 _ _ _ st4 loop)
theorem pe_lc_hot {elt tg iter : Expr} {ifs : List Expr} {scope : Scope} {own : List (Str × Nat)} {pos : Pos} {wi : TI} {g : TG} {tt : TT} {te : TE} (hc : HotC X) (hN : X.N.Nodup) (hi : PIH X tg iter wi) (ok : BlkOk X.N X.env.scope scope own) (hg : everyBlk X scope fun Y => PG Y tg g) (ht : everyBlk X scope fun Y => PTs Y ifs tt) (he : everyBlk X scope fun Y => PE Y elt te)
    (hs : ∀ x, foldedSetIterable iter X.env x = pure x := by intro _; rfl) : PE X (.ListComp elt [⟨tg, iter, ifs, 0⟩] scope pos) (tLc wi g tt te (own.map (·.2))) := by
  refine ⟨fun pins s σ H Q I h => ?_⟩
  rw [eval_ListComp]
  refine lc_hot hc hN I hi ok hg ht he hs h fun D C s' m H' I' q hn ⟨f0, f1, f2, f3, f4, f5⟩ => ⟨m, hn, fun h'' sb => ?_⟩
  exact ⟨.ref D, H', I'.turned (t' := s'.toks) (fun b o hb e => (sb.2 b hb).trans e) f0 f1 f3 f4 f5, rfl, q⟩
/-- a, b = a pair, there -/
theorem pg_tup_hot {es : List Expr} {k : Nat} {t : TGs} {n : Nat} {pos : Pos} (hc : HotC X) (h : PGs X es t) (hn : (assignEach es X.env).length = n := by rfl) (hst : (assignEach es X.env).findIdx? (·.1) = none := by rfl) : PG X (.Tuple es k pos) (gTup X.K n t) := by
  refine ⟨fun pins s σ H v u Q I r hw => ?_⟩
  obtain ⟨a, xs, e1, hq, hl, hw⟩ := hw
  subst e1
  cases r
  obtain ⟨its, rv, ht, hz⟩ := I.tuple hq
  obtain ⟨x1, hot⟩ := hc.at I
  refine assign_tup_hot hot ht (by simp [hn, ← hl, rv.length]) hst fun h' hx => ?_
  have I1 : Inv X pins σ H { s with heap := h' } := I.kept (t' := s.toks) fun b o e => hx b o (Nat.ne_of_lt (Heap.lt_size e)) e
  exact h.run pins _ σ H xs _ Q I1 (by simpa using rv) hw
/-- zip of two lists, there -/
def iZipH (K : PySem.W.Frag) (ta : TA) : TI := fun σ H R => ta σ H fun vs H1 => ∃ a b xs ys, vs = [.ref a, .ref b] ∧ SqL K H1 a xs ∧ SqL K H1 b ys ∧ R (ItH K a b) H1
theorem pi_zip_hot {e e2 : Expr} {ta : TA} {p pos tpos : Pos} {elts : List Expr} {kk : Nat} (hg : Gl X "zip") (hm : X.mg "zip" = none) (ha : PA X [e, e2] ta)
    (hs : starEach [e, e2] X.env = (false, eval e X.env) :: starEach [e2] X.env := by rfl) (hpl : (backTo pos (starEach [e2] X.env)).any (·.1) = false := by rfl) : PIH X (.Tuple elts kk tpos) (.Call (.Name "zip" p) [e, e2] [] pos) (iZipH X.K ta) := by
  refine ⟨fun pins s σ H R I h => ?_⟩
  refine Call_ (ld_blt I hg hm PyProof.Rows.boot_zip (PyProof.Rows.callWith_type1 (thn (ha.run pos pins s σ H _ I h) fun us s1 ⟨vs, H1, I1, r1, q1⟩ => ?_) hs hpl))
  obtain ⟨a, b, xs, ys, ex, hqx, hqy, q⟩ := q1
  subst ex
  cases r1 with
  | cons r rr =>
    cases rr with
    | cons r' rr =>
      cases rr
      cases r
      cases r'
      obtain ⟨its, rv, p1, _⟩ := I1.list hqx
      obtain ⟨its2, rv2, p2, _⟩ := I1.list hqy
      refine call_zip_2 p1.isList p2.isList fun h' hz hTI hTO h1 h2 hsz hk => wpAny_pyIter_zip hz ?_
      have I2 : Inv X pins σ H1 { s1 with heap := h' } := I1.kept (t' := s1.toks) hk
      refine ⟨s1.heap.objs.size + 4, [s1.heap.objs.size + 4, s1.heap.objs.size + 2, s1.heap.objs.size + 3, s1.heap.objs.size, s1.heap.objs.size + 1], _, _, H1, rfl, I2, turnH_zip (PySem.W.ktu_apart s1.heap.objs.size a b p1.lt p2.lt), ⟨hz, hTI, ⟨_, _, hTO⟩, h1, h2⟩, fun c hcm => ?_, q⟩
      have hle : s1.heap.objs.size ≤ c := by
        simp only [List.mem_cons, List.not_mem_nil, or_false] at hcm
        rcases hcm with z | z | z | z | z <;> rw [z] <;> first | exact Nat.le_refl _ | exact Nat.le_add_right _ _
      exact I1.fpOk hle (I1.hok.fresh hle)
end
end DH

end
section
set_option maxRecDepth 100000
set_option maxHeartbeats 4000000
/-! Defs that are called with the exception that is handled. -/
namespace DH
open PySem PySem.Spec PyProof.Rows HotX L2 L2H
/-- the handled exception: an instance of the class at C -/
structure ExcAt (C : Addr) (p : Addr × Obj) : Prop where
  zc : Zc (.ref C) none p.2
  fl : ∃ vs, p.2.data = .fields vs
/-- what a def promises, called while p is handled -/
structure FnE (P : Program) (w : World) (K : PySem.W.Frag) (mg : Str → Option Value) (base : Heap) (CX : CXT) (k : Nat) (f : Addr) (fd : FuncData) (ps : List Str) (p : Addr × Obj) (sp : Sp) : Prop where
  len : ∀ vs H Q E, sp vs H Q E → vs.length = ps.length
  run : ∀ (A : Around) (outer : List Env) (s : Shared) (H : Hp) (args : Args) (us : List Value) (vs : List V) (Q : VK) (E : XK), RoomH k A → Hot1 A p → PinOk outer H s p → Env0 P w K mg base A outer s H → BindsTo s fd args (ps.zip us) → Vals vs us → sp vs H Q E →
    codeAny (model P w) A (.call (.ref f) args) (CR CX outer P w H s Q E) s
theorem fnE_of {CX : CXT} {P : Program} {w : World} {K : PySem.W.Frag} {mg : Str → Option Value} {base : Heap} {k : Nat} {f : Addr} {name qual : Str} {params : Arguments} {body : List Stmt} {scope : Scope} {dV kV doc pm cdv ct oc : Value} {an od : Option Addr}
    {osl : Array (Option Value)} {N ps : List Str} {p : Addr × Obj} {sp : Sp} (lk : K.lookup f = some ⟨oc, od, .func (PySem.W.fnOf name qual params body scope dV kV doc pm an cdv ct), osl⟩) (hcd : PySem.W.codeIn K cdv qual = true) (S : FnScope N ps scope) (len : ∀ vs H Q E, sp vs H Q E → vs.length = ps.length)
    (hb : ∀ (A : Around) (outer : List Env) (s : Shared) (H : Hp) (vs : List V) (Q : VK) (E : XK), Hot1 A p → RoomH k (A.deeper (envOfC qual scope s.heap.objs.size f cdv)) → sp vs H Q E →
      ∃ t, PSs (cxH CX P w K mg base N qual scope f cdv A outer s H E p) body t ∧ t { nx := fun _ H' => Q .non H', rt := Q } (L2.start N vs) H) : FnE P w K mg base CX (k + 1) f (PySem.W.fnOf name qual params body scope dV kV doc pm an cdv ct) ps p sp := by
  refine ⟨len, fun A outer s H args us vs Q E hr hot hpin e0 hbd r hsp => ?_⟩
  have KX : K.In s.heap := e0.mod.kin.keeps fun b o e => (e0.bs b o e).1
  have lim : s.heap.NoLimit := e0.mod.nolimit.keeps fun b o e => (e0.bs b o e).1
  refine codeAny_call_function hr.depth (KX _ _ lk) rfl S.co S.gen rfl (PySem.W.codeRec_of KX hcd) (hbd _ _ _ _ ?_)
  refine wpAny_newFunctionEnv_cells S.kind (fun ⟨n, v⟩ hy => (S.par n (List.of_mem_zip hy).1).elim .inl fun q => .inr ⟨q, PySem.W.cellsFrom_some _ _ _ (.inl q)⟩) fun env he s1 x => ?_
  subst he
  refine ⟨lim.keeps x.toInCall.keep, codeAny_func ?_⟩
  obtain ⟨t, ht, hq⟩ := hb A outer s H vs Q E hot (hr.deeper _) hsp
  have I : Inv (cxH CX P w K mg base N qual scope f cdv A outer s H E p) [] (L2.start N vs) H s1 := inv_startH S hpin e0 (len _ _ _ _ hsp) r x
  refine wpAny_mono (ht.run [] s1 (L2.start N vs) H _ I hq) (fun fl s' hs => ?_) fun e s' hs => hs
  cases fl with
  | ret u => obtain ⟨v, σ', H', J, rv, q⟩ := hs; exact ⟨v, H', J.os, J.bare, J.base, J.hok, rv, q⟩
  | next => obtain ⟨σ', H', J, q⟩ := hs; exact ⟨V.non, H', J.os, J.bare, J.base, J.hok, rfl, q⟩
  | brk => obtain ⟨_, _, _, q⟩ := hs; exact q.elim
  | cont => obtain ⟨_, _, _, q⟩ := hs; exact q.elim
/-- the context in which p is handled -/
structure HotP (X : Cx) (p : Addr × Obj) : Prop where
  hot : Hot1 X.A p
  pn : p ∈ X.pn
theorem HotP.c {X : Cx} {p : Addr × Obj} (h : HotP X p) : HotC X := ⟨p, h.hot, h.pn⟩
section
variable {X : Cx} {CX : CXT} {k : Nat} {f : Addr} {fd : FuncData} {ps : List Str} {sp : Sp} {E : L2.St → XK} {x : Str} {q pos : Pos} {e : Expr} {es : List Expr} {t : TA} {p : Addr × Obj}
theorem pe_callE (F : FnE X.prog X.w X.K X.mg X.base CX k f fd ps p sp) (hr : RoomH k X.A) (hc : HotP X p) (hg : Gl X x) (hm : X.mg x = some (.ref f)) (hk : PySem.W.keepIn X.K (.ref f) = true) (hb : Binds X.K fd ps []) (hx : ∀ σ, PassesAt CX X σ (E σ))
    (ha : PA X (e :: es) t) (hdb : (x == ("__debug__" : Str)) = false := by decide) (he : starEach (e :: es) X.env = (false, eval e X.env) :: starEach es X.env := by rfl) (hpl : (backTo pos (starEach es X.env)).any (·.1) = false := by rfl) :
    PE X (.Call (.Name x q) (e :: es) [] pos) (tCallS sp E t) := by
  refine ⟨fun pins s σ H Q I h => wpAny_Call_Name_kw (ld_glob I hg hm ?_ hdb)⟩
  refine PySem.W.callWith_K (h₀ := X.base) I.ok.mod.kin hk (thn (ha.run pos pins s σ H _ I h) fun us s1 ⟨vs, H1, I1, r, q⟩ => ⟨I1.kIn, ?_⟩) he hpl
  have b := hb s1 us I1.kIn (by rw [List.append_nil, ← r.length]; exact F.len _ _ _ _ q)
  rw [List.append_nil] at b
  have P1 := I1.pin p (List.mem_append_left _ hc.pn)
  have hpin : PinOk X.stack H1 s1 p := ⟨P1.1, P1.2.1, fun hm => (List.mem_cons.mp (I1.stkSub p.1 hm)).elim P1.2.2.1 P1.2.2.2.1, P1.2.2.2.2⟩
  refine wpAny_call (codeAny_mono (F.run X.A X.stack s1 H1 ⟨us, []⟩ us vs Q (E σ) hr hc.hot hpin I1.env0 b r q) fun r s' hq => ?_)
  cases r with
  | error e => exact hx σ pins H1 s1 e s' I1 hq
  | ok fl =>
    cases fl with
    | ret u => exact I1.after hq
    | next => exact hq.elim
    | brk => exact hq.elim
    | cont => exact hq.elim
/-- isinstance(e, c) of the exception that is handled -/
theorem call_isP {D : Addr} (hc : HotP X p) (C : ExcC X.K D) (z : ExcAt D p) : CallR X (.builtin "isinstance") (rIsE X.K D p.1) := by
  intro pins s σ H xs us Q I r h
  obtain ⟨c, cv, b, rfl, hcv, e, q⟩ := h
  cases r with
  | cons rx rr =>
    cases rr with
    | cons rt rr =>
      cases rr
      cases rx
      obtain rfl := hcv _ rt
      obtain ⟨hget, _⟩ := I.pin p (List.mem_append_left _ hc.pn)
      obtain ⟨a, oe⟩ := p
      obtain ⟨⟨h1, h2⟩, vs, hv⟩ := z
      have J : PySem.W.InstAt s.heap a oe D none := by
        obtain ⟨oc, od, oda, osl⟩ := oe
        dsimp only at h1 h2 hv
        subst h1 h2 hv
        exact ⟨hget, rfl, rfl, trivial⟩
      exact PySem.W.kia_one (PySem.W.handS_kitx_exc C.hg C.hk C.hs C.hd C.ha C.hn C.ht C.hm) I.kIn J e (fun z => nomatch z) fun tk => ⟨.bl b, H, I.kept (t' := tk) fun _ _ z => z, rfl, q⟩
end
end DH

end
section
set_option maxRecDepth 100000
set_option maxHeartbeats 4000000
/-! Over data, while an exception is handled. -/
namespace DL
open PySem L2 PyProof.Rows L2H DH
section
variable {X : Cx} {g : Gh} {pos : Pos}
/-- s.split(t): a new list -/
def dSplit (T U : TD) : TD := fun E M Q => T E M fun v M1 => match v with
  | .d (.str a) => U E M1 fun u M2 => match u with
    | .d (.str b) => (b.length == 0) = false ∧ a.length + 2 ≤ sizeLine ∧ Q (.d (.lst ((Txt.split a b).map .str))) M2
    | _ => False
  | _ => False
theorem repL_strs {K : PySem.W.Frag} {R : Hp} : ∀ xs : List Str, RepL K R (xs.map D.str) (xs.map V.str)
  | [] => rfl
  | x :: xs => ⟨_, _, rfl, rfl, repL_strs xs⟩
theorem de_split {o e : Expr} {T U : TD} {apos : Pos} (ho : DE X g o T) (he : DE X g e U) (hs : starEach [e] X.env = [(false, eval e X.env)] := by rfl) (hbase : attributeBase o "split" X.env (eval o X.env) = eval o X.env := by rfl) (hline : (apos.endLine == pos.line) = true := by rfl) :
    DE X g (.Call (.Attribute o "split" apos) [e] [] pos) (dSplit T U) := PEm (pe_split ho he hs hbase hline) fun σ H Q ⟨E, M, R, A, Qd, ok, h, k⟩ => by
  refine ⟨E, M, R, A, _, ok, h, fun v M1 x H1 R1 A1 q1 ok1 s1 x1 r1 => ?_⟩
  split at q1
  · rename_i a
    have e1 : x = .str a := r1
    refine ⟨⟨a, e1⟩, E, M1, R1, A1, _, ok1, q1, fun u M2 y H2 R2 A2 q2 ok2 s2 x2 r2 => ?_⟩
    split at q2
    · rename_i b
      obtain ⟨q3, q4, q5⟩ := q2
      have e2 : y = .str b := r2
      refine ⟨a, b, e1, by rw [e2], q3, q4, fun p hp => ?_⟩
      have hR := ok2.nR hp
      exact k _ _ _ _ _ _ q5 (ok2.ro hp) ((s1.trans s2).trans (Sub.upd hR)) (x1.trans x2) ⟨p, _, rfl, upd_same, repL_strs _⟩
    · exact q2.elim
  · exact q1.elim
/-- the two values of a pair, there -/
def gTH (n : Nat) (t : TDGs) : TDG := fun v E M Q => match v with | .d (.tup ds) => ds.length = n ∧ t (ds.map .d) E M Q | _ => False
theorem dg_tH {es : List Expr} {k : Nat} {is : List Nat} {t : TDGs} {n : Nat} (hc : HotC X) (h : DGs X g es is t) (hn : (assignEach es X.env).length = n := by rfl) (hst : (assignEach es X.env).findIdx? (·.1) = none := by rfl) : DG X g (.Tuple es k pos) is (gTH n t) :=
  PGm (pg_tup_hot hc h hn hst) fun v σ H Q ⟨E, M, R, A, Qd, w, ok, r, h, k⟩ => by
    unfold gTH at h
    split at h
    · rename_i ds
      obtain ⟨p, us, e2, h1, h2⟩ := r
      exact ⟨p, us, e2, .of (ok.sub _ _ h1), by rw [← h2.length]; exact h.1, E, M, R, A, Qd, _, ok, reps_map h2, h.2, k⟩
    · exact h.elim
abbrev DIH (X : Cx) (g : Gh) (tg e : Expr) (T : TDI) : Prop := PIH X tg e (liftI X.K g T)
theorem PIHm {tg e : Expr} {t t' : TI} (h : PIH X tg e t) (i : ∀ σ H Q, t' σ H Q → t σ H Q) : PIH X tg e t' := ⟨fun pins s σ H Q I q => h.run pins s σ H Q I (i σ H Q q)⟩
/-- the items of two lists of one length, pair by pair -/
def iZipH2 (U : TDA) : TDI := fun E M Q => U E M fun vs M1 => match vs with
  | [.d (.lst xs), .d (.lst ys)] => xs.length = ys.length ∧ Q (pair2 xs ys) noK M1
  | _ => False
theorem sqL_of {K : PySem.W.Frag} {H : Hp} {p : Addr} {vs : List V} (h : H p = some (.lst vs)) : SqL K H p vs := .of h
theorem walk_zipH {K : PySem.W.Frag} {R : Hp} {A : List (List Addr)} {p q : Addr} {us ws : List V} {xs ys : List D} (h1 : R p = some (.lst us)) (r1 : RepL K R xs us) (h2 : R q = some (.lst ws)) (r2 : RepL K R ys ws) (hl : xs.length = ys.length) : WalkD K (ItH K p q) R A noK (pair2 xs ys) where
  go := fun i d ok s x kp e => by
    unfold pair2 at e
    rw [List.getElem?_zipWith] at e
    cases ex : xs[i]? with
    | none => rw [ex] at e; cases e
    | some dx =>
      cases ey : ys[i]? with
      | none => rw [ex, ey] at e; cases e
      | some dy =>
        rw [ex, ey] at e
        cases e
        obtain ⟨v, ev, rv⟩ := r1.get ex
        obtain ⟨w, ew, rw'⟩ := r2.get ey
        have a1 := sqL_of (K := K) (ok.sub _ _ (s _ _ h1))
        have a2 := sqL_of (K := K) (ok.sub _ _ (s _ _ h2))
        refine ⟨⟨us, ws, v, w, a1, a2, ev, ew⟩, fun z H2 yl => ?_⟩
        obtain ⟨T, v', w', e1, e2, e3, e4, e5⟩ := yl
        subst e1 e3
        have q1 := e4 us a1
        have q2 := e5 ws a2
        rw [ev] at q1
        rw [ew] at q2
        cases q1
        cases q2
        have hR := ok.nR e2
        exact ⟨_, .inr (.inl ⟨T, _, e2, rfl, rfl⟩), ⟨T, _, rfl, upd_same, v, _, rfl, Rep.mono (s.trans (Sub.upd hR)) _ rv, w, _, rfl, Rep.mono (s.trans (Sub.upd hR)) _ rw', rfl⟩⟩
  stop := fun ok s x kp => by
    have l1 := r1.length
    have l2 := r2.length
    refine ⟨us, ws, sqL_of (ok.sub _ _ (s _ _ h1)), sqL_of (ok.sub _ _ (s _ _ h2)), ?_, ?_⟩ <;> (unfold pair2; rw [List.length_zipWith]; omega)
theorem di_zipH {e e2 : Expr} {U : TDA} {p pos tpos : Pos} {elts : List Expr} {kk : Nat} (hg : Gl X "zip") (hm : X.mg "zip" = none) (ha : DA X g [e, e2] U)
    (hs : starEach [e, e2] X.env = (false, eval e X.env) :: starEach [e2] X.env := by rfl) (hpl : (backTo pos (starEach [e2] X.env)).any (·.1) = false := by rfl) : DIH X g (.Tuple elts kk tpos) (.Call (.Name "zip" p) [e, e2] [] pos) (iZipH2 U) :=
  PIHm (pi_zip_hot hg hm ha hs hpl) fun σ H Q ⟨E, M, R, A, Qd, ok, h, k⟩ => by
    refine ⟨E, M, R, A, _, ok, h, fun vs M1 xs H1 R1 A1 q1 ok1 s1 x1 r1 => ?_⟩
    split at q1
    · rename_i ds es
      obtain ⟨x, y, ex, ⟨p1, us, ep1, h1, r2⟩, ⟨p2, ws, ep2, h2, r3⟩⟩ := r1.two
      subst ep1 ep2
      exact ⟨p1, p2, us, ws, ex, sqL_of (ok1.sub _ _ h1), sqL_of (ok1.sub _ _ h2), k _ _ _ _ _ _ _ q1.2 ok1 s1 x1 (walk_zipH h1 r2 h2 r3 q1.1)⟩
    · exact q1.elim
section
variable {elt tg iter : Expr} {ifs : List Expr} {scope : Scope} {own : List (Str × Nat)} {T : TDI} {t : TDG} {tt : TDT} {te : TD} {is : List Nat}
theorem de_lcH (hc : HotC X) (hN : X.N.Nodup) (hi : DIH X g tg iter T) (ok : BlkOk X.N X.env.scope scope own)
    (hg : everyBlk X scope fun Y => ∀ g' : Gh, DG Y g' tg is t) (ht : everyBlk X scope fun Y => ∀ g' : Gh, DTs Y g' ifs tt) (he : everyBlk X scope fun Y => ∀ g' : Gh, DE Y g' elt te) (his : ∀ i ∈ is, i ∈ own.map (·.2) := by decide) (hs : ∀ x, foldedSetIterable iter X.env x = pure x := by intro _; rfl) :
    DE X g (.ListComp elt [⟨tg, iter, ifs, 0⟩] scope pos) (dComp T t tt te (own.map (·.2))) :=
  PEm (pe_lc_hot hc hN hi ok (fun s H C cl fp => PG.ex (hg s H C cl fp)) (fun s H C cl fp => PTs.ex (ht s H C cl fp)) (fun s H C cl fp => PE.ex (he s H C cl fp)) hs) fun σ H Q h => lift_comp his h
end
end
end DL

end
section
set_option maxRecDepth 100000
set_option maxHeartbeats 4000000
/-! Defs that look at the exception that is handled; try .. except .. as e: return f(e). -/
namespace DL
open PySem L2 PyProof.Rows L2H DH
section
variable {X : Cx} {g : Gh} {pos : Pos} {p : Addr × Obj} {xa : Str → Addr}
/-- isinstance(e, C), told ahead -/
def dIsP (a : Addr) (b : Bool) (T : TD) : TD := fun E M Q => T E M fun v M1 => match v with | .d (.ob x) => x = a ∧ Q (.d (.bl b)) M1 | _ => False
theorem de_isP {o : Expr} {T : TD} {m : Str} {D C : Addr} {b : Bool} {q q2 : Pos} (hc : HotP X p) (eC : ExcC X.K D) (z : ExcAt D p) (ho : DE X g o T) (hg : Gl X "isinstance") (hm : X.mg "isinstance" = none) (hg2 : Gl X m) (hm2 : X.mg m = some (.ref C)) (hk : PySem.W.kitOne X.K (.ref D) (.ref C) = some b) (hdb : (m == ("__debug__" : Str)) = false := by decide)
    (hs : starEach [o, .Name m q2] X.env = (false, eval o X.env) :: starEach [.Name m q2] X.env := by rfl) (hpl : (backTo pos (starEach [.Name m q2] X.env)).any (·.1) = false := by rfl) (hs2 : starEach [.Name m q2] X.env = (false, eval (.Name m q2) X.env) :: starEach [] X.env := by rfl) :
    DE X g (.Call (.Name "isinstance" q) [o, .Name m q2] [] pos) (dIsP p.1 b T) :=
  PEm (pe_callB (call_isP hc eC z) hg hm boot_isinstance (pa_cons ho (pa_cons (pe_glob (v := .ref C) hg2 hm2 rfl hdb) pa_nil hs2) hs) (by decide) (by decide) hs hpl) fun σ H Q ⟨E, M, R, A, Qd, ok, h, k⟩ => by
    refine ⟨E, M, R, A, _, ok, h, fun v M1 x H1 R1 A1 q1 ok1 s1 x1 r1 => ?_⟩
    split at q1
    · obtain ⟨rfl, q1⟩ := q1
      obtain rfl : x = .ref p.1 := r1
      exact ⟨.ref C, _, b, rfl, fun u r => r, hk, k _ _ _ _ _ _ q1 ok1 s1 x1 rfl⟩
    · exact q1.elim
theorem de_isPb {o : Expr} {T : TD} {m : Str} {D : Addr} {tn : String} {b : Bool} {q q2 : Pos} (hc : HotP X p) (eC : ExcC X.K D) (z : ExcAt D p) (ho : DE X g o T) (hg : Gl X "isinstance") (hm : X.mg "isinstance" = none) (hg2 : Gl X m) (hm2 : X.mg m = none) (hv : bootBuiltins m = some (.type tn)) (hk : PySem.W.kitOne X.K (.ref D) (.type tn) = some b)
    (hn : m ≠ "__name__" := by decide) (hdb : (m == ("__debug__" : Str)) = false := by decide) (hs : starEach [o, .Name m q2] X.env = (false, eval o X.env) :: starEach [.Name m q2] X.env := by rfl) (hpl : (backTo pos (starEach [.Name m q2] X.env)).any (·.1) = false := by rfl) (hs2 : starEach [.Name m q2] X.env = (false, eval (.Name m q2) X.env) :: starEach [] X.env := by rfl) :
    DE X g (.Call (.Name "isinstance" q) [o, .Name m q2] [] pos) (dIsP p.1 b T) :=
  PEm (pe_callB (call_isP hc eC z) hg hm boot_isinstance (pa_cons ho (pa_cons (pe_bltn (v := .ty tn) hg2 hm2 hv rfl hn hdb) pa_nil hs2) hs) (by decide) (by decide) hs hpl) fun σ H Q ⟨E, M, R, A, Qd, ok, h, k⟩ => by
    refine ⟨E, M, R, A, _, ok, h, fun v M1 x H1 R1 A1 q1 ok1 s1 x1 r1 => ?_⟩
    split at q1
    · obtain ⟨rfl, q1⟩ := q1
      obtain rfl : x = .ref p.1 := r1
      exact ⟨.ty tn, _, b, rfl, fun u r => r, hk, k _ _ _ _ _ _ q1 ok1 s1 x1 rfl⟩
    · exact q1.elim
end
/-! ### defs -/
/-- a def's promise, called with p in hand -/
structure DefOkE (P : Program) (w : World) (K : PySem.W.Frag) (mg : Str → Option Value) (base : Heap) (xa : Str → Addr) (p : Addr × Obj) (x : Str) (k : Nat) (ps : List Str) (F : PSp) : Prop where
  ex : ∃ (f : Addr) (fd : FuncData), mg x = some (.ref f) ∧ PySem.W.keepIn K (.ref f) = true ∧ Binds K fd ps [] ∧ FnE P w K mg base (L2N.CX P w) k f fd ps p (spG K xa (fP F))
abbrev cxE (P : Program) (w : World) (K : PySem.W.Frag) (mg : Str → Option Value) (base : Heap) (N : List Str) (x : Str) (st : Stmt) (f : Addr) (cdv : Value) (A : Around) (outer : List Env) (s : Shared) (H : Hp) (E : XK) (p : Addr × Obj) : Cx :=
  cxH (L2N.CX P w) P w K mg base N x (defScope st) f cdv A outer s H E p
theorem DefAt.dlE {P : Program} {w : World} {K : PySem.W.Frag} {mg : Str → Option Value} {base : Heap} {xa : Str → Addr} {x : Str} {st : Stmt} {N ps : List Str} {k : Nat} {F : PSp} {p : Addr × Obj} (h : DefAt K mg x st ps) (S : FnScope N ps (defScope st)) (len : ∀ ds Q E, F ds Q E → ds.length = ps.length)
    (body : ∀ (f : Addr) (cdv : Value) (A : Around) (outer : List Env) (s : Shared) (H : Hp) (E : XK) (g : Gh), RoomH k (cxE P w K mg base N x st f cdv A outer s H E p).A → HotP (cxE P w K mg base N x st f cdv A outer s H E p) p →
      ∃ T : TDS, DSs (cxE P w K mg base N x st f cdv A outer s H E p) g (defBody st) T ∧ ∀ ds Q E, F ds Q E → T { nx := fun _ _ => Q .non, rt := rv Q } (startD N.length (ds.map .d)) []) : DefOkE P w K mg base xa p x (k + 1) ps F := by
  obtain ⟨f, fd, h1, h2, h3⟩ := h.ex
  refine ⟨f, fd, h1, h2.kp, h3, ?_⟩
  obtain ⟨oc, od, kV, doc, pm, an, cdv, ct, osl, rfl, lk, hcd⟩ := h2.ex
  refine fnE_of lk hcd S (fun vs H Q E h => ?_) fun A outer s H vs Q E hot hr h => ?_
  · obtain ⟨R, A, M, args, Qd, Ed, _, r, ⟨_, ds, rfl, hF⟩, _⟩ := h
    rw [← r.length, List.length_map]
    exact len _ _ _ hF
  · obtain ⟨R, A0, M, args, Qd, Ed, gok, r, ⟨rfl, ds, rfl, hF⟩, kq, ke⟩ := h
    obtain ⟨T, hD, hT⟩ := body f cdv A outer s H E ⟨H, R, A0⟩ hr ⟨hot, by show p ∈ [p]; simp⟩
    obtain rfl : A0 = [] := List.length_eq_zero_iff.mp gok.obj.length
    refine ⟨_, hD, startD N.length (ds.map .d), [], R, [], _, ?_, hT ds _ _ hF, fun E' M' σ' H' R' A' q ok' s' _ => ?_, fun v M' y E' σ' H' R' A' q ok' s' _ r' => ?_, fun _ _ _ _ _ _ q _ _ _ => (show False from q).elim, fun _ _ _ _ _ _ q _ _ _ => (show False from q).elim⟩
    · have rl := r.length
      refine ⟨fun a o e _ => e, Sub.refl _, gok.sub, fun a o e => .inl e, rfl, fun l hl => by simp at hl, gok.nd, gok.nr, gok.obj, ?_⟩
      unfold startD L2.start
      rw [rl]
      exact start_slots _ r
    · obtain ⟨o1, o2⟩ := ok'.out
      exact kq _ _ _ _ _ _ q o1 ok'.same o2 rfl
    · have q' : retV 0 Qd v M' := by rw [retV0]; exact q
      obtain ⟨v2, M2, R2, A2, q2, w1, w2, w3, w4⟩ := ret_V.go ok' r' q'
      exact kq _ _ _ _ _ _ q2 w1 w2 w3 w4
section
variable {X : Cx} {g : Gh} {k j : Nat} {ps : List Str} {xa : Str → Addr} {F : PSp} {x : Str} {q pos : Pos} {e : Expr} {es : List Expr} {U : TDA} {p : Addr × Obj}
theorem dcallE (D : DefOkE X.prog X.w X.K X.mg X.base xa p x j ps F) (hr : RoomH k X.A) (hj : j ≤ k) (hc : HotP X p) (ha : DA X g (e :: es) U) (hg : Gl X x := by rfl) (hdb : (x == ("__debug__" : Str)) = false := by decide)
    (he : starEach (e :: es) X.env = (false, eval e X.env) :: starEach es X.env := by rfl) (hpl : (backTo pos (starEach es X.env)).any (·.1) = false := by rfl) : DE X g (.Call (.Name x q) (e :: es) [] pos) (dCall F (fun _ _ => False) U) := by
  obtain ⟨f, fd, h1, h2, h3, h4⟩ := D.ex
  exact PEm (pe_callE h4 (hr.mono hj) hc hg h1 h2 h3 (fun σ => L2N.passAt (takesN (g := g) (xa := xa)) σ) ha hdb he hpl) fun _ _ _ h => lift_call h
end
end DL

end
section
set_option maxRecDepth 100000
set_option maxHeartbeats 4000000
/-! The word of a refusal. -/
namespace DL
open PySem L2 PyProof.Rows L2H DH
local macro_rules | `(tactic| walk_at "w") => `(tactic| ((conv => whnf); repeat (first | (refine br_t rfl ?_; conv => whnf) | (refine br_f rfl ?_; conv => whnf))))
def kindNames : List Str := ["NoLanes", "NoFolk", "NoCrowd", "NoOrder", "NoWishes", "NoWorths", "NoPlan", "NoCrossing", "NoTick", "NoName", "NoRank", "NoTicks", "Taken", "NotThere"]
def kindWords : List Str := ["lanes", "folk", "crowd", "order", "wishes", "worths", "plan", "crossing", "tick", "name", "rank", "ticks", "taken", "gone"]
abbrev allWords : Str := "lanes folk crowd order wishes worths plan crossing tick name rank ticks taken gone own value"
/-- the word of the i-th class -/
def wordI (i : Nat) : Str := kindWords.getD i "else"
def nameI (i : Nat) : Str := kindNames.getD i ""
theorem kit_of {K : PySem.W.Frag} {D C : Addr} {b : Bool} (hd : PySem.W.hasDictIn K C = true) (ht : PySem.W.typeIn K (.ref C) = some (.type "type")) (hs : PySem.W.subIn K (.ref D) (.ref C) = some b) (self : PySem.W.subIn K (.ref D) (.ref D) = some true) : PySem.W.kitOne K (.ref D) (.ref C) = some b := by
  unfold PySem.W.kitOne
  by_cases e : D = C
  · subst e
    rw [self] at hs
    cases hs
    rw [if_pos (beq_self_eq_true _)]
  · rw [if_neg (by simp [e])]
    obtain ⟨cd, hc, _⟩ := PySem.W.any_some hd
    unfold PySem.W.kitCls
    dsimp only
    rw [hc, ht]
    exact (if_pos rfl).trans hs
theorem kit_ve {K : PySem.W.Frag} {D : Addr} {b : Bool} (hs : PySem.W.subIn K (.ref D) (.type "ValueError") = some b) : PySem.W.kitOne K (.ref D) (.type "ValueError") = some b := by
  unfold PySem.W.kitOne
  rw [if_neg (by simp)]
  show (if PySem.W.kitMeta "ValueError" = true then PySem.W.subIn K (.ref D) (.type "ValueError") else none) = some b
  rw [if_pos (by decide +kernel)]
  exact hs
/-- the classes by their names -/
structure KdG (mg : Str → Option Value) (xa : Str → Addr) : Prop where
  all : ∀ n ∈ kindNames ++ [("LaneError" : Str)], mg n = some (.ref (xa n))
  ve : mg "ValueError" = none
/-- what the i-th class stands under -/
structure KdI (K : PySem.W.Frag) (xa : Str → Addr) (i : Nat) : Prop where
  ec : ExcC K (xa (nameI i))
  it : ∀ j, j < 14 → PySem.W.kitOne K (.ref (xa (nameI i))) (.ref (xa (nameI j))) = some (i == j)
  le : PySem.W.kitOne K (.ref (xa (nameI i))) (.ref (xa "LaneError")) = some true
  ve : PySem.W.kitOne K (.ref (xa (nameI i))) (.type "ValueError") = some true
  lt : i < 14
def F_l_kinds (a : Addr) (i : Nat) : PSp := fun ds Q _ => ds = [.ob a] ∧ i < 14 ∧ Q (.lst [.str (wordI i), .str "own", .str "value"])
def F_l_refusal (a : Addr) (i : Nat) : PSp := fun ds Q _ => ds = [.ob a] ∧ i < 14 ∧ Q (.str (wordI i))
abbrev isK (a : Addr) (b : Bool) : TD := dIsP a b (dVar 0)
abbrev four (a b c d : TD) : TD := dLst (daCons a (daCons b (daCons c (daCons d daNil))))
/-- e some words word good -/
def t_l_kinds (a : Addr) (i : Nat) : TDS :=
  sSeq (sSet 1 (four (isK a (i == 0)) (isK a (i == 1)) (isK a (i == 2)) (isK a (i == 3))))
  (sSeq (sSet 1 (dOp dAdd (dVar 1) (four (isK a (i == 4)) (isK a (i == 5)) (isK a (i == 6)) (isK a (i == 7)))))
  (sSeq (sSet 1 (dOp dAdd (dVar 1) (four (isK a (i == 8)) (isK a (i == 9)) (isK a (i == 10)) (isK a (i == 11)))))
  (sSeq (sSet 1 (dOp dAdd (dVar 1) (four (isK a (i == 12)) (isK a (i == 13)) (isK a true) (isK a true))))
  (sSeq (sSet 2 (dC (.str allWords)))
  (sRet (dComp (iZipH2 (daCons (dSplit (dVar 2) (dC (.str " "))) (daCons (dVar 1) daNil))) (gTH 2 (gsCons (gN 3) (gsCons (gN 4) gsNil))) (dB (dVar 4)) (dVar 3) [3, 4]))))))
/-- e kinds -/
def t_l_refusal (a : Addr) (i : Nat) : TDS :=
  sSeq (sSet 1 (dCall (F_l_kinds a i) (fun _ _ => False) (daCons (dVar 0) daNil)))
  (sRet (dIf (dB (dOp dEq (dSlice (dVar 1) (doSome (dC (.int 1))) doNone) (dLst (daCons (dC (.str "own")) (daCons (dC (.str "value")) daNil))))) (dOp dIx (dVar 1) (dC (.int 0))) (dC (.str "else"))))
theorem split_words : Txt.split allWords " " = kindWords ++ [("own" : Str), ("value" : Str)] := by decide +kernel
theorem s4 : 4 ≤ sizeLine := by decide
theorem s8 : 4 + 4 ≤ sizeLine := by decide
theorem s12 : 4 + 4 + 4 ≤ sizeLine := by decide
theorem s16 : 4 + 4 + 4 + 4 ≤ sizeLine := by decide
def wordsB (i : Nat) : List (Str × Bool) := (kindWords ++ [("own" : Str), ("value" : Str)]).zip [i == 0, i == 1, i == 2, i == 3, i == 4, i == 5, i == 6, i == 7, i == 8, i == 9, i == 10, i == 11, i == 12, i == 13, true, true]
theorem wordsB_fm : ∀ i, i < 14 → (wordsB i).filterMap (fun p => if p.2 = true then some (D.str p.1) else none) = [.str (wordI i), .str "own", .str "value"] := by
  intro i hi
  match i, hi with
  | 0, _ | 1, _ | 2, _ | 3, _ | 4, _ | 5, _ | 6, _ | 7, _ | 8, _ | 9, _ | 10, _ | 11, _ | 12, _ | 13, _ => rfl
  | n + 14, h => omega
theorem w_l_kinds (a : Addr) (i : Nat) : WPP 5 (fun _ => t_l_kinds a i) (F_l_kinds a i) := by
  rintro _ Q E ⟨rfl, hi, q⟩
  walk_at "w"
  iterate 4 (refine ⟨rfl, ?_⟩; walk_at "w")
  refine ⟨s4, ?_⟩
  walk_at "w"
  iterate 4 (refine ⟨rfl, ?_⟩; walk_at "w")
  refine ⟨s4, ?_⟩
  walk_at "w"
  refine ⟨s8, ?_⟩
  walk_at "w"
  iterate 4 (refine ⟨rfl, ?_⟩; walk_at "w")
  refine ⟨s4, ?_⟩
  walk_at "w"
  refine ⟨s12, ?_⟩
  walk_at "w"
  iterate 4 (refine ⟨rfl, ?_⟩; walk_at "w")
  refine ⟨s4, ?_⟩
  walk_at "w"
  refine ⟨s16, ?_⟩
  walk_at "w"
  refine ⟨rfl, by decide +kernel, ?_⟩
  rw [split_words]
  walk_at "w"
  refine ⟨rfl, ?_⟩
  refine dLC_of (fun p : Str × Bool => .tup [.str p.1, .bl p.2]) (fun p => if p.2 = true then some (D.str p.1) else none) trivial (wordsB i) [] (show 0 + 16 ≤ sizeLine by decide) (fun p _ Y N h => ?_) ?_
  · walk_at "w"
    refine ⟨rfl, ?_⟩
    walk_at "w"
    refine ⟨rfl, br_of (fun e => ?_) (fun e => ?_)⟩
    · rw [if_pos e] at h
      walk_at "w"
      exact h
    · rw [if_neg (by rw [e]; simp)] at h
      exact h
  · rw [wordsB_fm i hi]
    exact q
theorem w_l_refusal (a : Addr) (i : Nat) : WPP 2 (fun _ => t_l_refusal a i) (F_l_refusal a i) := by
  rintro _ Q E ⟨rfl, hi, q⟩
  walk_at "w"
  refine ⟨rfl, hi, ?_⟩
  walk_at "w"
  refine ⟨(by decide : 2 ≤ sizeLine), ?_⟩
  walk_at "w"
  refine ⟨(show okD (.lst [.str "own", .str "value"]) = true by decide +kernel), by decide +kernel, ?_⟩
  walk_at "w"
  exact q
/-! ### try: body, except LaneError as e: return _law_refusal(e) -/
/-- a refusal's word comes back -/
def sTryRef (js : List Nat) (Tb : (Str → List DO → Prop) → TDS) : TDS := fun D E M => Tb (fun n M' => ∃ j, j ∈ js ∧ n = nameI j ∧ D.rt (.d (.str (wordI j))) M') D E M
theorem takes_len {X : Cx} {W W' : WX} (t : L2N.Takes X W) (h : ∀ c d σ H, σ.length = X.N.length → W' c d σ H → W c d σ H) : L2N.Takes X W' := fun u s' ⟨a, B, sI, pins, σ, H, cls, d, e, I, nb, up, sky, na, os, ag, w⟩ =>
  t u s' ⟨a, B, sI, pins, σ, H, cls, d, e, I, nb, up, sky, na, os, ag, h _ _ _ _ I.len w⟩
theorem get_set : ∀ {E : Sl} {i : Nat} {v : Val}, i < E.length → get (E.set i (some v)) i = some v
  | [], _, _, h => by simp at h
  | e :: E, 0, v, _ => rfl
  | e :: E, i + 1, v, h => by
    show get (E.set i (some v)) i = some v
    exact get_set (by simpa using h)
theorem extA_pre {A A' : List (List Addr)} (h : A'.take A.length = A) : ExtA A A' := fun j l hl => by
  have hj := (List.getElem?_eq_some_iff.mp hl).1
  rw [← h, List.getElem?_take_of_lt hj] at hl
  exact hl
section
variable {X : Cx} {g : Gh} {xa : Str → Addr} {k l : Nat} {i : Nat} {js : List Nat} {body : List Stmt} {Tb : (Str → List DO → Prop) → TDS} {np p1 p2 p3 p4 pos pos' : Pos}
theorem ds_tryRef (hs : X.stack = X.env :: X.outer) (hf : X.env.frame = some X.env.locals) (hN : X.N.Nodup) (hi : X.N[i]? = some ("e" : Str)) (hln : X.env.kindOf "e" = some .local) (hg : Gl X "LaneError") (hm : X.mg "LaneError" = some (.ref (xa "LaneError"))) (hg2 : Gl X "_law_refusal") (hr : Room k X.A) (hl : l ≤ k)
    (hk : ∀ j ∈ js, j < 14 ∧ PySem.W.exmOne X.K (.ref (xa (nameI j))) (.ref (xa "LaneError")) = some true) (hd : ∀ j ∈ js, ∀ p, ExcAt (xa (nameI j)) p → DefOkE X.prog X.w X.K X.mg X.base xa p "_law_refusal" l ["e"] (F_l_refusal p.1 j))
    (hb : ∀ (g' : Gh) (Wd : Str → List DO → Prop) (pn : List (Addr × Obj)) (xe : Value → Shared → Prop), TakesD (X.tr pn xe) g' xa Wd → PassesOwn (model X.prog X.w) X.A X.env xe → DSs (X.tr pn xe) g' body (Tb Wd)) :
    DS X g (.Try body [.ExceptHandler (some (.Name "LaneError" np)) (some "e") [.Return (some (.Call (.Name "_law_refusal" p1) [.Name "e" p2] [] p3)) p4] pos'] [] [] pos) (sTryRef js Tb) := by
  refine PSm (L2N.ps_try_as (i := i) (c := .ref (xa "LaneError")) (Wout := fun _ _ _ _ => False)
    (tb := fun W D σ H => ∃ g' Wd', (∀ c d σ' H', σ'.length = X.N.length → wishD X.K g' xa Wd' c d σ' H' → W c d σ' H') ∧ liftS X.K g' (Tb Wd') D σ H)
    (ts := fun a c d D σ H => ∃ g' j, j ∈ js ∧ c = .ref (xa (nameI j)) ∧ d = none ∧ liftS X.K g' (sRet (dCall (F_l_refusal a j) (fun _ _ => False) (daCons (dVar i) daNil))) D σ H)
    hs hf hN hi hln ⟨hg, by decide, .inl hm⟩ takes0N (fun W pn xe tk po => ⟨fun pins s σ H D I ⟨g', Wd', imp, q⟩ => (hb g' Wd' pn xe (takes_len tk imp) po).run pins s σ H D I q⟩) (fun a oe cls d pn hz ⟨vs, hv⟩ => ⟨fun pins s σ H D I ⟨g', j, hj, ec, ed, q⟩ => ?_⟩)) fun D σ H ⟨E, M, R, A, De, ok, h, k1, k2, k3, k4⟩ => ?_
  · subst ec ed
    have z : ExcAt (xa (nameI j)) (a, oe) := ⟨hz.zc, vs, hv⟩
    have hc : HotP (X.suite a ((a, oe) :: pn)) (a, oe) := ⟨⟨rfl, vs, hv, hz.2.2 vs hv⟩, List.mem_cons_self⟩
    have hr' : RoomH k (X.suite a ((a, oe) :: pn)).A := ⟨hr.dp, hr.un⟩
    have dc := dcallE (X := X.suite a ((a, oe) :: pn)) (g := g') (q := p1) (pos := p3) (hd j hj (a, oe) z) hr' hl hc (da_cons (de_var (X := X.suite a ((a, oe) :: pn)) (g := g') (i := i) (pos := p2) hi (.inl hln)) da_nil) hg2
    exact (dss_one (ds_ret (pos := p4) dc)).run pins s σ H D I q
  · refine ⟨⟨H, R, A⟩, fun n M' => ∃ j, j ∈ js ∧ n = nameI j ∧ De.rt (.d (.str (wordI j))) M', fun c d σ' H' hlen ⟨n, E', M', R', A', e1, e2, ok', j, hj, e3, q⟩ => ?_, E, M, R, A, De, ok.here, h, fun E' M' σ' H' R' A' q ok' s' x' => k1 _ _ _ _ _ _ q (ok.back ok') s' x', fun v M' x E' σ' H' R' A' q ok' s' x' r' => k2 _ _ _ _ _ _ _ _ q (ok.back ok') s' x' r', fun E' M' σ' H' R' A' q ok' s' x' => k3 _ _ _ _ _ _ q (ok.back ok') s' x', fun E' M' σ' H' R' A' q ok' s' x' => k4 _ _ _ _ _ _ q (ok.back ok') s' x'⟩
    subst e1 e2 e3
    obtain ⟨j14, hk⟩ := hk j hj
    have hlt : i < E'.length := by
      rw [ok'.slots.length, hlen]
      exact (List.getElem?_eq_some_iff.mp hi).1
    refine ⟨true, hk, fun _ a ha => ⟨⟨H, R, A⟩, j, hj, rfl, rfl, E'.set i (some (.d (.ob a))), M', R', A', { nx := fun _ _ => False, rt := De.rt }, ok'.setSlot (v := .d (.ob a)) (y := .ref a) rfl i, ?_, fun _ _ _ _ _ _ q => q.elim, fun v M2 x E2 σ2 H2 R2 A2 q2 ok2 s2 x2 r2 => ?_, fun _ _ _ _ _ _ q => q.elim, fun _ _ _ _ _ _ q => q.elim⟩, fun q => nomatch q⟩
    · unfold sRet dCall daCons dVar
      rw [get_set hlt]
      exact ⟨rfl, j14, q⟩
    · exact k2 _ _ _ _ _ _ _ _ q2 (ok.back ok2) ok2.sub0 (extA_pre ok2.pre) r2
end
end DL

end
section

namespace DL
open PySem L2 PyProof.Rows MX
local macro_rules | `(tactic| walk_at "w") => `(tactic| ((conv => whnf); repeat (first | (refine br_t rfl ?_; conv => whnf) | (refine br_f rfl ?_; conv => whnf))))
local macro_rules | `(tactic| walk_at "g") => `(tactic| (walk_at "w"; repeat (refine ⟨rfl, ?_⟩; walk_at "w")))
local macro_rules | `(tactic| walk_at "h") => `(tactic| (walk_at "w"; repeat (first | (refine ⟨rfl, ?_⟩; walk_at "w") | (refine ⟨List.getElem?_concat_length, ?_⟩; walk_at "w"))))
/-! ### orders -/
def strL : List D → Option (List Str)
  | [] => some []
  | .str s :: r => match strL r with | some o => some (s :: o) | none => none
  | _ => none
def isOrdD (F : List Fk) (d : D) : Bool := match d with
  | .tup xs => (match strL xs with | some o => decide (o.Perm (nmsF F)) | none => false)
  | _ => false
/-- what may be asked as an order -/
def okO (d : D) : Prop := (tyN d).isSome = true ∧ ∀ xs, d = .tup xs → xs.length ≤ 1000 ∧ (∀ x ∈ xs, (tyN x).isSome = true) ∧ ∀ o, strL xs = some o → ∀ s ∈ o, PyData.strOk s = true
def F_is_order : PSp := fun ds Q _ => ∃ L F d, ds = [encFs F, d] ∧ LanesV L ∧ FolkV L F ∧ okO d ∧ Q (.bl (isOrdD F d))
def F_need_order : PSp := fun ds Q E => ∃ d e x, ds = [d, e, x] ∧ okO x ∧ askF d e E fun L F => (isOrdD F x = true → Q .non) ∧ (isOrdD F x = false → E "NoOrder")
def F_plan_by : PSp := fun ds Q E => ∃ d e x, ds = [d, e, x] ∧ okO x ∧ askF d e E fun L F => (isOrdD F x = false → E "NoOrder") ∧ ∀ o, x = encO o → o.Perm (nmsF F) → Q (encP (planO L F o))
def homeO (L : List Ln) (F : List Fk) (o : List Str) (f : Fk) : Int := hP L (f, tkP F (planO L F o) f)
def F_home_order : PSp := fun ds Q E => ∃ d e x, ds = [d, e, x] ∧ okO x ∧ askF d e E fun L F => (isOrdD F x = false → E "NoOrder") ∧ ∀ o, x = encO o → o.Perm (nmsF F) → Q (.lst (F.map fun f => .tup [.str f.nm, .int (homeO L F o f)]))
/-- is_order: folk thing one name -/
def t_is_order (Wd : Str → List DO → Prop) : TDS :=
  sSeq (sIf (dOr (dNot (dB (dIsi DL.isTup (dVar 1)))) (dNot (dB (dCB dAll (daCons (dComp (iSeq (dVar 1)) (gN 3) (dYes) (dIsi DL.isStr (dVar 3)) [3]) (daNil)))))) (sRet (dC (.bl false))) (sNext)) (sRet (dOp dEq (dCB dSortA (daCons (dVar 1) (daNil))) (dComp (iSeq (dVar 0)) (gN 2) (dYes) (dOp dIx (dVar 2) (dC (.int 0))) [2])))
/-- need_order: lanes folk order -/
def t_need_order (Wd : Str → List DO → Prop) : TDS :=
  sSeq (sExpr (dCall F_need_folk Wd (daCons (dVar 0) (daCons (dVar 1) (daNil))))) (sIf (dNot (dB (dCall F_is_order Wd (daCons (dVar 1) (daCons (dVar 2) (daNil)))))) (sRaise Wd "NoOrder") (sNext))
/-- plan_by: lanes folk order -/
def t_plan_by (Wd : Str → List DO → Prop) : TDS :=
  sSeq (sExpr (dCall F_need_order Wd (daCons (dVar 0) (daCons (dVar 1) (daCons (dVar 2) (daNil)))))) (sRet (dCall F_plan_of Wd (daCons (dVar 0) (daCons (dVar 1) (daCons (dVar 2) (daNil))))))
/-- home_order: lanes folk order found one -/
def t_home_order (Wd : Str → List DO → Prop) : TDS :=
  sSeq (sExpr (dCall F_need_order Wd (daCons (dVar 0) (daCons (dVar 1) (daCons (dVar 2) (daNil)))))) (sSeq (sSet 3 (dCall F_home_ticks Wd (daCons (dVar 0) (daCons (dVar 1) (daCons (dVar 2) (daNil)))))) (sRet (dComp (iSeq (dVar 1)) (gN 4) (dYes) (dTup (daCons (dOp dIx (dVar 4) (dC (.int 0))) (daCons (dOp dIx (dVar 3) (dOp dIx (dVar 4) (dC (.int 0)))) (daNil)))) [4])))
theorem strL_map : ∀ o : List Str, strL (o.map .str) = some o
  | [] => rfl
  | s :: o => by rw [List.map_cons, strL, strL_map o]
theorem strL_some : ∀ {xs : List D} {o : List Str}, strL xs = some o → xs = o.map .str
  | [], o, h => by cases h; rfl
  | x :: xs, o, h => by
    cases x with
    | str s =>
      rw [strL] at h
      cases e : strL xs with
      | none => rw [e] at h; cases h
      | some o' => rw [e] at h; cases h; rw [strL_some e]; rfl
    | _ => cases h
theorem strL_all : ∀ xs : List D, xs.all isStr = (strL xs).isSome
  | [] => rfl
  | x :: xs => by
    rw [List.all_cons, strL_all xs]
    cases x with
    | str s => rw [strL]; cases strL xs <;> rfl
    | _ => rfl
theorem isOrd_o {F : List Fk} {o : List Str} (h : o.Perm (nmsF F)) : isOrdD F (encO o) = true := by
  show (match strL (o.map .str) with | some o => decide (o.Perm (nmsF F)) | none => false) = true
  rw [strL_map]
  exact decide_eq_true h
theorem isOrd_of {F : List Fk} {d : D} (h : isOrdD F d = true) : ∃ o, d = encO o ∧ o.Perm (nmsF F) := by
  unfold isOrdD at h
  split at h
  · rename_i xs
    split at h
    · rename_i o e
      exact ⟨o, by rw [strL_some e]; rfl, of_decide_eq_true h⟩
    · cases h
  · cases h
theorem leS (a b : Str) : leD (.str a) (.str b) = !decide (b.cps.toList < a.cps.toList) := by
  rw [leD_eq, toks_s, toks_s, PyProof.Rows.lex_cons (O := PyProof.Rows.itemOrd)]
  show (!(decide (b.cps.toList < a.cps.toList) || (!decide (a.cps.toList < b.cps.toList) && PyProof.Rows.lexLt PyProof.Rows.itemOrd [] []))) = _
  rw [show PyProof.Rows.lexLt PyProof.Rows.itemOrd [] [] = false from rfl, Bool.and_false, Bool.or_false]
/-- the sorted texts are the names just if they are the names in some order -/
theorem sort_names {F : List Fk} {o : List Str} (hs : F.Pairwise fun a b => a.nm.cps.toList < b.nm.cps.toList) : eqD (.lst (sortD (o.map .str))) (.lst ((nmsF F).map .str)) = decide (o.Perm (nmsF F)) := by
  have hn : ∀ xs : List Str, nb (.lst (xs.map .str)) = true := fun xs => nbs_map _ _ fun _ _ => rfl
  rw [sortD_map, eqD_dec (hn _) (hn _)]
  refine decide_eq_decide.mpr ⟨fun h => ?_, fun h => ?_⟩
  · have e := inj_map (f := D.str) (fun _ _ q => by injection q) (by injection h)
    rw [← e]
    exact (List.mergeSort_perm _ _).symm
  · have p : (o.mergeSort fun a b => leD (.str a) (.str b)).Perm (nmsF F) := (List.mergeSort_perm _ _).trans h
    have hs' : (nmsF F).Pairwise fun a b => leD (.str a) (.str b) = true := List.pairwise_map.mpr (hs.imp fun {a b} q => by
      rw [leS, decide_eq_false (fun z => absurd (List.lt_trans q z) (List.lt_irrefl _))]; rfl)
    rw [List.Perm.eq_of_pairwise (fun a b _ _ h1 h2 => ?_) (sort_pw D.str o) hs' p]
    rw [leS] at h1 h2
    exact str_ext (lts_total (by simpa using h2) (by simpa using h1))
theorem w_is_order : WPP 4 t_is_order F_is_order := by
  rintro _ Q E ⟨L, F, d, rfl, v, fv, ⟨ht, hO⟩, q⟩
  have e : ∀ c : Bool, isOrdD F d = c → Q (.bl c) := fun c h => h ▸ q
  have hF := fv.hi
  walk_at "w"
  refine ⟨ht, br_of (fun h => ?_) (fun h => ?_)⟩ <;> walk_at "w"
  · refine e _ ?_
    cases d <;> first | rfl | (cases h; done)
  · cases d <;> first | (cases h; done) | skip
    rename_i xs
    obtain ⟨h1, h2, h3⟩ := hO xs rfl
    walk_at "w"
    refine dLC_self (fun x => .bl (isStr x)) trivial xs (small_len h1) (fun x hx Y N h => ?_) ?_
    · walk_at "w"
      exact ⟨h2 x hx, h⟩
    walk_at "w"
    rw [blsD_map]
    walk_at "w"
    rw [all_id_map, strL_all]
    refine br_of (fun g => ?_) (fun g => ?_)
    · have g : strL xs = none := by simpa using g
      walk_at "w"
      refine e _ ?_
      show (match strL xs with | some o => decide (o.Perm (nmsF F)) | none => false) = false
      rw [g]
    · obtain ⟨o, eo⟩ : ∃ o, strL xs = some o := Option.isSome_iff_exists.mp (by simpa using g)
      have ho := h3 o eo
      have exs := strL_some eo
      subst exs
      rw [List.length_map] at h1
      walk_at "w"
      have A := sort_args D.str o ho (fun _ _ _ _ => rfl) (.inr fun d hd => ?_) (fun _ _ => Nat.zero_le _)
      refine ⟨A.1, A.2.1, A.2.2, ?_⟩
      walk_at "w"
      refine dLC_map encFk (fun f => .str f.nm) trivial F (small_len (by omega)) (fun f hf Y N h => ?_) ?_
      · walk_at "w"
        exact h
      walk_at "w"
      rw [show F.map (fun f => D.str f.nm) = (nmsF F).map .str from by unfold nmsF; rw [List.map_map]; rfl]
      refine ⟨?_, okD_strs fun x hx => ?_, ?_⟩
      · rw [sortD_map]
        exact okD_strs fun x hx => ho x ((List.mergeSort_perm _ _).mem_iff.mp hx)
      · obtain ⟨f, hf, rfl⟩ := List.mem_map.mp hx
        exact name_ok (fv.one f hf).nm
      walk_at "w"
      rw [sort_names (sortedF_pw fv.srt)]
      refine e _ ?_
      show (match strL (o.map .str) with | some o => decide (o.Perm (nmsF F)) | none => false) = _
      rw [strL_map]
      rw [pys_map, List.map_map] at hd
      obtain ⟨x, hx, rfl⟩ := List.mem_map.mp hd
      exact ⟨(fun z => nomatch z), fun xs z => nomatch z⟩
theorem w_need_order : WPP 3 t_need_order F_need_order := by
  rintro _ Q E ⟨d, e, x, rfl, hx, q⟩
  walk_at "w"
  refine ask_use q (fun h => h) (fun h => h) fun L F hd he v fv k => ?_
  subst hd he
  obtain ⟨k1, k2⟩ := k
  walk_at "w"
  refine ⟨L, F, x, rfl, v, fv, hx, ?_⟩
  walk_at "w"
  refine br_of (fun h => ?_) (fun h => ?_)
  · exact k2 (by simpa using h)
  · exact k1 (by simpa using h)
theorem askF_mono {d e : D} {E E' : Str → Prop} {K K' : List Ln → List Fk → Prop} (h : askF d e E K) (hE : ∀ n, E n → E' n) (hK : ∀ L F, LanesV L → FolkV L F → K L F → K' L F) : askF d e E' K' :=
  ⟨h.1, h.2.1, fun z => hE _ (h.2.2.1 z), fun L e1 v => ⟨fun z => hE _ ((h.2.2.2 L e1 v).1 z), fun F e2 f => hK L F v f ((h.2.2.2 L e1 v).2 F e2 f)⟩⟩
/-- asked once more, of the same -/
theorem askF_at {L : List Ln} {F : List Fk} {E : Str → Prop} {K : List Ln → List Fk → Prop} (v : LanesV L) (f : FolkV L F) (h : askF (encLs L) (encFs F) E K) : K L F := (h.2.2.2 L rfl v).2 F rfl f
theorem w_plan_by : WPP 3 t_plan_by F_plan_by := by
  rintro _ Q E ⟨d, e, x, rfl, hx, q⟩
  walk_at "w"
  refine ⟨d, e, x, rfl, hx, q.1, q.2.1, q.2.2.1, fun L hL v => ⟨(q.2.2.2 L hL v).1, fun F hF fv => ?_⟩⟩
  obtain ⟨k1, k2⟩ := (q.2.2.2 L hL v).2 F hF fv
  subst hL hF
  refine ⟨fun h => ?_, k1⟩
  obtain ⟨o, rfl, p⟩ := isOrd_of h
  walk_at "w"
  exact ⟨L, F, o, rfl, ⟨v, fv.hi, fv.one, fv.nd, p⟩, k2 o rfl p⟩
theorem w_home_order : WPP 5 t_home_order F_home_order := by
  rintro _ Q E ⟨d, e, x, rfl, hx, q⟩
  walk_at "w"
  refine ⟨d, e, x, rfl, hx, q.1, q.2.1, q.2.2.1, fun L hL v => ⟨(q.2.2.2 L hL v).1, fun F hF fv => ?_⟩⟩
  obtain ⟨k1, k2⟩ := (q.2.2.2 L hL v).2 F hF fv
  subst hL hF
  refine ⟨fun h => ?_, k1⟩
  obtain ⟨o, rfl, p⟩ := isOrd_of h
  have hF := fv.hi
  walk_at "w"
  have hO : OrdV L F o := ⟨v, fv.hi, fv.one, fv.nd, p⟩
  refine ⟨L, F, o, rfl, hO, ?_⟩
  walk_at "w"
  refine dLC_map encFk (fun f => .tup [.str f.nm, .int (homeO L F o f)]) trivial F (small_len (by omega)) (fun f hf Y N h => ?_) ?_
  · walk_at "w"
    rw [look_homes fv.nd (show (planO L F o).length = F.length from planR_len _ _ _ _) hf]
    walk_at "w"
    exact ⟨(by decide : 2 ≤ sizeLine), h⟩
  exact k2 o rfl p
end DL

end
section

namespace DL
open PySem L2 PyProof.Rows MX
local macro_rules | `(tactic| walk_at "w") => `(tactic| ((conv => whnf); repeat (first | (refine br_t rfl ?_; conv => whnf) | (refine br_f rfl ?_; conv => whnf))))
local macro_rules | `(tactic| walk_at "g") => `(tactic| (walk_at "w"; repeat (refine ⟨rfl, ?_⟩; walk_at "w")))
local macro_rules | `(tactic| walk_at "h") => `(tactic| (walk_at "w"; repeat (first | (refine ⟨rfl, ?_⟩; walk_at "w") | (refine ⟨List.getElem?_concat_length, ?_⟩; walk_at "w"))))
/-! ### runs that are alike -/
section
variable {G : Net Str} {cs ns : List Str}
theorem went_w {t : Int} {σ : Str → PS Str} : ∀ {ns : List Str} {lf lf' : Str → Int}, (∀ x ∈ cs, lf x = lf' x) → (∀ n ∈ ns, (σ n).cr ∈ cs ∨ (σ n).cr = G.home) → went G t ns lf σ = went G t ns lf' σ
  | [], _, _, _, _ => rfl
  | n :: ns, lf, lf', h, hc => by
    have hc' : ∀ m ∈ ns, (σ m).cr ∈ cs ∨ (σ m).cr = G.home := fun m hm => hc m (List.mem_cons_of_mem _ hm)
    rw [went, went]
    by_cases hw : waits G t (σ n) = true
    · have hx : (σ n).cr ∈ cs := (hc n List.mem_cons_self).resolve_right (by unfold waits at hw; simp at hw; exact hw.1)
      rw [h _ hx, went_w (lf := lf) (lf' := lf') h hc', went_w (lf := updF lf (σ n).cr (lf' (σ n).cr - 1)) (lf' := updF lf' (σ n).cr (lf' (σ n).cr - 1)) (fun x hx => by unfold updF; split; rfl; exact h x hx) hc']
    · rw [if_neg (fun q => hw q.1), if_neg (fun q => hw q.1), went_w h hc']
theorem after_congr {t : Int} {ws : List Str} {σ τ : Str → PS Str} {n : Str} (h : σ n = τ n) : after G t ws σ n = after G t ws τ n := by unfold after; rw [h]
/-- the same widths, orders, starts: the same run -/
theorem rn_alike {st st' : Str → Str × Int} {w w' : Nat → Str → Int} {ord ord' : Nat → List Str} (S : Runs G cs ns st w ord) (hw : ∀ t, ∀ x ∈ cs, w t x = w' t x) (ho : ∀ t, ord t = ord' t) (hs : ∀ n ∈ ns, st n = st' n) : ∀ t : Nat, ∀ n ∈ ns, rn G w ord st t n = rn G w' ord' st' t n
  | 0, n, hn => by show startS st n = startS st' n; unfold startS; rw [hs n hn]
  | t + 1, n, hn => by
    have ih := rn_alike S hw ho hs t
    show pass G t (ord t) (w t) (rn G w ord st t) n = pass G t (ord' t) (w' t) (rn G w' ord' st' t) n
    rw [← ho t, pass_eq (S.on t), pass_eq (S.on t), went_w (cs := cs) (hw t) (fun m hm => (at_run S t m ((S.pm t).mem_iff.mp hm)).cr), went_congr (σ := rn G w ord st t) (τ := rn G w' ord' st' t) fun m hm => ih m ((S.pm t).mem_iff.mp hm)]
    exact after_congr (ih n hn)
end
theorem ordR_one (o : List Str) (t : Nat) : ordR [o] t = o := by unfold ordR; simp [Nat.mod_one]
/-- one order all along, nobody held back -/
theorem planR_one {L : List Ln} {F : List Fk} {o : List Str} (h : OrdV L F o) : planR L F (wH L []) (ordR [o]) = planO L F o := by
  unfold planO planR
  refine List.map_congr_left fun f hf => ?_
  have e := rn_alike h.run.runs (w' := wH L []) (ord' := ordR [o]) (st' := stF F) (fun t x hx => (wH_nil h.v t x hx).symm) (fun t => (ordR_one o t).symm) (fun _ _ => rfl) 6000 f.nm (List.mem_map.mpr ⟨f, hf, rfl⟩)
  unfold finS
  rw [← e]
theorem OrdV.runA {L : List Ln} {F : List Fk} {o : List Str} (h : OrdV L F o) : RunA L F [o] [] := ⟨h.v, h.hi, h.one, h.nd, by simp, by simp, fun o' ho => by simp at ho; subst ho; exact h.pm, by simp, by simp⟩
/-- the first of an order -/
def firstF (F : List Fk) (a : List Str) : List Fk := F.filter fun f => decide (f.nm ∈ a)
theorem firstF_sub (F : List Fk) (a : List Str) : (firstF F a).Sublist F := List.filter_sublist
theorem firstF_nms {F : List Fk} {a b : List Str} (nd : (F.map Fk.nm).Nodup) (h : (a ++ b).Perm (nmsF F)) : a.Perm (nmsF (firstF F a)) := by
  have hn : (a ++ b).Nodup := h.nodup_iff.mpr nd
  have e : nmsF (firstF F a) = (nmsF F).filter fun n => decide (n ∈ a) := by
    unfold nmsF firstF
    rw [List.filter_map]
    rfl
  rw [e]
  have p := h.filter fun n => decide (n ∈ a)
  refine List.Perm.trans ?_ p
  have e1 : (a ++ b).filter (fun n => decide (n ∈ a)) = a := by
    rw [List.filter_append, List.filter_eq_self.mpr (fun x hx => by simpa using hx), List.filter_eq_nil_iff.mpr (fun x hx => ?_), List.append_nil]
    have := (List.nodup_append.mp hn).2.2
    simp
    intro hxa
    exact this x hxa x hx rfl
  rw [e1]
theorem OrdV.first {L : List Ln} {F : List Fk} {a b : List Str} (h : OrdV L F (a ++ b)) : OrdV L (firstF F a) a where
  v := h.v
  hi := Nat.le_trans (firstF_sub F a).length_le h.hi
  one := fun f hf => h.one f ((firstF_sub F a).subset hf)
  nd := h.nd.sublist ((firstF_sub F a).map _)
  pm := firstF_nms h.nd h.pm
/-- the first of an order go as if they were alone -/
theorem alone_fin {L : List Ln} {F : List Fk} {a b : List Str} (h : OrdV L F (a ++ b)) {f : Fk} (hf : f ∈ firstF F a) : finS L (firstF F a) (w0 L) (fun _ => a) f.nm = finS L F (w0 L) (fun _ => a ++ b) f.nm := by
  have hn : (a ++ b).Nodup := h.pm.nodup_iff.mpr h.nd
  have hm : f.nm ∈ a := by have := (List.mem_filter.mp hf).2; simpa using this
  unfold finS
  rw [alone hn 6000 f.nm hm]
  refine rn_alike h.first.run.runs (fun _ _ _ => rfl) (fun _ => rfl) (fun n hn => ?_) 6000 f.nm (List.mem_map.mpr ⟨f, hf, rfl⟩)
  obtain ⟨g, hg, rfl⟩ := List.mem_map.mp hn
  rw [stF_mem h.first.nd hg, stF_mem h.nd ((firstF_sub F a).subset hg)]
theorem tk_plan {L : List Ln} {F : List Fk} {o : List Str} (nd : (F.map Fk.nm).Nodup) {f : Fk} (hf : f ∈ F) : tkP F (planO L F o) f = (finS L F (w0 L) (fun _ => o) f.nm).rw.map Row.g := by
  have hz : (f, (finS L F (w0 L) (fun _ => o) f.nm).rw.map Row.g) ∈ F.zip (planO L F o) := by
    unfold planO
    rw [RunV.zip]
    exact List.mem_map.mpr ⟨f, hf, rfl⟩
  exact tk_zip nd (planR_len _ _ _ _) hz
theorem alone_tk {L : List Ln} {F : List Fk} {a b : List Str} (h : OrdV L F (a ++ b)) {f : Fk} (hf : f ∈ firstF F a) : tkP (firstF F a) (planO L (firstF F a) a) f = tkP F (planO L F (a ++ b)) f := by
  rw [tk_plan h.first.nd hf, tk_plan h.nd ((firstF_sub F a).subset hf), alone_fin h hf]
theorem plan_tk {L : List Ln} {F : List Fk} {o : List Str} (nd : (F.map Fk.nm).Nodup) : planO L F o = F.map (tkP F (planO L F o)) := by
  have e : planO L F o = F.map fun f => (finS L F (w0 L) (fun _ => o) f.nm).rw.map Row.g := rfl
  rw [e]
  refine List.map_congr_left fun f hf => ?_
  rw [← e, tk_plan nd hf]
theorem alone_plan {L : List Ln} {F : List Fk} {a b : List Str} (h : OrdV L F (a ++ b)) : planO L (firstF F a) a = (firstF F a).map (tkP F (planO L F (a ++ b))) := by
  rw [plan_tk h.first.nd]
  exact List.map_congr_left fun f hf => alone_tk h hf
end DL

end
section

namespace DL
open PySem L2 PyProof.Rows MX
local macro_rules | `(tactic| walk_at "w") => `(tactic| ((conv => whnf); repeat (first | (refine br_t rfl ?_; conv => whnf) | (refine br_f rfl ?_; conv => whnf))))
local macro_rules | `(tactic| walk_at "g") => `(tactic| (walk_at "w"; repeat (refine ⟨rfl, ?_⟩; walk_at "w")))
local macro_rules | `(tactic| walk_at "h") => `(tactic| (walk_at "w"; repeat (first | (refine ⟨rfl, ?_⟩; walk_at "w") | (refine ⟨List.getElem?_concat_length, ?_⟩; walk_at "w"))))
def jsL : List Nat := [0, 1, 3]
/-- a refusal's word -/
def refQ (js : List Nat) (Q : D → Prop) (n : Str) : Prop := ∃ j, j ∈ js ∧ n = nameI j ∧ Q (.str (wordI j))
def F_l_asked31 : PSp := fun ds Q _ => ∃ (way : Int) (d e x : D), ds = [.int way, d, e, x] ∧ okO x ∧ askF d e (refQ jsL Q) fun _ F => isOrdD F x = false ∧ refQ jsL Q "NoOrder"
/-- law_asked: way lanes folk order e -/
def t_l_asked31 (Wd : Str → List DO → Prop) : TDS :=
  sTryRef jsL (fun Wd => sRet (dIf (dB (dOp dEq (dVar 0) (dC (.int 0)))) (dCall F_plan_by Wd (daCons (dVar 1) (daCons (dVar 2) (daCons (dVar 3) (daNil))))) (dCall F_home_order Wd (daCons (dVar 1) (daCons (dVar 2) (daCons (dVar 3) (daNil)))))))
/-- law: script k well lanes folk order plan homes any_so others many some alone tick here odd way one ticks -/
def t_law_k31 (Wd : Str → List DO → Prop) : TDS :=
  sSeq (sFor (iRange1 (daCons (dCB dMax (daCons (dC (.int 5)) (daCons (dCB dMin (daCons (dC (.int 24)) (daCons (dCB dLen (daCons (dVar 0) (daNil))) (daNil)))) (daNil)))) (daNil))) (gN 1) (sSeq (sSet 2 (dCallN F_l_well Wd (daCons (dVar 0) (daCons (dVar 1) (daNil))))) (sSeq (sSet 3 (dCallW F_l_lanes Wd (daCons (dVar 2) (daCons (dC (.int 8)) (daNil))))) (sSeq (sSet 4 (dCallW F_l_folk Wd (daCons (dVar 2) (daCons (dVar 3) (daCons (dC (.int 10)) (daNil)))))) (sSeq (sSet 5 (dCallW F_l_drawn_order Wd (daCons (dVar 2) (daCons (dVar 4) (daNil))))) (sSeq (sSet 6 (dCall F_plan_by Wd (daCons (dVar 3) (daCons (dVar 4) (daCons (dVar 5) (daNil)))))) (sSeq (sIf (dOr (dB (dOp dNe (dVar 6) (dCall F_l_run Wd (daCons (dVar 3) (daCons (dVar 4) (daCons (dLst (daCons (dVar 5) (daNil))) (daCons (dLst (daNil)) (daNil)))))))) (dB (dOp dNotB (dCall F_is_plan Wd (daCons (dVar 3) (daCons (dVar 4) (daCons (dVar 6) (daNil))))) (dC (.bl true))))) (sRet (dC (.bl false))) (sNext)) (sSeq (sSet 7 (dCall F_l_homes Wd (daCons (dVar 3) (daCons (dVar 4) (daCons (dVar 6) (daNil)))))) (sSeq (sIf (dB (dOp dNe (dCall F_home_order Wd (daCons (dVar 3) (daCons (dVar 4) (daCons (dVar 5) (daNil))))) (dComp (iSeq (dVar 4)) (gN 17) (dYes) (dTup (daCons (dOp dIx (dVar 17) (dC (.int 0))) (daCons (dOp dIx (dVar 7) (dOp dIx (dVar 17) (dC (.int 0)))) (daNil)))) [17]))) (sRet (dC (.bl false))) (sNext)) (sSeq (sSet 8 (dCallW F_l_any_plan Wd (daCons (dVar 2) (daCons (dVar 3) (daCons (dVar 4) (daNil)))))) (sSeq (sSet 9 (dCall F_l_homes Wd (daCons (dVar 3) (daCons (dVar 4) (daCons (dVar 8) (daNil)))))) (sSeq (sFor (iRange2 (daCons (dC (.int 1)) (daCons (dCB dLen (daCons (dVar 5) (daNil))) (daNil)))) (gN 10) (sSeq (sSet 11 (dCB dTuple (daCons (dComp (iSeq (dVar 4)) (gN 17) (dB (dOp dIn (dOp dIx (dVar 17) (dC (.int 0))) (dSlice (dVar 5) doNone (doSome (dVar 10))))) (dVar 17) [17]) (daNil)))) (sSeq (sSet 12 (dCall F_plan_by Wd (daCons (dVar 3) (daCons (dVar 11) (daCons (dSlice (dVar 5) doNone (doSome (dVar 10))) (daNil)))))) (sSeq (sIf (dB (dOp dNe (dVar 12) (dCB dTuple (daCons (dComp (iZip2 (daCons (dVar 4) (daCons (dVar 6) (daNil)))) (gT 2 (gsCons (gN 17) (gsCons (gN 18) (gsNil)))) (dB (dOp dIn (dOp dIx (dVar 17) (dC (.int 0))) (dSlice (dVar 5) doNone (doSome (dVar 10))))) (dVar 18) [17, 18]) (daNil))))) (sRet (dC (.bl false))) (sNext)) (sFor (iSeq (dSortSetI (dComp (iSeq (dVar 11)) (gN 17) (dYes) (dOp dIx (dVar 9) (dOp dIx (dVar 17) (dC (.int 0)))) [17]))) (gN 13) (sSeq (sSet 14 (dComp (iSeq (dVar 11)) (gN 17) (dB (dOp dLe (dOp dIx (dVar 7) (dOp dIx (dVar 17) (dC (.int 0)))) (dVar 13))) (dVar 17) [17])) (sIf (dB (dOp dLtA (dCB dLen (daCons (dVar 14) (daNil))) (dCB dLen (daCons (dComp (iSeq (dVar 11)) (gN 17) (dB (dOp dLe (dOp dIx (dVar 9) (dOp dIx (dVar 17) (dC (.int 0)))) (dVar 13))) (dVar 17) [17]) (daNil))))) (sRet (dC (.bl false))) (sNext)))))))) (sFor (iSeq (dLst (daCons (dC .non) (daCons (dCB dList (daCons (dVar 5) (daNil))) (daCons (dSlice (dVar 5) (doSome (dC (.int 1))) doNone) (daCons (dOp dAdd (dVar 5) (dSlice (dVar 5) doNone (doSome (dC (.int 1))))) (daCons (dOp dAdd (dSlice (dVar 5) doNone (doSome (dNeg (dC (.int 1))))) (dTup (daCons (dC (.str "zed")) (daNil)))) (daCons (dOp dMulT (dTup (daCons (dC (.int 7)) (daNil))) (dCB dLen (daCons (dVar 5) (daNil)))) (daNil))))))))) (gN 15) (sFor (iRange1 (daCons (dC (.int 2)) (daNil))) (gN 16) (sSeq (sIf (dOr (dB (dOp dNe (dCall F_l_asked31 Wd (daCons (dVar 16) (daCons (dVar 3) (daCons (dVar 4) (daCons (dVar 15) (daNil)))))) (dC (.str "order")))) (dB (dOp dNe (dCall F_l_asked31 Wd (daCons (dVar 16) (daCons (dVar 3) (daCons (dC .non) (daCons (dVar 15) (daNil)))))) (dC (.str "folk"))))) (sRet (dC (.bl false))) (sNext)) (sIf (dB (dOp dNe (dCall F_l_asked31 Wd (daCons (dVar 16) (daCons (dC .non) (daCons (dVar 4) (daCons (dVar 15) (daNil)))))) (dC (.str "lanes")))) (sRet (dC (.bl false))) (sNext))))))))))))))))) (sRet (dC (.bl true)))
theorem w_l_asked31 : WPP 5 t_l_asked31 F_l_asked31 := by
  rintro _ Q E ⟨way, d, e, x, rfl, hx, q⟩
  walk_at "w"
  refine ⟨rfl, rfl, ?_⟩
  rw [eqD_int]
  walk_at "w"
  refine br_of (fun _ => ?_) (fun _ => ?_) <;> walk_at "w"
  · exact ⟨d, e, x, rfl, hx, askF_mono q (fun _ h => h) fun L F v fv k => ⟨fun _ => k.2, fun o ho p => by rw [ho, isOrd_o p] at k; cases k.1⟩⟩
  · exact ⟨d, e, x, rfl, hx, askF_mono q (fun _ h => h) fun L F v fv k => ⟨fun _ => k.2, fun o ho p => by rw [ho, isOrd_o p] at k; cases k.1⟩⟩
abbrev r31m (Wd : Str → List DO → Prop) : TDS := (sFor (iRange2 (daCons (dC (.int 1)) (daCons (dCB dLen (daCons (dVar 5) (daNil))) (daNil)))) (gN 10) (sSeq (sSet 11 (dCB dTuple (daCons (dComp (iSeq (dVar 4)) (gN 17) (dB (dOp dIn (dOp dIx (dVar 17) (dC (.int 0))) (dSlice (dVar 5) doNone (doSome (dVar 10))))) (dVar 17) [17]) (daNil)))) (sSeq (sSet 12 (dCall F_plan_by Wd (daCons (dVar 3) (daCons (dVar 11) (daCons (dSlice (dVar 5) doNone (doSome (dVar 10))) (daNil)))))) (sSeq (sIf (dB (dOp dNe (dVar 12) (dCB dTuple (daCons (dComp (iZip2 (daCons (dVar 4) (daCons (dVar 6) (daNil)))) (gT 2 (gsCons (gN 17) (gsCons (gN 18) (gsNil)))) (dB (dOp dIn (dOp dIx (dVar 17) (dC (.int 0))) (dSlice (dVar 5) doNone (doSome (dVar 10))))) (dVar 18) [17, 18]) (daNil))))) (sRet (dC (.bl false))) (sNext)) (sFor (iSeq (dSortSetI (dComp (iSeq (dVar 11)) (gN 17) (dYes) (dOp dIx (dVar 9) (dOp dIx (dVar 17) (dC (.int 0)))) [17]))) (gN 13) (sSeq (sSet 14 (dComp (iSeq (dVar 11)) (gN 17) (dB (dOp dLe (dOp dIx (dVar 7) (dOp dIx (dVar 17) (dC (.int 0)))) (dVar 13))) (dVar 17) [17])) (sIf (dB (dOp dLtA (dCB dLen (daCons (dVar 14) (daNil))) (dCB dLen (daCons (dComp (iSeq (dVar 11)) (gN 17) (dB (dOp dLe (dOp dIx (dVar 9) (dOp dIx (dVar 17) (dC (.int 0)))) (dVar 13))) (dVar 17) [17]) (daNil))))) (sRet (dC (.bl false))) (sNext))))))))
abbrev r31t (Wd : Str → List DO → Prop) : TDS := (sFor (iSeq (dSortSetI (dComp (iSeq (dVar 11)) (gN 17) (dYes) (dOp dIx (dVar 9) (dOp dIx (dVar 17) (dC (.int 0)))) [17]))) (gN 13) (sSeq (sSet 14 (dComp (iSeq (dVar 11)) (gN 17) (dB (dOp dLe (dOp dIx (dVar 7) (dOp dIx (dVar 17) (dC (.int 0)))) (dVar 13))) (dVar 17) [17])) (sIf (dB (dOp dLtA (dCB dLen (daCons (dVar 14) (daNil))) (dCB dLen (daCons (dComp (iSeq (dVar 11)) (gN 17) (dB (dOp dLe (dOp dIx (dVar 9) (dOp dIx (dVar 17) (dC (.int 0)))) (dVar 13))) (dVar 17) [17]) (daNil))))) (sRet (dC (.bl false))) (sNext))))
abbrev r31o (Wd : Str → List DO → Prop) : TDS := (sFor (iSeq (dLst (daCons (dC .non) (daCons (dCB dList (daCons (dVar 5) (daNil))) (daCons (dSlice (dVar 5) (doSome (dC (.int 1))) doNone) (daCons (dOp dAdd (dVar 5) (dSlice (dVar 5) doNone (doSome (dC (.int 1))))) (daCons (dOp dAdd (dSlice (dVar 5) doNone (doSome (dNeg (dC (.int 1))))) (dTup (daCons (dC (.str "zed")) (daNil)))) (daCons (dOp dMulT (dTup (daCons (dC (.int 7)) (daNil))) (dCB dLen (daCons (dVar 5) (daNil)))) (daNil))))))))) (gN 15) (sFor (iRange1 (daCons (dC (.int 2)) (daNil))) (gN 16) (sSeq (sIf (dOr (dB (dOp dNe (dCall F_l_asked31 Wd (daCons (dVar 16) (daCons (dVar 3) (daCons (dVar 4) (daCons (dVar 15) (daNil)))))) (dC (.str "order")))) (dB (dOp dNe (dCall F_l_asked31 Wd (daCons (dVar 16) (daCons (dVar 3) (daCons (dC .non) (daCons (dVar 15) (daNil)))))) (dC (.str "folk"))))) (sRet (dC (.bl false))) (sNext)) (sIf (dB (dOp dNe (dCall F_l_asked31 Wd (daCons (dVar 16) (daCons (dC .non) (daCons (dVar 4) (daCons (dVar 15) (daNil)))))) (dC (.str "lanes")))) (sRet (dC (.bl false))) (sNext)))))
abbrev r31b (Wd : Str → List DO → Prop) : TDS := (sFor (iRange1 (daCons (dC (.int 2)) (daNil))) (gN 16) (sSeq (sIf (dOr (dB (dOp dNe (dCall F_l_asked31 Wd (daCons (dVar 16) (daCons (dVar 3) (daCons (dVar 4) (daCons (dVar 15) (daNil)))))) (dC (.str "order")))) (dB (dOp dNe (dCall F_l_asked31 Wd (daCons (dVar 16) (daCons (dVar 3) (daCons (dC .non) (daCons (dVar 15) (daNil)))))) (dC (.str "folk"))))) (sRet (dC (.bl false))) (sNext)) (sIf (dB (dOp dNe (dCall F_l_asked31 Wd (daCons (dVar 16) (daCons (dC .non) (daCons (dVar 4) (daCons (dVar 15) (daNil)))))) (dC (.str "lanes")))) (sRet (dC (.bl false))) (sNext))))
theorem flat_strs' (o : List Str) : (o.map D.str).all flatD = true := flat_strs o
theorem take_map_str (o : List Str) (k : Nat) : (o.map D.str).take k = (o.take k).map D.str := List.map_take.symm
theorem first_fm (F : List Fk) (a : List Str) : (F.filterMap fun f => if decide (f.nm ∈ a) = true then some (encFk f) else none) = (firstF F a).map encFk := by
  unfold firstF
  induction F with
  | nil => rfl
  | cons f F ih =>
    rw [List.filterMap_cons, List.filter_cons, ih]
    by_cases h : f.nm ∈ a
    · simp [h]
    · simp [h]
theorem first_tk {F : List Fk} {P : List (List Int)} (nd : (F.map Fk.nm).Nodup) (hl : P.length = F.length) (a : List Str) : ((F.zip P).filterMap fun p => if decide (p.1.nm ∈ a) = true then some (encTs p.2) else none) = ((firstF F a).map (tkP F P)).map encTs := by
  rw [zip_tk nd hl]
  unfold firstF
  generalize tkP F P = g
  clear nd hl
  induction F with
  | nil => rfl
  | cons f F ih =>
    rw [List.map_cons, List.filterMap_cons, List.filter_cons, ih]
    by_cases h : f.nm ∈ a
    · simp [h]
    · simp [h]
theorem eqD_self {d : D} (h : nb d = true) : eqD d d = true := (eqD_eq d d h h).mpr rfl
theorem nb_p (P : List (List Int)) : nb (encP P) = true := nbs_map _ _ fun ts _ => nbs_map _ _ fun _ _ => rfl
theorem lay_p (P : List (List Int)) : lay (encP P) = true := lays_map _ _ fun ts _ => lays_map _ _ fun _ _ => rfl
theorem okD_p (P : List (List Int)) : okD (encP P) = true := okD_of (lay_p P) (by
  have := deps_map encTs 1 P fun ts _ => by
    have := deps_map D.int 0 ts fun _ _ => Nat.le_refl 0
    show deps (ts.map D.int) + 1 ≤ 1
    omega
  show deps (P.map encTs) + 1 ≤ 64
  omega)
theorem okO_o {o : List Str} (h : ∀ s ∈ o, PyData.strOk s = true) (hl : o.length ≤ 1000) : okO (encO o) := ⟨rfl, fun xs e => by
  cases e
  refine ⟨by rw [List.length_map]; exact hl, fun x hx => ?_, fun o' e' s hs => ?_⟩
  · obtain ⟨s, _, rfl⟩ := List.mem_map.mp hx
    rfl
  · rw [strL_map] at e'
    cases e'
    exact h s hs⟩
theorem OrdV.strs {L : List Ln} {F : List Fk} {o : List Str} (h : OrdV L F o) : ∀ s ∈ o, PyData.strOk s = true := fun s hs => by
  obtain ⟨f, hf, rfl⟩ := List.mem_map.mp (h.pm.mem_iff.mp hs)
  exact name_ok (h.one f hf).nm
theorem OrdV.len {L : List Ln} {F : List Fk} {o : List Str} (h : OrdV L F o) : o.length = F.length := by rw [h.pm.length_eq, List.length_map]
theorem OrdV.okO {L : List Ln} {F : List Fk} {o : List Str} (h : OrdV L F o) : okO (encO o) := okO_o h.strs (by have := h.len; have := h.hi; omega)
/-- of no plan are more of the first home -/
theorem first_le {L : List Ln} {F : List Fk} {a b : List Str} {P : List (List Int)} (v : LanesV L) (fv : FolkV L F) (hO : OrdV L F (a ++ b)) (hP' : isPlanP L F P = true) (t : Int) :
    (firstF F a).countP (fun f => decide (hP L (f, tkP F P f) ≤ t)) ≤ (firstF F a).countP fun f => decide (homeO L F (a ++ b) f ≤ t) := by
  have h := lot_le v fv.one fv.nd hP' (firstF_sub F a) hO.first.run t
  have e1 : HH (lotP F P (firstF F a)) (hP L) t = (firstF F a).countP fun f => decide (hP L (f, tkP F P f) ≤ t) := by
    unfold HH lotP
    rw [List.countP_map]
    rfl
  have e2 : HH ((firstF F a).zip (planO L (firstF F a) a)) (hP L) t = (firstF F a).countP fun f => decide (homeO L F (a ++ b) f ≤ t) := by
    rw [zip_tk (P := planO L (firstF F a) a) hO.first.nd (planR_len _ _ _ _)]
    unfold HH
    rw [List.countP_map]
    refine List.countP_congr fun f hf => ?_
    show decide (hP L (f, tkP (firstF F a) (planO L (firstF F a) a) f) ≤ t) = true ↔ _
    rw [alone_tk hO hf]
    rfl
  rw [e1] at h
  have h : _ ≤ HH ((firstF F a).zip (planO L (firstF F a) a)) (hP L) t := h
  rw [e2] at h
  exact h
theorem k31_many {L : List Ln} {F : List Fk} {o : List Str} {P : List (List Int)} {De : DEnds} {Wd : Str → List DO → Prop} {M : List DO} (v : LanesV L) (fv : FolkV L F) (hO : OrdV L F o) (hP' : isPlanP L F P = true) (hB : ticksB P 6100) {a0 a1 a2 y8 y10 y11 y12 y13 y14 y15 y16 y17 y18 : Option Val}
    (q : ∀ y10 y11 y12 y13 y14 y17 y18, De.nx [a0, a1, a2, some (.d (encLs L)), some (.d (encFs F)), some (.d (encO o)), some (.d (encP (planO L F o))), some (.d (.dk (homesD L (F.zip (planO L F o))))), y8, some (.d (.dk (homesD L (F.zip P)))), y10, y11, y12, y13, y14, y15, y16, y17, y18] M) :
    r31m Wd De [a0, a1, a2, some (.d (encLs L)), some (.d (encFs F)), some (.d (encO o)), some (.d (encP (planO L F o))), some (.d (.dk (homesD L (F.zip (planO L F o))))), y8, some (.d (.dk (homesD L (F.zip P)))), y10, y11, y12, y13, y14, y15, y16, y17, y18] M := by
  have hF := fv.hi
  have pl := plan_parts hP'
  have lo : o.length = F.length := by have := hO.pm.length_eq; rw [this, List.length_map]
  walk_at "h"
  rw [List.length_map]
  refine ⟨⟨by omega, by omega, by omega, by omega⟩, ?_⟩
  refine loop_inv (fun i : Nat => .int ((1 : Int) + (i : Nat))) (fun E M' => M' = M ∧ ∃ y10 y11 y12 y13 y14 y17 y18, E = [a0, a1, a2, some (.d (encLs L)), some (.d (encFs F)), some (.d (encO o)), some (.d (encP (planO L F o))), some (.d (.dk (homesD L (F.zip (planO L F o))))), y8, some (.d (.dk (homesD L (F.zip P)))), y10, y11, y12, y13, y14, y15, y16, y17, y18]) (fun _ => trivial) _ _ _
    ⟨rfl, _, _, _, _, _, _, _, rfl⟩ (fun i hi E M' K hE hK => ?_) (fun E M' hE => by obtain ⟨rfl, _, _, _, _, _, _, _, rfl⟩ := hE; exact q _ _ _ _ _ _ _)
  obtain ⟨rfl, z10, z11, z12, z13, z14, z17, z18, rfl⟩ := hE
  have hi := List.mem_range.mp hi
  have e1 : (1 : Int) + (i : Nat) = ((i + 1 : Nat) : Int) := by omega
  rw [e1]
  have hlt : i + 1 ≤ o.length := by omega
  obtain ⟨a, b, ha, rfl⟩ : ∃ a b, a = o.take (i + 1) ∧ o = a ++ b := ⟨_, _, rfl, (List.take_append_drop _ _).symm⟩
  have hal : a.length = i + 1 := by
    have h := congrArg List.length ha
    rw [List.length_take] at h
    omega
  have hO' := hO.first
  have hSl := hO'.len
  have hS := firstF_sub F a
  have hne : firstF F a ≠ [] := fun z => by
    have h : (firstF F a).length = 0 := by rw [z]; rfl
    omega
  have sv := fv.sub hS hne
  have hsl := sv.hi
  have cut : cutD ((a ++ b).map D.str) none (some ((i + 1 : Nat) : Int)) = a.map .str := by
    rw [cut_take _ _ (by rw [List.length_map]; exact hlt), take_map_str, ← ha]
  walk_at "h"
  refine dLC_of encFk (fun f => if decide (f.nm ∈ a) = true then some (encFk f) else none) trivial F [] (small_len (by rw [List.length_nil]; omega)) (fun f hf Y N h => ?_) ?_
  · walk_at "h"
    rw [cut]
    refine ⟨flat_strs _, ?_⟩
    rw [inD_strs]
    walk_at "h"
    refine br_of (fun g => ?_) (fun g => ?_)
    · rw [if_pos g] at h
      walk_at "h"
      exact h
    · rw [if_neg (by rw [g]; simp)] at h
      exact h
  rw [List.nil_append, first_fm]
  walk_at "h"
  rw [cut]
  refine ⟨_, _, _, rfl, hO'.okO, ask_is v sv ⟨fun h => ?_, fun o' eo _ => ?_⟩⟩
  · exact absurd (isOrd_o hO'.pm) (by rw [show isOrdD (firstF F a) (encO a) = false from h]; simp)
  cases (inj_map (f := D.str) (fun _ _ q => by injection q) (by injection eo) : a = o')
  walk_at "h"
  rw [show pair2 (F.map encFk) ((planO L F (a ++ b)).map encTs) = _ from pair2_map _ _ _ _]
  refine dLC_of (fun p : FP => .tup [encFk p.1, encTs p.2]) (fun p => if decide (p.1.nm ∈ a) = true then some (encTs p.2) else none) ⟨trivial, trivial⟩ (F.zip (planO L F (a ++ b))) [] (small_len (by rw [List.length_zip, List.length_nil]; omega)) (fun p hp Y N h => ?_) ?_
  · walk_at "h"
    rw [cut]
    refine ⟨flat_strs _, ?_⟩
    rw [inD_strs]
    walk_at "h"
    refine br_of (fun g => ?_) (fun g => ?_)
    · rw [if_pos g] at h
      walk_at "h"
      exact h
    · rw [if_neg (by rw [g]; simp)] at h
      exact h
  rw [List.nil_append, first_tk (P := planO L F (a ++ b)) fv.nd (planR_len _ _ _ _), ← alone_plan hO]
  walk_at "h"
  refine ⟨okD_p _, okD_p _, ?_⟩
  rw [show eqD (encP (planO L (firstF F a) a)) (.tup ((planO L (firstF F a) a).map encTs)) = true from eqD_self (nb_p _)]
  walk_at "h"
  have lookP : ∀ f ∈ firstF F a, dlook (.dk (homesD L (F.zip P))) (.str f.nm) = some (some (.int (hP L (f, tkP F P f)))) := fun f hf => look_homes fv.nd pl.1 (hS.subset hf)
  have lookO : ∀ f ∈ firstF F a, dlook (.dk (homesD L (F.zip (planO L F (a ++ b))))) (.str f.nm) = some (some (.int (homeO L F (a ++ b) f))) := fun f hf => look_homes fv.nd (planR_len _ _ _ _) (hS.subset hf)
  refine dLC_map encFk (fun f => .int (hP L (f, tkP F P f))) trivial (firstF F a) (small_len (by omega)) (fun f hf Y N h => ?_) ?_
  · walk_at "h"
    rw [lookP f hf]
    walk_at "h"
    exact h
  walk_at "h"
  rw [intsD_map]
  walk_at "h"
  refine ⟨by rw [List.length_map]; omega, fun ks _ hks => ?_⟩
  walk_at "h"
  refine loop_inv D.int (fun E M'' => M'' = M' ∧ ∃ y13 y14, E = [a0, a1, a2, some (.d (encLs L)), some (.d (encFs F)), some (.d (encO (a ++ b))), some (.d (encP (planO L F (a ++ b)))), some (.d (.dk (homesD L (F.zip (planO L F (a ++ b)))))), y8, some (.d (.dk (homesD L (F.zip P)))), some (.d (.int ((i + 1 : Nat) : Int))), some (.d (.tup ((firstF F a).map encFk))), some (.d (encP (planO L (firstF F a) a))), y13, y14, y15, y16, z17, z18]) (fun _ => trivial) ks _ _ ⟨rfl, _, _, rfl⟩ (fun t ht E M'' K' hE hK' => ?_) (fun E M'' hE => hK _ _ (by obtain ⟨rfl, _, _, rfl⟩ := hE; exact ⟨rfl, _, _, _, _, _, _, _, rfl⟩))
  obtain ⟨rfl, y13', y14', rfl⟩ := hE
  walk_at "h"
  refine dLC_of encFk (fun f => if decide (homeO L F (a ++ b) f ≤ t) = true then some (encFk f) else none) trivial (firstF F a) [] (small_len (by rw [List.length_nil]; omega)) (fun f hf Y N h => ?_) ?_
  · walk_at "h"
    rw [lookO f hf]
    walk_at "h"
    refine br_of (fun g => ?_) (fun g => ?_)
    · rw [if_pos g] at h
      walk_at "h"
      exact h
    · rw [if_neg (by rw [g]; simp)] at h
      exact h
  rw [List.nil_append]
  walk_at "h"
  refine dLC_of encFk (fun f => if decide (hP L (f, tkP F P f) ≤ t) = true then some (encFk f) else none) trivial (firstF F a) [] (small_len (by rw [List.length_nil]; omega)) (fun f hf Y N h => ?_) ?_
  · walk_at "h"
    rw [lookP f hf]
    walk_at "h"
    refine br_of (fun g => ?_) (fun g => ?_)
    · rw [if_pos g] at h
      walk_at "h"
      exact h
    · rw [if_neg (by rw [g]; simp)] at h
      exact h
  rw [List.nil_append]
  walk_at "h"
  rw [fm_count (fun f => decide (hP L (f, tkP F P f) ≤ t)) encFk, fm_count (fun f => decide (homeO L F (a ++ b) f ≤ t)) encFk]
  have hle := first_le v fv hO hP' t
  refine br_of (fun h => absurd (of_decide_eq_true h) (by omega)) (fun _ => ?_)
  exact hK' _ _ ⟨rfl, _, _, rfl⟩
/-- what is no order -/
def BadO (F : List Fk) (d : D) : Prop := okO d ∧ isOrdD F d = false
theorem isOrd_not {F : List Fk} {o : List Str} (h : ¬ o.Perm (nmsF F)) : isOrdD F (encO o) = false := by
  show (match strL (o.map .str) with | some o => decide (o.Perm (nmsF F)) | none => false) = false
  rw [strL_map]
  exact decide_eq_false h
theorem bad_o {F : List Fk} {o : List Str} (h : ∀ s ∈ o, PyData.strOk s = true) (hl : o.length ≤ 1000) (hp : ¬ o.Perm (nmsF F)) : BadO F (encO o) := ⟨okO_o h hl, isOrd_not hp⟩
theorem bad_sevens (F : List Fk) {n : Nat} (h1 : 1 ≤ n) (h2 : n ≤ 1000) : BadO F (.tup (List.replicate n [D.int 7]).flatten) := by
  have e : (List.replicate n [D.int 7]).flatten = List.replicate n (D.int 7) := by
    clear h1 h2
    induction n with
    | zero => rfl
    | succ n ih => rw [List.replicate_succ, List.flatten_cons, ih]; rfl
  rw [e]
  obtain ⟨m, rfl⟩ : ∃ m, n = m + 1 := ⟨n - 1, by omega⟩
  refine ⟨⟨rfl, fun xs e => ?_⟩, rfl⟩
  cases e
  refine ⟨by rw [List.length_replicate]; exact h2, fun x hx => ?_, fun o ho => ?_⟩
  · obtain ⟨_, rfl⟩ := List.mem_replicate.mp hx
    rfl
  · cases ho
theorem zed_ok : PyData.strOk "zed" = true := by decide +kernel
theorem k31_odd {L : List Ln} {F : List Fk} {o : List Str} {De : DEnds} {Wd : Str → List DO → Prop} {M : List DO} (v : LanesV L) (fv : FolkV L F) (hO : OrdV L F o) (hz : ("zed" : Str) ∉ nmsF F) {a0 a1 a2 y6 y7 y8 y9 y10 y11 y12 y13 y14 y15 y16 y17 y18 : Option Val}
    (q : ∀ y15 y16, De.nx [a0, a1, a2, some (.d (encLs L)), some (.d (encFs F)), some (.d (encO o)), y6, y7, y8, y9, y10, y11, y12, y13, y14, y15, y16, y17, y18] M) :
    r31o Wd De [a0, a1, a2, some (.d (encLs L)), some (.d (encFs F)), some (.d (encO o)), y6, y7, y8, y9, y10, y11, y12, y13, y14, y15, y16, y17, y18] M := by
  have hF := fv.hi
  have hF1 := fv.lo
  have lo := hO.len
  have so := hO.strs
  have c1 : cutD (o.map D.str) (some 1) none = (o.drop 1).map .str := by
    rw [show (some (1 : Int)) = some ((1 : Nat) : Int) from rfl, cut_drop _ _ (by rw [List.length_map]; omega), List.map_drop]
  have c2 : cutD (o.map D.str) none (some 1) = (o.take 1).map .str := by
    rw [show (some (1 : Int)) = some ((1 : Nat) : Int) from rfl, cut_take _ _ (by rw [List.length_map]; omega), List.map_take]
  have c3 : cutD (o.map D.str) none (some (-1)) = o.dropLast.map .str := by
    rw [cut_init, List.map_dropLast]
  walk_at "h"
  rw [c2]
  refine ⟨small_len (by rw [List.length_map, List.length_map, List.length_take]; omega), ?_⟩
  walk_at "h"
  rw [c3]
  refine ⟨small_len (show 1 ≤ 1000 by omega), ?_⟩
  walk_at "h"
  refine ⟨small_len (by rw [List.length_map, List.length_dropLast]; show _ + 1 ≤ 1000; omega), ?_⟩
  walk_at "h"
  refine ⟨small_len (show 1 ≤ 1000 by omega), ?_⟩
  walk_at "h"
  rw [List.length_map]
  refine ⟨by simp, by omega, by omega, (show 1 ≤ 1000 by omega), ?_⟩
  walk_at "h"
  refine ⟨small_len (show 6 ≤ 1000 by omega), ?_⟩
  rw [c1]
  have bads : ∀ x ∈ [D.non, .lst (o.map .str), .tup ((o.drop 1).map .str), .tup (o.map .str ++ (o.take 1).map .str), .tup (o.dropLast.map .str ++ [.str "zed"]), .tup (List.replicate ((o.length : Nat) : Int).toNat [D.int 7]).flatten], BadO F x := by
    have nl : (nmsF F).length = o.length := hO.pm.length_eq.symm
    refine List.forall_mem_cons.mpr ⟨⟨⟨rfl, fun xs e => nomatch e⟩, rfl⟩, List.forall_mem_cons.mpr ⟨⟨⟨rfl, fun xs e => nomatch e⟩, rfl⟩, List.forall_mem_cons.mpr ⟨?_, List.forall_mem_cons.mpr ⟨?_, List.forall_mem_cons.mpr ⟨?_, List.forall_mem_cons.mpr ⟨?_, fun x h => absurd h (by simp)⟩⟩⟩⟩⟩⟩
    · exact bad_o (fun s hs => so s (List.mem_of_mem_drop hs)) (by rw [List.length_drop]; omega) fun p => by
        have := p.length_eq
        rw [List.length_drop] at this
        omega
    · rw [← List.map_append]
      exact bad_o (fun s hs => so s ((List.mem_append.mp hs).elim id List.mem_of_mem_take)) (by rw [List.length_append, List.length_take]; omega) fun p => by
        have := p.length_eq
        rw [List.length_append, List.length_take] at this
        omega
    · rw [show o.dropLast.map D.str ++ [D.str "zed"] = (o.dropLast ++ [("zed" : Str)]).map .str from by rw [List.map_append]; rfl]
      refine bad_o (fun s hs => ?_) (by rw [List.length_append, List.length_dropLast]; show _ + 1 ≤ 1000; omega) fun p => hz (p.mem_iff.mp (by simp))
      rcases List.mem_append.mp hs with h | h
      · exact so s ((List.dropLast_sublist o).subset h)
      · have e : s = "zed" := by simpa using h
        rw [e]; exact zed_ok
    · exact bad_sevens F (by omega) (by omega)
  have lp : ∀ (xs : List D) (y15 y16 : Option Val), (∀ x ∈ xs, BadO F x) → dLoop noK (gN 15) (r31b Wd) De xs [a0, a1, a2, some (.d (encLs L)), some (.d (encFs F)), some (.d (encO o)), y6, y7, y8, y9, y10, y11, y12, y13, y14, y15, y16, y17, y18] M := fun xs y15 y16 hx => by
    rw [← List.map_id xs]
    refine loop_inv id (fun E M' => M' = M ∧ ∃ y15 y16, E = [a0, a1, a2, some (.d (encLs L)), some (.d (encFs F)), some (.d (encO o)), y6, y7, y8, y9, y10, y11, y12, y13, y14, y15, y16, y17, y18]) (fun _ => trivial) xs _ _ ⟨rfl, _, _, rfl⟩ (fun x hx' E M' K hE hK => ?_) (fun E M' hE => by obtain ⟨rfl, _, _, rfl⟩ := hE; exact q _ _)
    obtain ⟨rfl, z15, z16, rfl⟩ := hE
    obtain ⟨okx, nox⟩ := hx x hx'
    walk_at "h"
    refine ⟨by omega, by omega, ?_⟩
    refine loop_inv (fun i : Nat => .int ((0 : Int) + (i : Nat))) (fun E M'' => M'' = M' ∧ ∃ y16, E = [a0, a1, a2, some (.d (encLs L)), some (.d (encFs F)), some (.d (encO o)), y6, y7, y8, y9, y10, y11, y12, y13, y14, some (.d x), y16, y17, y18]) (fun _ => trivial) _ _ _ ⟨rfl, _, rfl⟩ (fun i hi E M'' K' hE hK' => ?_) (fun E M'' hE => hK _ _ (by obtain ⟨rfl, _, rfl⟩ := hE; exact ⟨rfl, _, _, rfl⟩))
    obtain ⟨rfl, z16', rfl⟩ := hE
    walk_at "h"
    refine ⟨_, _, _, _, rfl, okx, ask_is v fv ⟨nox, 3, by decide, rfl, ?_⟩⟩
    walk_at "h"
    refine ⟨by decide +kernel, by decide +kernel, ?_⟩
    walk_at "h"
    refine ⟨_, _, _, _, rfl, okx, small_ls v, rfl, fun h => by (rw [lanes_enc v] at h; cases h), fun L' e _ => ⟨fun _ => ⟨1, by decide, rfl, ?_⟩, fun F' e' => nomatch e'⟩⟩
    walk_at "h"
    refine ⟨by decide +kernel, by decide +kernel, ?_⟩
    walk_at "h"
    refine ⟨_, _, _, _, rfl, okx, rfl, small_fs v (by omega) fv.one, fun _ => ⟨0, by decide, rfl, ?_⟩, fun L' e => nomatch e⟩
    walk_at "h"
    refine ⟨by decide +kernel, by decide +kernel, ?_⟩
    walk_at "h"
    exact hK' _ _ ⟨rfl, _, rfl⟩
  exact lp _ _ _ bads
theorem zed_not {F : List Fk} {n : Nat} (h : nmsF F = nms10.take n) : ("zed" : Str) ∉ nmsF F := fun hz => by
  rw [h] at hz
  exact absurd (List.mem_of_mem_take hz) (by decide +kernel)
theorem nb_tl {F : List Fk} (g : Fk → Int) : nb (.lst (F.map fun f => .tup [.str f.nm, .int (g f)])) = true := nbs_map _ _ fun _ _ => rfl
theorem okD_tl {L : List Ln} {F : List Fk} (h : ∀ f ∈ F, FkV L f) (g : Fk → Int) : okD (.lst (F.map fun f => .tup [.str f.nm, .int (g f)])) = true := by
  refine okD_of (lays_map _ _ fun f hf => ?_) ?_
  · show (PyData.strOk f.nm && (true && true)) = true
    rw [name_ok (h f hf).nm]; rfl
  · have := deps_map (fun f : Fk => D.tup [.str f.nm, .int (g f)]) 1 F fun _ _ => Nat.le_refl 1
    show deps (F.map _) + 1 ≤ 64
    omega
theorem w_law_k31 : WPP 19 t_law_k31 F_lawOk := by
  rintro _ Q E ⟨ns, rfl, hl, q⟩
  walk_at "w"
  refine ⟨by omega, by omega, ?_⟩
  refine loop_inv (fun i : Nat => .int ((0 : Int) + (i : Nat))) (fun E _ => ∃ y1 y2 y3 y4 y5 y6 y7 y8 y9 y10 y11 y12 y13 y14 y15 y16 y17 y18 : Option Val, E = [some (.d (.scr ns)), y1, y2, y3, y4, y5, y6, y7, y8, y9, y10, y11, y12, y13, y14, y15, y16, y17, y18]) (fun _ => trivial) _ _ _
    ⟨_, _, _, _, _, _, _, _, _, _, _, _, _, _, _, _, _, _, rfl⟩ (fun k hk E M K hE hK => ?_) (fun E M _ => by walk_at "w"; exact q)
  obtain ⟨y1, y2, y3, y4, y5, y6, y7, y8, y9, y10, y11, y12, y13, y14, y15, y16, y17, y18, rfl⟩ := hE
  have hk := List.mem_range.mp hk
  walk_at "g"
  refine ⟨ns, _, rfl, by omega, by omega, ?_⟩
  walk_at "h"
  refine ⟨8, rfl, by omega, by omega, fun L v hL8 _ => ?_⟩
  walk_at "h"
  refine ⟨L, 10, rfl, v, by omega, by omega, fun F fv hF10 hnm => ?_⟩
  have hF := fv.hi
  walk_at "h"
  refine ⟨F, rfl, by omega, fun f hf => (fv.one f hf).nm, fun o ho => ?_⟩
  have hO : OrdV L F o := ⟨v, fv.hi, fv.one, fv.nd, ho⟩
  walk_at "h"
  refine ⟨_, _, _, rfl, hO.okO, ask_is v fv ⟨fun h => ?_, fun o' eo _ => ?_⟩⟩
  · exact absurd (isOrd_o ho) (by rw [show isOrdD F (encO o) = false from h]; simp)
  cases (inj_map (f := D.str) (fun _ _ q => by injection q) (by injection eo) : o = o')
  clear eo
  walk_at "h"
  refine ⟨small_len (show 1 ≤ 1000 by omega), ?_⟩
  walk_at "h"
  refine ⟨small_len (show 0 ≤ 1000 by omega), ?_⟩
  walk_at "h"
  refine ⟨L, F, [o], [], rfl, hO.runA, ?_⟩
  rw [planR_one hO]
  walk_at "h"
  have lenP : (planO L F o).length = F.length := planR_len _ _ _ _
  have hPl : isPlanP L F (planO L F o) = true := hO.run.plan
  have one := planP_one fv.one hPl
  have zv : ZipV L F (planO L F o) := ⟨v, fv.hi, fv.nd, lenP, one⟩
  have sP : small3 (encP (planO L F o)) = true := small_p (by omega) fun ts hts => by
    obtain ⟨i, hi⟩ := List.getElem?_of_mem hts
    have hl := (List.getElem?_eq_some_iff.mp hi).1
    have e : (F.zip (planO L F o))[i]? = some (F[i], ts) := by
      rw [List.getElem?_zip_eq_some]
      exact ⟨List.getElem?_eq_getElem (by omega), hi⟩
    have := (one _ (List.mem_of_getElem? e)).len v
    dsimp only at this
    omega
  refine ⟨okD_p _, okD_p _, ?_⟩
  rw [eqD_self (nb_p _)]
  walk_at "h"
  refine ⟨_, _, _, rfl, small_ls v, small_fs v (by omega) fv.one, sP, fun h => by (rw [lanes_enc v] at h; cases h), fun L' e _ => ⟨fun h => ?_, fun F' e' _ => ?_⟩⟩
  · cases encLs_inj e
    rw [folk_enc fv] at h
    cases h
  cases encLs_inj e
  cases encFs_inj e'
  rw [isPlanD_enc, hPl]
  walk_at "h"
  refine ⟨L, F, _, rfl, zv, ?_⟩
  walk_at "h"
  refine ⟨_, _, _, rfl, hO.okO, ask_is v fv ⟨fun h => ?_, fun o' eo _ => ?_⟩⟩
  · exact absurd (isOrd_o ho) (by rw [show isOrdD F (encO o) = false from h]; simp)
  cases (inj_map (f := D.str) (fun _ _ q => by injection q) (by injection eo) : o = o')
  clear eo
  walk_at "h"
  refine dLC_map encFk (fun f => .tup [.str f.nm, .int (homeO L F o f)]) trivial F (small_len (by omega)) (fun f hf Y N h => ?_) ?_
  · walk_at "h"
    rw [look_homes fv.nd lenP hf]
    walk_at "h"
    exact ⟨(by decide : 2 ≤ sizeLine), h⟩
  walk_at "h"
  refine ⟨okD_tl fv.one _, okD_tl fv.one _, ?_⟩
  rw [eqD_self (nb_tl _)]
  walk_at "h"
  refine ⟨L, F, rfl, v, fv, fun P hP hB => ?_⟩
  have pl := plan_parts hP
  walk_at "h"
  refine ⟨L, F, P, rfl, ⟨v, fv.hi, fv.nd, pl.1, planP_one fv.one hP⟩, ?_⟩
  walk_at "h"
  refine k31_many v fv hO hP (fun ts h1 t h2 => by have := hB ts h1 t h2; omega) fun y10 y11 y12 y13 y14 y17 y18 => ?_
  refine k31_odd v fv hO (zed_not hnm) fun y15 y16 => ?_
  exact hK _ _ ⟨_, _, _, _, _, _, _, _, _, _, _, _, _, _, _, _, _, _, rfl⟩
end DL

end
section
set_option maxRecDepth 100000
set_option maxHeartbeats 4000000
namespace DL
open PySem L2 PyProof.Rows
theorem len_l_take : ∀ ds Q E, F_l_take ds Q E → ds.length + 1 = 2 := by intro ds Q E h; first | (obtain ⟨_, rfl, _⟩ := h; rfl) | (obtain ⟨_, _, rfl, _⟩ := h; rfl) | (obtain ⟨_, _, _, rfl, _⟩ := h; rfl) | (obtain ⟨_, _, _, _, rfl, _⟩ := h; rfl) | (obtain ⟨_, _, _, _, _, rfl, _⟩ := h; rfl) | (obtain ⟨_, _, _, _, _, _, rfl, _⟩ := h; rfl) | (obtain ⟨_, _, _, _, _, _, _, rfl, _⟩ := h; rfl)
theorem len_l_drawn_order : ∀ ds Q E, F_l_drawn_order ds Q E → ds.length + 1 = 2 := by intro ds Q E h; first | (obtain ⟨_, rfl, _⟩ := h; rfl) | (obtain ⟨_, _, rfl, _⟩ := h; rfl) | (obtain ⟨_, _, _, rfl, _⟩ := h; rfl) | (obtain ⟨_, _, _, _, rfl, _⟩ := h; rfl) | (obtain ⟨_, _, _, _, _, rfl, _⟩ := h; rfl) | (obtain ⟨_, _, _, _, _, _, rfl, _⟩ := h; rfl) | (obtain ⟨_, _, _, _, _, _, _, rfl, _⟩ := h; rfl)
theorem len_l_lane : ∀ ds Q E, F_l_lane ds Q E → ds.length = 2 := by intro ds Q E h; first | (obtain ⟨_, rfl, _⟩ := h; rfl) | (obtain ⟨_, _, rfl, _⟩ := h; rfl) | (obtain ⟨_, _, _, rfl, _⟩ := h; rfl) | (obtain ⟨_, _, _, _, rfl, _⟩ := h; rfl) | (obtain ⟨_, _, _, _, _, rfl, _⟩ := h; rfl) | (obtain ⟨_, _, _, _, _, _, rfl, _⟩ := h; rfl) | (obtain ⟨_, _, _, _, _, _, _, rfl, _⟩ := h; rfl)
theorem len_l_run : ∀ ds Q E, F_l_run ds Q E → ds.length = 4 := by intro ds Q E h; first | (obtain ⟨_, rfl, _⟩ := h; rfl) | (obtain ⟨_, _, rfl, _⟩ := h; rfl) | (obtain ⟨_, _, _, rfl, _⟩ := h; rfl) | (obtain ⟨_, _, _, _, rfl, _⟩ := h; rfl) | (obtain ⟨_, _, _, _, _, rfl, _⟩ := h; rfl) | (obtain ⟨_, _, _, _, _, _, rfl, _⟩ := h; rfl) | (obtain ⟨_, _, _, _, _, _, _, rfl, _⟩ := h; rfl)
theorem len_l_any_plan : ∀ ds Q E, F_l_any_plan ds Q E → ds.length + 1 = 3 := by intro ds Q E h; first | (obtain ⟨_, rfl, _⟩ := h; rfl) | (obtain ⟨_, _, rfl, _⟩ := h; rfl) | (obtain ⟨_, _, _, rfl, _⟩ := h; rfl) | (obtain ⟨_, _, _, _, rfl, _⟩ := h; rfl) | (obtain ⟨_, _, _, _, _, rfl, _⟩ := h; rfl) | (obtain ⟨_, _, _, _, _, _, rfl, _⟩ := h; rfl) | (obtain ⟨_, _, _, _, _, _, _, rfl, _⟩ := h; rfl)
theorem len_table_of : ∀ ds Q E, F_table_of ds Q E → ds.length = 1 := by intro ds Q E h; first | (obtain ⟨_, rfl, _⟩ := h; rfl) | (obtain ⟨_, _, rfl, _⟩ := h; rfl) | (obtain ⟨_, _, _, rfl, _⟩ := h; rfl) | (obtain ⟨_, _, _, _, rfl, _⟩ := h; rfl) | (obtain ⟨_, _, _, _, _, rfl, _⟩ := h; rfl) | (obtain ⟨_, _, _, _, _, _, rfl, _⟩ := h; rfl) | (obtain ⟨_, _, _, _, _, _, _, rfl, _⟩ := h; rfl)
theorem len_way_of : ∀ ds Q E, F_way_of ds Q E → ds.length = 2 := by intro ds Q E h; first | (obtain ⟨_, rfl, _⟩ := h; rfl) | (obtain ⟨_, _, rfl, _⟩ := h; rfl) | (obtain ⟨_, _, _, rfl, _⟩ := h; rfl) | (obtain ⟨_, _, _, _, rfl, _⟩ := h; rfl) | (obtain ⟨_, _, _, _, _, rfl, _⟩ := h; rfl) | (obtain ⟨_, _, _, _, _, _, rfl, _⟩ := h; rfl) | (obtain ⟨_, _, _, _, _, _, _, rfl, _⟩ := h; rfl)
theorem len_comes_out : ∀ ds Q E, F_comes_out ds Q E → ds.length = 3 := by intro ds Q E h; first | (obtain ⟨_, rfl, _⟩ := h; rfl) | (obtain ⟨_, _, rfl, _⟩ := h; rfl) | (obtain ⟨_, _, _, rfl, _⟩ := h; rfl) | (obtain ⟨_, _, _, _, rfl, _⟩ := h; rfl) | (obtain ⟨_, _, _, _, _, rfl, _⟩ := h; rfl) | (obtain ⟨_, _, _, _, _, _, rfl, _⟩ := h; rfl) | (obtain ⟨_, _, _, _, _, _, _, rfl, _⟩ := h; rfl)
theorem len_plan_of : ∀ ds Q E, F_plan_of ds Q E → ds.length = 3 := by intro ds Q E h; first | (obtain ⟨_, rfl, _⟩ := h; rfl) | (obtain ⟨_, _, rfl, _⟩ := h; rfl) | (obtain ⟨_, _, _, rfl, _⟩ := h; rfl) | (obtain ⟨_, _, _, _, rfl, _⟩ := h; rfl) | (obtain ⟨_, _, _, _, _, rfl, _⟩ := h; rfl) | (obtain ⟨_, _, _, _, _, _, rfl, _⟩ := h; rfl) | (obtain ⟨_, _, _, _, _, _, _, rfl, _⟩ := h; rfl)
theorem len_home_ticks : ∀ ds Q E, F_home_ticks ds Q E → ds.length = 3 := by intro ds Q E h; first | (obtain ⟨_, rfl, _⟩ := h; rfl) | (obtain ⟨_, _, rfl, _⟩ := h; rfl) | (obtain ⟨_, _, _, rfl, _⟩ := h; rfl) | (obtain ⟨_, _, _, _, rfl, _⟩ := h; rfl) | (obtain ⟨_, _, _, _, _, rfl, _⟩ := h; rfl) | (obtain ⟨_, _, _, _, _, _, rfl, _⟩ := h; rfl) | (obtain ⟨_, _, _, _, _, _, _, rfl, _⟩ := h; rfl)
theorem len_is_order : ∀ ds Q E, F_is_order ds Q E → ds.length = 2 := by intro ds Q E h; first | (obtain ⟨_, rfl, _⟩ := h; rfl) | (obtain ⟨_, _, rfl, _⟩ := h; rfl) | (obtain ⟨_, _, _, rfl, _⟩ := h; rfl) | (obtain ⟨_, _, _, _, rfl, _⟩ := h; rfl) | (obtain ⟨_, _, _, _, _, rfl, _⟩ := h; rfl) | (obtain ⟨_, _, _, _, _, _, rfl, _⟩ := h; rfl) | (obtain ⟨_, _, _, _, _, _, _, rfl, _⟩ := h; rfl)
theorem len_is_crossing : ∀ ds Q E, F_is_crossing ds Q E → ds.length = 2 := by intro ds Q E h; first | (obtain ⟨_, rfl, _⟩ := h; rfl) | (obtain ⟨_, _, rfl, _⟩ := h; rfl) | (obtain ⟨_, _, _, rfl, _⟩ := h; rfl) | (obtain ⟨_, _, _, _, rfl, _⟩ := h; rfl) | (obtain ⟨_, _, _, _, _, rfl, _⟩ := h; rfl) | (obtain ⟨_, _, _, _, _, _, rfl, _⟩ := h; rfl) | (obtain ⟨_, _, _, _, _, _, _, rfl, _⟩ := h; rfl)
theorem len_is_name : ∀ ds Q E, F_is_name ds Q E → ds.length = 1 := by intro ds Q E h; first | (obtain ⟨_, rfl, _⟩ := h; rfl) | (obtain ⟨_, _, rfl, _⟩ := h; rfl) | (obtain ⟨_, _, _, rfl, _⟩ := h; rfl) | (obtain ⟨_, _, _, _, rfl, _⟩ := h; rfl) | (obtain ⟨_, _, _, _, _, rfl, _⟩ := h; rfl) | (obtain ⟨_, _, _, _, _, _, rfl, _⟩ := h; rfl) | (obtain ⟨_, _, _, _, _, _, _, rfl, _⟩ := h; rfl)
theorem len_is_whole : ∀ ds Q E, F_is_whole ds Q E → ds.length = 3 := by intro ds Q E h; first | (obtain ⟨_, rfl, _⟩ := h; rfl) | (obtain ⟨_, _, rfl, _⟩ := h; rfl) | (obtain ⟨_, _, _, rfl, _⟩ := h; rfl) | (obtain ⟨_, _, _, _, rfl, _⟩ := h; rfl) | (obtain ⟨_, _, _, _, _, rfl, _⟩ := h; rfl) | (obtain ⟨_, _, _, _, _, _, rfl, _⟩ := h; rfl) | (obtain ⟨_, _, _, _, _, _, _, rfl, _⟩ := h; rfl)
theorem len_is_one : ∀ ds Q E, F_is_one ds Q E → ds.length = 2 := by intro ds Q E h; first | (obtain ⟨_, rfl, _⟩ := h; rfl) | (obtain ⟨_, _, rfl, _⟩ := h; rfl) | (obtain ⟨_, _, _, rfl, _⟩ := h; rfl) | (obtain ⟨_, _, _, _, rfl, _⟩ := h; rfl) | (obtain ⟨_, _, _, _, _, rfl, _⟩ := h; rfl) | (obtain ⟨_, _, _, _, _, _, rfl, _⟩ := h; rfl) | (obtain ⟨_, _, _, _, _, _, _, rfl, _⟩ := h; rfl)
theorem len_are_folk_of : ∀ ds Q E, F_are_folk_of ds Q E → ds.length = 2 := by intro ds Q E h; first | (obtain ⟨_, rfl, _⟩ := h; rfl) | (obtain ⟨_, _, rfl, _⟩ := h; rfl) | (obtain ⟨_, _, _, rfl, _⟩ := h; rfl) | (obtain ⟨_, _, _, _, rfl, _⟩ := h; rfl) | (obtain ⟨_, _, _, _, _, rfl, _⟩ := h; rfl) | (obtain ⟨_, _, _, _, _, _, rfl, _⟩ := h; rfl) | (obtain ⟨_, _, _, _, _, _, _, rfl, _⟩ := h; rfl)
theorem len_is_lane : ∀ ds Q E, F_is_lane ds Q E → ds.length = 1 := by intro ds Q E h; first | (obtain ⟨_, rfl, _⟩ := h; rfl) | (obtain ⟨_, _, rfl, _⟩ := h; rfl) | (obtain ⟨_, _, _, rfl, _⟩ := h; rfl) | (obtain ⟨_, _, _, _, rfl, _⟩ := h; rfl) | (obtain ⟨_, _, _, _, _, rfl, _⟩ := h; rfl) | (obtain ⟨_, _, _, _, _, _, rfl, _⟩ := h; rfl) | (obtain ⟨_, _, _, _, _, _, _, rfl, _⟩ := h; rfl)
theorem len_are_lanes : ∀ ds Q E, F_are_lanes ds Q E → ds.length = 1 := by intro ds Q E h; first | (obtain ⟨_, rfl, _⟩ := h; rfl) | (obtain ⟨_, _, rfl, _⟩ := h; rfl) | (obtain ⟨_, _, _, rfl, _⟩ := h; rfl) | (obtain ⟨_, _, _, _, rfl, _⟩ := h; rfl) | (obtain ⟨_, _, _, _, _, rfl, _⟩ := h; rfl) | (obtain ⟨_, _, _, _, _, _, rfl, _⟩ := h; rfl) | (obtain ⟨_, _, _, _, _, _, _, rfl, _⟩ := h; rfl)
theorem len_need_lanes : ∀ ds Q E, F_need_lanes ds Q E → ds.length = 1 := by intro ds Q E h; first | (obtain ⟨_, rfl, _⟩ := h; rfl) | (obtain ⟨_, _, rfl, _⟩ := h; rfl) | (obtain ⟨_, _, _, rfl, _⟩ := h; rfl) | (obtain ⟨_, _, _, _, rfl, _⟩ := h; rfl) | (obtain ⟨_, _, _, _, _, rfl, _⟩ := h; rfl) | (obtain ⟨_, _, _, _, _, _, rfl, _⟩ := h; rfl) | (obtain ⟨_, _, _, _, _, _, _, rfl, _⟩ := h; rfl)
theorem len_need_folk : ∀ ds Q E, F_need_folk ds Q E → ds.length = 2 := by intro ds Q E h; first | (obtain ⟨_, rfl, _⟩ := h; rfl) | (obtain ⟨_, _, rfl, _⟩ := h; rfl) | (obtain ⟨_, _, _, rfl, _⟩ := h; rfl) | (obtain ⟨_, _, _, _, rfl, _⟩ := h; rfl) | (obtain ⟨_, _, _, _, _, rfl, _⟩ := h; rfl) | (obtain ⟨_, _, _, _, _, _, rfl, _⟩ := h; rfl) | (obtain ⟨_, _, _, _, _, _, _, rfl, _⟩ := h; rfl)
theorem len_need_order : ∀ ds Q E, F_need_order ds Q E → ds.length = 3 := by intro ds Q E h; first | (obtain ⟨_, rfl, _⟩ := h; rfl) | (obtain ⟨_, _, rfl, _⟩ := h; rfl) | (obtain ⟨_, _, _, rfl, _⟩ := h; rfl) | (obtain ⟨_, _, _, _, rfl, _⟩ := h; rfl) | (obtain ⟨_, _, _, _, _, rfl, _⟩ := h; rfl) | (obtain ⟨_, _, _, _, _, _, rfl, _⟩ := h; rfl) | (obtain ⟨_, _, _, _, _, _, _, rfl, _⟩ := h; rfl)
theorem len_home_order : ∀ ds Q E, F_home_order ds Q E → ds.length = 3 := by intro ds Q E h; first | (obtain ⟨_, rfl, _⟩ := h; rfl) | (obtain ⟨_, _, rfl, _⟩ := h; rfl) | (obtain ⟨_, _, _, rfl, _⟩ := h; rfl) | (obtain ⟨_, _, _, _, rfl, _⟩ := h; rfl) | (obtain ⟨_, _, _, _, _, rfl, _⟩ := h; rfl) | (obtain ⟨_, _, _, _, _, _, rfl, _⟩ := h; rfl) | (obtain ⟨_, _, _, _, _, _, _, rfl, _⟩ := h; rfl)
theorem len_plan_by : ∀ ds Q E, F_plan_by ds Q E → ds.length = 3 := by intro ds Q E h; first | (obtain ⟨_, rfl, _⟩ := h; rfl) | (obtain ⟨_, _, rfl, _⟩ := h; rfl) | (obtain ⟨_, _, _, rfl, _⟩ := h; rfl) | (obtain ⟨_, _, _, _, rfl, _⟩ := h; rfl) | (obtain ⟨_, _, _, _, _, rfl, _⟩ := h; rfl) | (obtain ⟨_, _, _, _, _, _, rfl, _⟩ := h; rfl) | (obtain ⟨_, _, _, _, _, _, _, rfl, _⟩ := h; rfl)
theorem len_l_asked31 : ∀ ds Q E, F_l_asked31 ds Q E → ds.length = 4 := by intro ds Q E h; first | (obtain ⟨_, rfl, _⟩ := h; rfl) | (obtain ⟨_, _, rfl, _⟩ := h; rfl) | (obtain ⟨_, _, _, rfl, _⟩ := h; rfl) | (obtain ⟨_, _, _, _, rfl, _⟩ := h; rfl) | (obtain ⟨_, _, _, _, _, rfl, _⟩ := h; rfl) | (obtain ⟨_, _, _, _, _, _, rfl, _⟩ := h; rfl) | (obtain ⟨_, _, _, _, _, _, _, rfl, _⟩ := h; rfl)
theorem len_l_folk : ∀ ds Q E, F_l_folk ds Q E → ds.length + 1 = 3 := by intro ds Q E h; first | (obtain ⟨_, rfl, _⟩ := h; rfl) | (obtain ⟨_, _, rfl, _⟩ := h; rfl) | (obtain ⟨_, _, _, rfl, _⟩ := h; rfl) | (obtain ⟨_, _, _, _, rfl, _⟩ := h; rfl) | (obtain ⟨_, _, _, _, _, rfl, _⟩ := h; rfl) | (obtain ⟨_, _, _, _, _, _, rfl, _⟩ := h; rfl) | (obtain ⟨_, _, _, _, _, _, _, rfl, _⟩ := h; rfl)
theorem len_l_way : ∀ ds Q E, F_l_way ds Q E → ds.length = 2 := by intro ds Q E h; first | (obtain ⟨_, rfl, _⟩ := h; rfl) | (obtain ⟨_, _, rfl, _⟩ := h; rfl) | (obtain ⟨_, _, _, rfl, _⟩ := h; rfl) | (obtain ⟨_, _, _, _, rfl, _⟩ := h; rfl) | (obtain ⟨_, _, _, _, _, rfl, _⟩ := h; rfl) | (obtain ⟨_, _, _, _, _, _, rfl, _⟩ := h; rfl) | (obtain ⟨_, _, _, _, _, _, _, rfl, _⟩ := h; rfl)
theorem len_l_homes : ∀ ds Q E, F_l_homes ds Q E → ds.length = 3 := by intro ds Q E h; first | (obtain ⟨_, rfl, _⟩ := h; rfl) | (obtain ⟨_, _, rfl, _⟩ := h; rfl) | (obtain ⟨_, _, _, rfl, _⟩ := h; rfl) | (obtain ⟨_, _, _, _, rfl, _⟩ := h; rfl) | (obtain ⟨_, _, _, _, _, rfl, _⟩ := h; rfl) | (obtain ⟨_, _, _, _, _, _, rfl, _⟩ := h; rfl) | (obtain ⟨_, _, _, _, _, _, _, rfl, _⟩ := h; rfl)
theorem len_l_lanes : ∀ ds Q E, F_l_lanes ds Q E → ds.length + 1 = 2 := by intro ds Q E h; first | (obtain ⟨_, rfl, _⟩ := h; rfl) | (obtain ⟨_, _, rfl, _⟩ := h; rfl) | (obtain ⟨_, _, _, rfl, _⟩ := h; rfl) | (obtain ⟨_, _, _, _, rfl, _⟩ := h; rfl) | (obtain ⟨_, _, _, _, _, rfl, _⟩ := h; rfl) | (obtain ⟨_, _, _, _, _, _, rfl, _⟩ := h; rfl) | (obtain ⟨_, _, _, _, _, _, _, rfl, _⟩ := h; rfl)
theorem len_is_plan_of : ∀ ds Q E, F_is_plan_of ds Q E → ds.length = 3 := by intro ds Q E h; first | (obtain ⟨_, rfl, _⟩ := h; rfl) | (obtain ⟨_, _, rfl, _⟩ := h; rfl) | (obtain ⟨_, _, _, rfl, _⟩ := h; rfl) | (obtain ⟨_, _, _, _, rfl, _⟩ := h; rfl) | (obtain ⟨_, _, _, _, _, rfl, _⟩ := h; rfl) | (obtain ⟨_, _, _, _, _, _, rfl, _⟩ := h; rfl) | (obtain ⟨_, _, _, _, _, _, _, rfl, _⟩ := h; rfl)
theorem len_is_plan : ∀ ds Q E, F_is_plan ds Q E → ds.length = 3 := by intro ds Q E h; first | (obtain ⟨_, rfl, _⟩ := h; rfl) | (obtain ⟨_, _, rfl, _⟩ := h; rfl) | (obtain ⟨_, _, _, rfl, _⟩ := h; rfl) | (obtain ⟨_, _, _, _, rfl, _⟩ := h; rfl) | (obtain ⟨_, _, _, _, _, rfl, _⟩ := h; rfl) | (obtain ⟨_, _, _, _, _, _, rfl, _⟩ := h; rfl) | (obtain ⟨_, _, _, _, _, _, _, rfl, _⟩ := h; rfl)
abbrev F_law_k31 : PSp := F_lawOk
theorem len_law_k31 : ∀ ds Q E, F_law_k31 ds Q E → ds.length = 1 := len_lawOk
def top (i : Nat) : Stmt := PySem.Challenge.pw_homelanes_k31_whole_the_first_come_as_if.main.body.getD i (.Pass ⟨0, 0, 0, 0⟩)
abbrev st_is_whole : Stmt := top 22
abbrev st_is_name : Stmt := top 23
abbrev st_is_lane : Stmt := top 24
abbrev st_table_of : Stmt := top 25
abbrev st_way_of : Stmt := top 26
abbrev st_are_lanes : Stmt := top 27
abbrev st_need_lanes : Stmt := top 28
abbrev st_is_crossing : Stmt := top 29
abbrev st_is_one : Stmt := top 33
abbrev st_are_folk_of : Stmt := top 34
abbrev st_need_folk : Stmt := top 35
abbrev st_comes_out : Stmt := top 36
abbrev st_is_plan_of : Stmt := top 37
abbrev st_is_plan : Stmt := top 38
abbrev st_is_order : Stmt := top 40
abbrev st_need_order : Stmt := top 41
abbrev st_ticks_by : Stmt := top 42
abbrev st_plan_of : Stmt := top 43
abbrev st_home_ticks : Stmt := top 44
abbrev st_plan_by : Stmt := top 45
abbrev st_home_order : Stmt := top 46
abbrev st_l_well : Stmt := top 48
abbrev st_l_take : Stmt := top 49
abbrev st_l_lanes : Stmt := top 52
abbrev st_l_folk : Stmt := top 53
abbrev st_l_lane : Stmt := top 54
abbrev st_l_drawn_order : Stmt := top 55
abbrev st_l_run : Stmt := top 56
abbrev st_l_way : Stmt := top 57
abbrev st_l_homes : Stmt := top 58
abbrev st_l_any_plan : Stmt := top 59
abbrev st_l_asked31 : Stmt := top 60
abbrev st_law_k31 : Stmt := top 61
structure BF (mg : Str → Option Value) : Prop where
  all : mg "all" = none
  any : mg "any" = none
  bool : mg "bool" = none
  dict : mg "dict" = none
  int : mg "int" = none
  isinstance : mg "isinstance" = none
  len : mg "len" = none
  list : mg "list" = none
  max : mg "max" = none
  min : mg "min" = none
  range : mg "range" = none
  set : mg "set" = none
  sorted : mg "sorted" = none
  str : mg "str" = none
  tuple : mg "tuple" = none
  zip : mg "zip" = none
structure CF (mg : Str → Option Value) : Prop where
  HOME : ∃ u, mg "HOME" = some u ∧ RelV (.str "home") u
  LETTERS : ∃ u, mg "LETTERS" = some u ∧ RelV (.str "abcdefghijklmnopqrstuvwxyz") u
  MOST_FOLK : ∃ u, mg "MOST_FOLK" = some u ∧ RelV (.int 10) u
  MOST_LANES : ∃ u, mg "MOST_LANES" = some u ∧ RelV (.int 8) u
  MOST_LONG : ∃ u, mg "MOST_LONG" = some u ∧ RelV (.int 20) u
  MOST_TICK : ∃ u, mg "MOST_TICK" = some u ∧ RelV (.int 50) u
  MOST_WIDE : ∃ u, mg "MOST_WIDE" = some u ∧ RelV (.int 9) u
structure XF1 (K : PySem.W.Frag) (mg : Str → Option Value) (C : Addr) (n : Str) : Prop where
  q : PySem.W.excIn K C [.type "ValueError", .type "Exception", .type "BaseException", .type "object"] "ValueError.__new__" = true
  g : mg n = some (.ref C)
  k : PySem.W.keepIn K (.ref C) = true
  b : PySem.W.subIn K (.ref C) (.type "BaseException") = some true
  t : PySem.W.typeIn K (.ref C) = some (.type "type")
structure XFs (K : PySem.W.Frag) (mg : Str → Option Value) (xa : Str → Addr) : Prop where
  NoFolk : XF1 K mg (xa "NoFolk") "NoFolk"
  NoLanes : XF1 K mg (xa "NoLanes") "NoLanes"
  NoOrder : XF1 K mg (xa "NoOrder") "NoOrder"
structure DF (K : PySem.W.Frag) (mg : Str → Option Value) : Prop where
  is_whole : DefAt K mg "is_whole" st_is_whole ["thing", "low", "high"]
  is_name : DefAt K mg "is_name" st_is_name ["thing"]
  is_lane : DefAt K mg "is_lane" st_is_lane ["thing"]
  table_of : DefAt K mg "table_of" st_table_of ["lanes"]
  way_of : DefAt K mg "way_of" st_way_of ["lanes", "crossing"]
  are_lanes : DefAt K mg "are_lanes" st_are_lanes ["thing"]
  need_lanes : DefAt K mg "need_lanes" st_need_lanes ["lanes"]
  is_crossing : DefAt K mg "is_crossing" st_is_crossing ["lanes", "thing"]
  is_one : DefAt K mg "is_one" st_is_one ["lanes", "thing"]
  are_folk_of : DefAt K mg "are_folk_of" st_are_folk_of ["lanes", "thing"]
  need_folk : DefAt K mg "need_folk" st_need_folk ["lanes", "folk"]
  comes_out : DefAt K mg "comes_out" st_comes_out ["lanes", "one", "ticks"]
  is_plan_of : DefAt K mg "is_plan_of" st_is_plan_of ["lanes", "folk", "thing"]
  is_plan : DefAt K mg "is_plan" st_is_plan ["lanes", "folk", "thing"]
  is_order : DefAt K mg "is_order" st_is_order ["folk", "thing"]
  need_order : DefAt K mg "need_order" st_need_order ["lanes", "folk", "order"]
  ticks_by : DefAt K mg "ticks_by" st_ticks_by ["lanes", "folk", "order"]
  plan_of : DefAt K mg "plan_of" st_plan_of ["lanes", "folk", "order"]
  home_ticks : DefAt K mg "home_ticks" st_home_ticks ["lanes", "folk", "order"]
  plan_by : DefAt K mg "plan_by" st_plan_by ["lanes", "folk", "order"]
  home_order : DefAt K mg "home_order" st_home_order ["lanes", "folk", "order"]
  l_well : DefAt K mg "_law_well" st_l_well ["script", "k"]
  l_take : DefAt K mg "_law_take" st_l_take ["well", "many"]
  l_lanes : DefAt K mg "_law_lanes" st_l_lanes ["well", "top"]
  l_folk : DefAt K mg "_law_folk" st_l_folk ["well", "lanes", "top"]
  l_lane : DefAt K mg "_law_lane" st_l_lane ["lanes", "crossing"]
  l_drawn_order : DefAt K mg "_law_drawn_order" st_l_drawn_order ["well", "folk"]
  l_run : DefAt K mg "_law_run" st_l_run ["lanes", "folk", "orders", "holds"]
  l_way : DefAt K mg "_law_way" st_l_way ["lanes", "crossing"]
  l_homes : DefAt K mg "_law_homes" st_l_homes ["lanes", "folk", "plan"]
  l_any_plan : DefAt K mg "_law_any_plan" st_l_any_plan ["well", "lanes", "folk"]
  l_asked31 : DefAt K mg "_law_asked" st_l_asked31 ["way", "lanes", "folk", "order"]
  law_k31 : DefAt K mg "law" st_law_k31 ["script"]
abbrev st_l_kinds : Stmt := top 50
abbrev st_l_refusal : Stmt := top 51
structure BK (mg : Str → Option Value) : Prop where
  isinstance : mg "isinstance" = none
  zip : mg "zip" = none
theorem sc_l_kinds : FnScope ["e", "some", "words", "word", "good"] ["e"] (defScope st_l_kinds) := ⟨rfl, rfl, rfl, by decide +kernel, rfl, by decide +kernel, by decide +kernel⟩
theorem sc_l_refusal : FnScope ["e", "kinds"] ["e"] (defScope st_l_refusal) := ⟨rfl, rfl, rfl, by decide +kernel, rfl, by decide +kernel, by decide +kernel⟩
section
open DH L2H
variable {P : Program} {w : World} {K : PySem.W.Frag} {mg : Str → Option Value} {base : Heap} {xa : Str → Addr} {p : Addr × Obj} {i : Nat}
theorem d_l_kinds (B : BK mg) (G : KdG mg xa) (KI : KdI K xa i) (z : ExcAt (xa (nameI i)) p) (d : DefAt K mg "_law_kinds" st_l_kinds ["e"]) : DefOkE P w K mg base xa p "_law_kinds" 1 ["e"] (F_l_kinds p.1 i) :=
  d.dlE sc_l_kinds (fun ds Q E h => by obtain ⟨rfl, _⟩ := h; rfl) fun f cdv A outer s H E g hr hc => ⟨t_l_kinds p.1 i,
   (dss_cons (ds_set sc_l_kinds.nd rfl (by first | exact Or.inl rfl | exact Or.inr rfl) (de_lst (da_cons (de_isP hc KI.ec z (dv 0) rfl B.isinstance rfl (G.all "NoLanes" (by decide +kernel)) (KI.it 0 (by decide))) (da_cons (de_isP hc KI.ec z (dv 0) rfl B.isinstance rfl (G.all "NoFolk" (by decide +kernel)) (KI.it 1 (by decide))) (da_cons (de_isP hc KI.ec z (dv 0) rfl B.isinstance rfl (G.all "NoCrowd" (by decide +kernel)) (KI.it 2 (by decide))) (da_cons (de_isP hc KI.ec z (dv 0) rfl B.isinstance rfl (G.all "NoOrder" (by decide +kernel)) (KI.it 3 (by decide))) da_nil)))))) (dss_cons (ds_set sc_l_kinds.nd rfl (by first | exact Or.inl rfl | exact Or.inr rfl) (de_op ro_add op_addAll (dv 1) (de_lst (da_cons (de_isP hc KI.ec z (dv 0) rfl B.isinstance rfl (G.all "NoWishes" (by decide +kernel)) (KI.it 4 (by decide))) (da_cons (de_isP hc KI.ec z (dv 0) rfl B.isinstance rfl (G.all "NoWorths" (by decide +kernel)) (KI.it 5 (by decide))) (da_cons (de_isP hc KI.ec z (dv 0) rfl B.isinstance rfl (G.all "NoPlan" (by decide +kernel)) (KI.it 6 (by decide))) (da_cons (de_isP hc KI.ec z (dv 0) rfl B.isinstance rfl (G.all "NoCrossing" (by decide +kernel)) (KI.it 7 (by decide))) da_nil))))))) (dss_cons (ds_set sc_l_kinds.nd rfl (by first | exact Or.inl rfl | exact Or.inr rfl) (de_op ro_add op_addAll (dv 1) (de_lst (da_cons (de_isP hc KI.ec z (dv 0) rfl B.isinstance rfl (G.all "NoTick" (by decide +kernel)) (KI.it 8 (by decide))) (da_cons (de_isP hc KI.ec z (dv 0) rfl B.isinstance rfl (G.all "NoName" (by decide +kernel)) (KI.it 9 (by decide))) (da_cons (de_isP hc KI.ec z (dv 0) rfl B.isinstance rfl (G.all "NoRank" (by decide +kernel)) (KI.it 10 (by decide))) (da_cons (de_isP hc KI.ec z (dv 0) rfl B.isinstance rfl (G.all "NoTicks" (by decide +kernel)) (KI.it 11 (by decide))) da_nil))))))) (dss_cons (ds_set sc_l_kinds.nd rfl (by first | exact Or.inl rfl | exact Or.inr rfl) (de_op ro_add op_addAll (dv 1) (de_lst (da_cons (de_isP hc KI.ec z (dv 0) rfl B.isinstance rfl (G.all "Taken" (by decide +kernel)) (KI.it 12 (by decide))) (da_cons (de_isP hc KI.ec z (dv 0) rfl B.isinstance rfl (G.all "NotThere" (by decide +kernel)) (KI.it 13 (by decide))) (da_cons (de_isP hc KI.ec z (dv 0) rfl B.isinstance rfl (G.all "LaneError" (by decide +kernel)) KI.le) (da_cons (de_isPb hc KI.ec z (dv 0) rfl B.isinstance rfl G.ve (by rfl) KI.ve) da_nil))))))) (dss_cons (ds_set sc_l_kinds.nd rfl (by first | exact Or.inl rfl | exact Or.inr rfl) de_str) (dss_one (ds_ret (de_lcH hc.c sc_l_kinds.nd (di_zipH rfl B.zip (da_cons (de_split (dv 2) de_str) (da_cons (dv 1) da_nil))) (blkOk_by (own := [("word", 3), ("good", 4)]) (by show blkC ["e", "some", "words", "word", "good"] (defScope st_l_kinds) _ _ = true; decide +kernel)) (fun _ _ _ _ _ _ => dg_tH (HotC.blk hc.c _ _ _ _ _) (dgs_cons (dg_n sc_l_kinds.nd rfl (by first | exact Or.inl rfl | exact Or.inr rfl)) (dgs_cons (dg_n sc_l_kinds.nd rfl (by first | exact Or.inl rfl | exact Or.inr rfl)) dgs_nil))) (fun _ _ _ _ _ _ => (dts_one (dt_val (dv 4)))) (fun _ _ _ _ _ _ => (dv 3)))))))))),
   w_l_kinds p.1 i⟩
theorem d_l_refusal (KI : KdI K xa i) (d : DefAt K mg "_law_refusal" st_l_refusal ["e"]) (c_l_kinds : DefOkE P w K mg base xa p "_law_kinds" 1 ["e"] (F_l_kinds p.1 i)) : DefOkE P w K mg base xa p "_law_refusal" 2 ["e"] (F_l_refusal p.1 i) :=
  d.dlE sc_l_refusal (fun ds Q E h => by obtain ⟨rfl, _⟩ := h; rfl) fun f cdv A outer s H E g hr hc => have hu : (cxE P w K mg base ["e", "kinds"] "_law_refusal" st_l_refusal f cdv A outer s H E p).A.units + 64 < cLine := (by have := hr.un; omega)
   ⟨t_l_refusal p.1 i, (dss_cons (ds_set sc_l_refusal.nd rfl (by first | exact Or.inl rfl | exact Or.inr rfl) (dcallE c_l_kinds hr (by decide) hc (da_cons (dv 0) da_nil))) (dss_one (ds_ret (de_ifExp (dt_cmp ro_eq (op_eqD hu) (de_slice (dv 1) (do_some de_int) do_none) (de_lst (da_cons de_str (da_cons de_str da_nil))) rfl) (de_ix hu (dv 1) de_int) de_str)))),
   w_l_refusal p.1 i⟩
end
section
variable {P : Program} {w : World} {K : PySem.W.Frag} {mg : Str → Option Value} {base : Heap} {xa : Str → Addr}
theorem sc_is_whole : FnScope ["thing", "low", "high"] ["thing", "low", "high"] (defScope st_is_whole) := ⟨rfl, rfl, rfl, by decide +kernel, rfl, by decide +kernel, by decide +kernel⟩
theorem d_is_whole (B : BF mg) (C : CF mg) (XF : XFs K mg xa) (d : DefAt K mg "is_whole" st_is_whole ["thing", "low", "high"]) : DefOk P w K mg base xa "is_whole" 1 ["thing", "low", "high"] (fP F_is_whole) :=
  d.dl ret_V sc_is_whole (fP_len len_is_whole) fun f cdv A outer s H E g hr => have hu := hr.units
    ⟨fun Wd => t_is_whole Wd, fun Wd tk => (dss_one (ds_ret (de_and (de_isi .int (dv 0) (by rfl) B.isinstance (by rfl) B.int boot_int) (de_and (de_not (de_isi .bool (dv 0) (by rfl) B.isinstance (by rfl) B.bool boot_bool)) (de_one (de_chain ro_le ro_le op_le op_le (dv 1) (dv 0) (dv 2))))))),
      w_is_whole.use⟩
theorem sc_is_name : FnScope ["thing", "sign"] ["thing"] (defScope st_is_name) := ⟨rfl, rfl, rfl, by decide +kernel, rfl, by decide +kernel, by decide +kernel⟩
theorem d_is_name (B : BF mg) (C : CF mg) (XF : XFs K mg xa) (d : DefAt K mg "is_name" st_is_name ["thing"]) : DefOk P w K mg base xa "is_name" 1 ["thing"] (fP F_is_name) :=
  d.dl ret_V sc_is_name (fP_len len_is_name) fun f cdv A outer s H E g hr => have hu := hr.units
    ⟨fun Wd => t_is_name Wd, fun Wd tk => (dss_one (ds_ret (de_and (de_isi .str (dv 0) (by rfl) B.isinstance (by rfl) B.str boot_str) (de_and (de_chain ro_le ro_le op_le op_le de_int (de_callB rc_len call_lenAll (by rfl) B.len boot_len (da_cons (dv 0) da_nil)) de_int) (de_one (de_callB rc_all (cr_all (by rfl)) (by rfl) B.all boot_all (da_cons (de_lc (by rfl) sc_is_name.nd (di_seq (dv 0)) (blkOk_by (own := [("sign", 1)]) (by show blkC ["thing", "sign"] (defScope st_is_name) _ _ = true; decide +kernel)) (fun _ _ _ _ _ _ => (dg_n sc_is_name.nd (by rfl) (by first | exact Or.inl rfl | exact Or.inr rfl))) (fun _ _ _ _ _ _ => dts_nil) (fun _ _ _ _ _ _ => (de_cmp ro_in (op_inAll hu) (dv 1) (de_glob (by rfl) C.LETTERS (fun _ => rfl)) rfl))) da_nil))))))),
      w_is_name.use⟩
theorem sc_is_lane : FnScope ["thing"] ["thing"] (defScope st_is_lane) := ⟨rfl, rfl, rfl, by decide +kernel, rfl, by decide +kernel, by decide +kernel⟩
theorem d_is_lane (B : BF mg) (C : CF mg) (XF : XFs K mg xa) (d : DefAt K mg "is_lane" st_is_lane ["thing"]) (c_is_name : DefOk P w K mg base xa "is_name" 1 ["thing"] (fP F_is_name)) (c_is_whole : DefOk P w K mg base xa "is_whole" 1 ["thing", "low", "high"] (fP F_is_whole)) : DefOk P w K mg base xa "is_lane" 2 ["thing"] (fP F_is_lane) :=
  d.dl ret_V sc_is_lane (fP_len len_is_lane) fun f cdv A outer s H E g hr => have hu := hr.units
    ⟨fun Wd => t_is_lane Wd, fun Wd tk => (dss_cons (ds_if (dt_bool (dw_or (dt_not (dt_val (de_isi .tup (dv 0) (by rfl) B.isinstance (by rfl) B.tuple boot_tuple))) (dw_or (dt_cmp ro_ne (op_neD hu) (de_callB rc_len call_lenAll (by rfl) B.len boot_len (da_cons (dv 0) da_nil)) de_int rfl) (dw_or (dt_not (dt_val (dcall c_is_name hr (by decide) tk (da_cons (de_ix hu (dv 0) de_int) da_nil)))) (dw_or1 (dt_not (dt_val (dcall c_is_name hr (by decide) tk (da_cons (de_ix hu (dv 0) de_int) da_nil))))))))) (dss_one (ds_ret de_bl)) dss_nil) (dss_one (ds_ret (de_and (de_cmp ro_ne (op_neD hu) (de_ix hu (dv 0) de_int) (de_glob (by rfl) C.HOME (fun _ => rfl)) rfl) (de_and (dcall c_is_whole hr (by decide) tk (da_cons (de_ix hu (dv 0) de_int) (da_cons de_int (da_cons (de_glob (by rfl) C.MOST_WIDE (fun _ => rfl)) da_nil)))) (de_one (dcall c_is_whole hr (by decide) tk (da_cons (de_ix hu (dv 0) de_int) (da_cons de_int (da_cons (de_glob (by rfl) C.MOST_LONG (fun _ => rfl)) da_nil)))))))))),
      w_is_lane.use⟩
theorem sc_table_of : FnScope ["lanes", "lane"] ["lanes"] (defScope st_table_of) := ⟨rfl, rfl, rfl, by decide +kernel, rfl, by decide +kernel, by decide +kernel⟩
theorem d_table_of (B : BF mg) (C : CF mg) (XF : XFs K mg xa) (d : DefAt K mg "table_of" st_table_of ["lanes"]) : DefOk P w K mg base xa "table_of" 1 ["lanes"] (fP F_table_of) :=
  d.dl ret_V sc_table_of (fP_len len_table_of) fun f cdv A outer s H E g hr => have hu := hr.units
    ⟨fun Wd => t_table_of Wd, fun Wd tk => (dss_one (ds_ret (de_dc (by rfl) sc_table_of.nd (di_seq (dv 0)) (blkOk_by (own := [("lane", 1)]) (by show blkC ["lanes", "lane"] (defScope st_table_of) _ _ = true; decide +kernel)) (fun _ _ _ _ _ _ => (dg_n sc_table_of.nd (by rfl) (by first | exact Or.inl rfl | exact Or.inr rfl))) (fun _ _ _ _ _ _ => dts_nil) (fun _ _ _ _ _ _ => (de_ix hu (dv 1) de_int)) (fun _ _ _ _ _ _ => (de_slice (dv 1) (do_some de_int) do_none))))),
      w_table_of.use⟩
theorem sc_way_of : FnScope ["lanes", "crossing", "table", "found"] ["lanes", "crossing"] (defScope st_way_of) := ⟨rfl, rfl, rfl, by decide +kernel, rfl, by decide +kernel, by decide +kernel⟩
theorem d_way_of (B : BF mg) (C : CF mg) (XF : XFs K mg xa) (d : DefAt K mg "way_of" st_way_of ["lanes", "crossing"]) (c_table_of : DefOk P w K mg base xa "table_of" 1 ["lanes"] (fP F_table_of)) : DefOk P w K mg base xa "way_of" 2 ["lanes", "crossing"] (fP F_way_of) :=
  d.dl ret_V sc_way_of (fP_len len_way_of) fun f cdv A outer s H E g hr => have hu := hr.units
    ⟨fun Wd => t_way_of Wd, fun Wd tk => (dss_cons (ds_par (by rfl) sc_way_of.nd (by rfl) (by rfl) (by decide) (by rfl) (by rfl) (da_cons (dcall c_table_of hr (by decide) tk (da_cons (dv 0) da_nil)) (da_cons (de_lstM da_nil) da_nil)) rfl) (dss_cons (ds_while (passes_of rfl) (dt_cmp ro_ne (op_neD hu) (dv 1) (de_glob (by rfl) C.HOME (fun _ => rfl)) rfl) (dss_cons (ds_if (dt_bool (dw_or (dt_cmp ro_notIn (op_notInAll hu) (dv 1) (dv 2) rfl) (dw_or1 (dt_cmp ro_in (op_inAll hu) (dv 1) (dv 3) rfl)))) (dss_one (ds_ret de_non)) dss_nil) (dss_cons (ds_expr (de_append (dv 3) (da_cons (dv 1) da_nil))) (dss_one (ds_set sc_way_of.nd (by rfl) (by first | exact Or.inl rfl | exact Or.inr rfl) (de_ix hu (de_ix hu (dv 2) (dv 1)) de_int)))))) (dss_one (ds_ret (dv 3))))),
      w_way_of.use⟩
theorem sc_are_lanes : FnScope ["thing", "lane", "k", "one"] ["thing"] (defScope st_are_lanes) := ⟨rfl, rfl, rfl, by decide +kernel, rfl, by decide +kernel, by decide +kernel⟩
theorem d_are_lanes (B : BF mg) (C : CF mg) (XF : XFs K mg xa) (d : DefAt K mg "are_lanes" st_are_lanes ["thing"]) (c_is_lane : DefOk P w K mg base xa "is_lane" 2 ["thing"] (fP F_is_lane)) (c_way_of : DefOk P w K mg base xa "way_of" 2 ["lanes", "crossing"] (fP F_way_of)) : DefOk P w K mg base xa "are_lanes" 3 ["thing"] (fP F_are_lanes) :=
  d.dl ret_V sc_are_lanes (fP_len len_are_lanes) fun f cdv A outer s H E g hr => have hu := hr.units
    ⟨fun Wd => t_are_lanes Wd, fun Wd tk => (dss_cons (ds_if (dt_bool (dw_or (dt_not (dt_val (de_isi .tup (dv 0) (by rfl) B.isinstance (by rfl) B.tuple boot_tuple))) (dw_or (dt_not (dt_chain ro_le ro_le op_le op_le de_int (de_callB rc_len call_lenAll (by rfl) B.len boot_len (da_cons (dv 0) da_nil)) (de_glob (by rfl) C.MOST_LANES (fun _ => rfl)))) (dw_or1 (dt_not (dt_val (de_callB rc_all (cr_all (by rfl)) (by rfl) B.all boot_all (da_cons (de_lc (by rfl) sc_are_lanes.nd (di_seq (dv 0)) (blkOk_by (own := [("one", 3)]) (by show blkC ["thing", "lane", "k", "one"] (defScope st_are_lanes) _ _ = true; decide +kernel)) (fun _ _ _ _ _ _ => (dg_n sc_are_lanes.nd (by rfl) (by first | exact Or.inl rfl | exact Or.inr rfl))) (fun _ _ _ _ _ _ => dts_nil) (fun _ _ _ _ _ _ => (dcall c_is_lane hr (by decide) takesN (da_cons (dv 3) da_nil)))) da_nil)))))))) (dss_one (ds_ret de_bl)) dss_nil) (dss_cons (ds_if (dt_not (dt_val (de_callB rc_all (cr_all (by rfl)) (by rfl) B.all boot_all (da_cons (de_lc (by rfl) sc_are_lanes.nd (di_range1 (by rfl) B.range (da_cons (de_op ro_sub op_sub (de_callB rc_len call_lenAll (by rfl) B.len boot_len (da_cons (dv 0) da_nil)) de_int) da_nil)) (blkOk_by (own := [("k", 2)]) (by show blkC ["thing", "lane", "k", "one"] (defScope st_are_lanes) _ _ = true; decide +kernel)) (fun _ _ _ _ _ _ => (dg_n sc_are_lanes.nd (by rfl) (by first | exact Or.inl rfl | exact Or.inr rfl))) (fun _ _ _ _ _ _ => dts_nil) (fun _ _ _ _ _ _ => (de_cmp ro_ltA (op_ltA hu) (de_ix hu (de_ix hu (dv 0) (dv 2)) de_int) (de_ix hu (de_ix hu (dv 0) (de_op ro_add op_addAll (dv 2) de_int)) de_int) rfl))) da_nil)))) (dss_one (ds_ret de_bl)) dss_nil) (dss_one (ds_ret (de_callB rc_all (cr_all (by rfl)) (by rfl) B.all boot_all (da_cons (de_lc (by rfl) sc_are_lanes.nd (di_seq (dv 0)) (blkOk_by (own := [("lane", 1)]) (by show blkC ["thing", "lane", "k", "one"] (defScope st_are_lanes) _ _ = true; decide +kernel)) (fun _ _ _ _ _ _ => (dg_n sc_are_lanes.nd (by rfl) (by first | exact Or.inl rfl | exact Or.inr rfl))) (fun _ _ _ _ _ _ => dts_nil) (fun _ _ _ _ _ _ => (de_cmp ro_notN op_notN (dcall c_way_of hr (by decide) takesN (da_cons (dv 0) (da_cons (de_ix hu (dv 1) de_int) da_nil))) de_non rfl))) da_nil)))))),
      w_are_lanes.use⟩
theorem sc_need_lanes : FnScope ["lanes"] ["lanes"] (defScope st_need_lanes) := ⟨rfl, rfl, rfl, by decide +kernel, rfl, by decide +kernel, by decide +kernel⟩
theorem d_need_lanes (B : BF mg) (C : CF mg) (XF : XFs K mg xa) (d : DefAt K mg "need_lanes" st_need_lanes ["lanes"]) (c_are_lanes : DefOk P w K mg base xa "are_lanes" 3 ["thing"] (fP F_are_lanes)) : DefOk P w K mg base xa "need_lanes" 4 ["lanes"] (fP F_need_lanes) :=
  d.dl ret_V sc_need_lanes (fP_len len_need_lanes) fun f cdv A outer s H E g hr => have hu := hr.units
    ⟨fun Wd => t_need_lanes Wd, fun Wd tk => (dss_one (ds_if (dt_not (dt_val (dcall c_are_lanes hr (by decide) tk (da_cons (dv 0) da_nil)))) (dss_one (ds_raise (by rfl) tk (L2N.pmk_own PySem.F.excBase_ValueError XF.NoLanes.q XF.NoLanes.g XF.NoLanes.k (raises_own XF.NoLanes.b XF.NoLanes.t) rfl) (fun _ _ _ h => h))) dss_nil)),
      w_need_lanes.use⟩
theorem sc_is_crossing : FnScope ["lanes", "thing"] ["lanes", "thing"] (defScope st_is_crossing) := ⟨rfl, rfl, rfl, by decide +kernel, rfl, by decide +kernel, by decide +kernel⟩
theorem d_is_crossing (B : BF mg) (C : CF mg) (XF : XFs K mg xa) (d : DefAt K mg "is_crossing" st_is_crossing ["lanes", "thing"]) (c_table_of : DefOk P w K mg base xa "table_of" 1 ["lanes"] (fP F_table_of)) : DefOk P w K mg base xa "is_crossing" 2 ["lanes", "thing"] (fP F_is_crossing) :=
  d.dl ret_V sc_is_crossing (fP_len len_is_crossing) fun f cdv A outer s H E g hr => have hu := hr.units
    ⟨fun Wd => t_is_crossing Wd, fun Wd tk => (dss_one (ds_ret (de_and (de_isi .str (dv 1) (by rfl) B.isinstance (by rfl) B.str boot_str) (de_one (de_cmp ro_in (op_inAll hu) (dv 1) (dcall c_table_of hr (by decide) tk (da_cons (dv 0) da_nil)) rfl))))),
      w_is_crossing.use⟩
theorem sc_is_one : FnScope ["lanes", "thing"] ["lanes", "thing"] (defScope st_is_one) := ⟨rfl, rfl, rfl, by decide +kernel, rfl, by decide +kernel, by decide +kernel⟩
theorem d_is_one (B : BF mg) (C : CF mg) (XF : XFs K mg xa) (d : DefAt K mg "is_one" st_is_one ["lanes", "thing"]) (c_is_crossing : DefOk P w K mg base xa "is_crossing" 2 ["lanes", "thing"] (fP F_is_crossing)) (c_is_name : DefOk P w K mg base xa "is_name" 1 ["thing"] (fP F_is_name)) (c_is_whole : DefOk P w K mg base xa "is_whole" 1 ["thing", "low", "high"] (fP F_is_whole)) : DefOk P w K mg base xa "is_one" 3 ["lanes", "thing"] (fP F_is_one) :=
  d.dl ret_V sc_is_one (fP_len len_is_one) fun f cdv A outer s H E g hr => have hu := hr.units
    ⟨fun Wd => t_is_one Wd, fun Wd tk => (dss_cons (ds_if (dt_bool (dw_or (dt_not (dt_val (de_isi .tup (dv 1) (by rfl) B.isinstance (by rfl) B.tuple boot_tuple))) (dw_or (dt_cmp ro_ne (op_neD hu) (de_callB rc_len call_lenAll (by rfl) B.len boot_len (da_cons (dv 1) da_nil)) de_int rfl) (dw_or1 (dt_not (dt_val (dcall c_is_name hr (by decide) tk (da_cons (de_ix hu (dv 1) de_int) da_nil)))))))) (dss_one (ds_ret de_bl)) dss_nil) (dss_one (ds_ret (de_and (dcall c_is_crossing hr (by decide) tk (da_cons (dv 0) (da_cons (de_ix hu (dv 1) de_int) da_nil))) (de_one (dcall c_is_whole hr (by decide) tk (da_cons (de_ix hu (dv 1) de_int) (da_cons de_int (da_cons (de_glob (by rfl) C.MOST_TICK (fun _ => rfl)) da_nil))))))))),
      w_is_one.use⟩
theorem sc_are_folk_of : FnScope ["lanes", "thing", "k", "one"] ["lanes", "thing"] (defScope st_are_folk_of) := ⟨rfl, rfl, rfl, by decide +kernel, rfl, by decide +kernel, by decide +kernel⟩
theorem d_are_folk_of (B : BF mg) (C : CF mg) (XF : XFs K mg xa) (d : DefAt K mg "are_folk_of" st_are_folk_of ["lanes", "thing"]) (c_is_one : DefOk P w K mg base xa "is_one" 3 ["lanes", "thing"] (fP F_is_one)) : DefOk P w K mg base xa "are_folk_of" 4 ["lanes", "thing"] (fP F_are_folk_of) :=
  d.dl ret_V sc_are_folk_of (fP_len len_are_folk_of) fun f cdv A outer s H E g hr => have hu := hr.units
    ⟨fun Wd => t_are_folk_of Wd, fun Wd tk => (dss_cons (ds_if (dt_bool (dw_or (dt_not (dt_val (de_isi .tup (dv 1) (by rfl) B.isinstance (by rfl) B.tuple boot_tuple))) (dw_or1 (dt_not (dt_chain ro_le ro_le op_le op_le de_int (de_callB rc_len call_lenAll (by rfl) B.len boot_len (da_cons (dv 1) da_nil)) (de_glob (by rfl) C.MOST_FOLK (fun _ => rfl))))))) (dss_one (ds_ret de_bl)) dss_nil) (dss_cons (ds_if (dt_not (dt_val (de_callB rc_all (cr_all (by rfl)) (by rfl) B.all boot_all (da_cons (de_lc (by rfl) sc_are_folk_of.nd (di_seq (dv 1)) (blkOk_by (own := [("one", 3)]) (by show blkC ["lanes", "thing", "k", "one"] (defScope st_are_folk_of) _ _ = true; decide +kernel)) (fun _ _ _ _ _ _ => (dg_n sc_are_folk_of.nd (by rfl) (by first | exact Or.inl rfl | exact Or.inr rfl))) (fun _ _ _ _ _ _ => dts_nil) (fun _ _ _ _ _ _ => (dcall c_is_one hr (by decide) takesN (da_cons (dv 0) (da_cons (dv 3) da_nil))))) da_nil)))) (dss_one (ds_ret de_bl)) dss_nil) (dss_one (ds_ret (de_callB rc_all (cr_all (by rfl)) (by rfl) B.all boot_all (da_cons (de_lc (by rfl) sc_are_folk_of.nd (di_range1 (by rfl) B.range (da_cons (de_op ro_sub op_sub (de_callB rc_len call_lenAll (by rfl) B.len boot_len (da_cons (dv 1) da_nil)) de_int) da_nil)) (blkOk_by (own := [("k", 2)]) (by show blkC ["lanes", "thing", "k", "one"] (defScope st_are_folk_of) _ _ = true; decide +kernel)) (fun _ _ _ _ _ _ => (dg_n sc_are_folk_of.nd (by rfl) (by first | exact Or.inl rfl | exact Or.inr rfl))) (fun _ _ _ _ _ _ => dts_nil) (fun _ _ _ _ _ _ => (de_cmp ro_ltA (op_ltA hu) (de_ix hu (de_ix hu (dv 1) (dv 2)) de_int) (de_ix hu (de_ix hu (dv 1) (de_op ro_add op_addAll (dv 2) de_int)) de_int) rfl))) da_nil)))))),
      w_are_folk_of.use⟩
theorem sc_need_folk : FnScope ["lanes", "folk"] ["lanes", "folk"] (defScope st_need_folk) := ⟨rfl, rfl, rfl, by decide +kernel, rfl, by decide +kernel, by decide +kernel⟩
theorem d_need_folk (B : BF mg) (C : CF mg) (XF : XFs K mg xa) (d : DefAt K mg "need_folk" st_need_folk ["lanes", "folk"]) (c_are_folk_of : DefOk P w K mg base xa "are_folk_of" 4 ["lanes", "thing"] (fP F_are_folk_of)) (c_need_lanes : DefOk P w K mg base xa "need_lanes" 4 ["lanes"] (fP F_need_lanes)) : DefOk P w K mg base xa "need_folk" 5 ["lanes", "folk"] (fP F_need_folk) :=
  d.dl ret_V sc_need_folk (fP_len len_need_folk) fun f cdv A outer s H E g hr => have hu := hr.units
    ⟨fun Wd => t_need_folk Wd, fun Wd tk => (dss_cons (ds_expr (dcall c_need_lanes hr (by decide) tk (da_cons (dv 0) da_nil))) (dss_one (ds_if (dt_not (dt_val (dcall c_are_folk_of hr (by decide) tk (da_cons (dv 0) (da_cons (dv 1) da_nil))))) (dss_one (ds_raise (by rfl) tk (L2N.pmk_own PySem.F.excBase_ValueError XF.NoFolk.q XF.NoFolk.g XF.NoFolk.k (raises_own XF.NoFolk.b XF.NoFolk.t) rfl) (fun _ _ _ h => h))) dss_nil))),
      w_need_folk.use⟩
theorem sc_comes_out : FnScope ["lanes", "one", "ticks", "table", "way", "found", "there", "here", "tick"] ["lanes", "one", "ticks"] (defScope st_comes_out) := ⟨rfl, rfl, rfl, by decide +kernel, rfl, by decide +kernel, by decide +kernel⟩
theorem d_comes_out (B : BF mg) (C : CF mg) (XF : XFs K mg xa) (d : DefAt K mg "comes_out" st_comes_out ["lanes", "one", "ticks"]) (c_table_of : DefOk P w K mg base xa "table_of" 1 ["lanes"] (fP F_table_of)) (c_way_of : DefOk P w K mg base xa "way_of" 2 ["lanes", "crossing"] (fP F_way_of)) : DefOk P w K mg base xa "comes_out" 3 ["lanes", "one", "ticks"] (fP F_comes_out) :=
  d.dl ret_V sc_comes_out (fP_len len_comes_out) fun f cdv A outer s H E g hr => have hu := hr.units
    ⟨fun Wd => t_comes_out Wd, fun Wd tk => (dss_cons (ds_par (by rfl) sc_comes_out.nd (by rfl) (by rfl) (by decide) (by rfl) (by rfl) (da_cons (dcall c_table_of hr (by decide) tk (da_cons (dv 0) da_nil)) (da_cons (dcall c_way_of hr (by decide) tk (da_cons (dv 0) (da_cons (de_ix hu (dv 1) de_int) da_nil))) da_nil)) rfl) (dss_cons (ds_if (dt_bool (dw_or (dt_not (dt_val (de_isi .tup (dv 2) (by rfl) B.isinstance (by rfl) B.tuple boot_tuple))) (dw_or1 (dt_cmp ro_ne (op_neD hu) (de_callB rc_len call_lenAll (by rfl) B.len boot_len (da_cons (dv 2) da_nil)) (de_callB rc_len call_lenAll (by rfl) B.len boot_len (da_cons (dv 4) da_nil)) rfl)))) (dss_one (ds_ret de_non)) dss_nil) (dss_cons (ds_if (dt_not (dt_val (de_callB rc_all (cr_all (by rfl)) (by rfl) B.all boot_all (da_cons (de_lc (by rfl) sc_comes_out.nd (di_seq (dv 2)) (blkOk_by (own := [("tick", 8)]) (by show blkC ["lanes", "one", "ticks", "table", "way", "found", "there", "here", "tick"] (defScope st_comes_out) _ _ = true; decide +kernel)) (fun _ _ _ _ _ _ => (dg_n sc_comes_out.nd (by rfl) (by first | exact Or.inl rfl | exact Or.inr rfl))) (fun _ _ _ _ _ _ => dts_nil) (fun _ _ _ _ _ _ => (de_and (de_isi .int (dv 8) (by rfl) B.isinstance (by rfl) B.int boot_int) (de_one (de_not (de_isi .bool (dv 8) (by rfl) B.isinstance (by rfl) B.bool boot_bool)))))) da_nil)))) (dss_one (ds_ret de_non)) dss_nil) (dss_cons (ds_par (by rfl) sc_comes_out.nd (by rfl) (by rfl) (by decide) (by rfl) (by rfl) (da_cons (de_lstM da_nil) (da_cons (de_ix hu (dv 1) de_int) da_nil)) rfl) (dss_cons (ds_for (passes_of rfl) (by rfl) (di_zip2 (by rfl) B.zip (da_cons (dv 4) (da_cons (dv 2) da_nil))) (dg_t (by rfl) (dgs_cons (dg_n sc_comes_out.nd (by rfl) (by first | exact Or.inl rfl | exact Or.inr rfl)) (dgs_cons (dg_n sc_comes_out.nd (by rfl) (by first | exact Or.inl rfl | exact Or.inr rfl)) dgs_nil))) (dss_cons (ds_if (dt_cmp ro_ltA (op_ltA hu) (dv 8) (dv 6) rfl) (dss_one (ds_ret de_non)) dss_nil) (dss_cons (ds_set sc_comes_out.nd (by rfl) (by first | exact Or.inl rfl | exact Or.inr rfl) (de_op ro_add op_addAll (dv 8) (de_ix hu (de_ix hu (dv 3) (dv 7)) de_int))) (dss_one (ds_expr (de_append (dv 5) (da_cons (dv 6) da_nil))))))) (dss_one (ds_ret (dv 5)))))))),
      w_comes_out.use⟩
theorem sc_is_plan_of : FnScope ["lanes", "folk", "thing", "goes_in", "table", "one", "ticks", "pair"] ["lanes", "folk", "thing"] (defScope st_is_plan_of) := ⟨rfl, rfl, rfl, by decide +kernel, rfl, by decide +kernel, by decide +kernel⟩
theorem d_is_plan_of (B : BF mg) (C : CF mg) (XF : XFs K mg xa) (d : DefAt K mg "is_plan_of" st_is_plan_of ["lanes", "folk", "thing"]) (c_comes_out : DefOk P w K mg base xa "comes_out" 3 ["lanes", "one", "ticks"] (fP F_comes_out)) (c_table_of : DefOk P w K mg base xa "table_of" 1 ["lanes"] (fP F_table_of)) (c_way_of : DefOk P w K mg base xa "way_of" 2 ["lanes", "crossing"] (fP F_way_of)) : DefOk P w K mg base xa "is_plan_of" 4 ["lanes", "folk", "thing"] (fP F_is_plan_of) :=
  d.dl ret_V sc_is_plan_of (fP_len len_is_plan_of) fun f cdv A outer s H E g hr => have hu := hr.units
    ⟨fun Wd => t_is_plan_of Wd, fun Wd tk => (dss_cons (ds_if (dt_bool (dw_or (dt_not (dt_val (de_isi .tup (dv 2) (by rfl) B.isinstance (by rfl) B.tuple boot_tuple))) (dw_or1 (dt_cmp ro_ne (op_neD hu) (de_callB rc_len call_lenAll (by rfl) B.len boot_len (da_cons (dv 2) da_nil)) (de_callB rc_len call_lenAll (by rfl) B.len boot_len (da_cons (dv 1) da_nil)) rfl)))) (dss_one (ds_ret de_bl)) dss_nil) (dss_cons (ds_if (dt_not (dt_val (de_callB rc_all (cr_all (by rfl)) (by rfl) B.all boot_all (da_cons (de_lc (by rfl) sc_is_plan_of.nd (di_zip2 (by rfl) B.zip (da_cons (dv 1) (da_cons (dv 2) da_nil))) (blkOk_by (own := [("one", 5), ("ticks", 6)]) (by show blkC ["lanes", "folk", "thing", "goes_in", "table", "one", "ticks", "pair"] (defScope st_is_plan_of) _ _ = true; decide +kernel)) (fun _ _ _ _ _ _ => (dg_t (by rfl) (dgs_cons (dg_n sc_is_plan_of.nd (by rfl) (by first | exact Or.inl rfl | exact Or.inr rfl)) (dgs_cons (dg_n sc_is_plan_of.nd (by rfl) (by first | exact Or.inl rfl | exact Or.inr rfl)) dgs_nil)))) (fun _ _ _ _ _ _ => dts_nil) (fun _ _ _ _ _ _ => (de_cmp ro_notN op_notN (dcall c_comes_out hr (by decide) takesN (da_cons (dv 0) (da_cons (dv 5) (da_cons (dv 6) da_nil)))) de_non rfl))) da_nil)))) (dss_one (ds_ret de_bl)) dss_nil) (dss_cons (ds_set sc_is_plan_of.nd (by rfl) (by first | exact Or.inl rfl | exact Or.inr rfl) (de_lc2 (by rfl) sc_is_plan_of.nd (di_zip2 (by rfl) B.zip (da_cons (dv 1) (da_cons (dv 2) da_nil))) (blkOk_by (own := [("one", 5), ("ticks", 6), ("pair", 7)]) (by show blkC ["lanes", "folk", "thing", "goes_in", "table", "one", "ticks", "pair"] (defScope st_is_plan_of) _ _ = true; decide +kernel)) (vs1 := [7]) (fun _ _ _ _ _ _ => (dg_t (by rfl) (dgs_cons (dg_n sc_is_plan_of.nd (by rfl) (by first | exact Or.inl rfl | exact Or.inr rfl)) (dgs_cons (dg_n sc_is_plan_of.nd (by rfl) (by first | exact Or.inl rfl | exact Or.inr rfl)) dgs_nil)))) (fun _ _ _ _ _ _ => (di_zipN2 (by rfl) B.zip (da_cons (dcall c_way_of hr (by decide) takesN (da_cons (dv 0) (da_cons (de_ix hu (dv 5) de_int) da_nil))) (da_cons (dv 6) da_nil)))) (fun _ _ _ _ _ _ => (dg_n sc_is_plan_of.nd (by rfl) (by first | exact Or.inl rfl | exact Or.inr rfl))) (fun _ _ _ _ _ _ => (dv 7)))) (dss_cons (ds_set sc_is_plan_of.nd (by rfl) (by first | exact Or.inl rfl | exact Or.inr rfl) (dcall c_table_of hr (by decide) tk (da_cons (dv 0) da_nil))) (dss_one (ds_ret (de_callB rc_all (cr_all (by rfl)) (by rfl) B.all boot_all (da_cons (de_lc (by rfl) sc_is_plan_of.nd (di_seq (dv 3)) (blkOk_by (own := [("pair", 7)]) (by show blkC ["lanes", "folk", "thing", "goes_in", "table", "one", "ticks", "pair"] (defScope st_is_plan_of) _ _ = true; decide +kernel)) (fun _ _ _ _ _ _ => (dg_n sc_is_plan_of.nd (by rfl) (by first | exact Or.inl rfl | exact Or.inr rfl))) (fun _ _ _ _ _ _ => dts_nil) (fun _ _ _ _ _ _ => (de_cmp ro_le op_le (de_count hu (dv 3) (da_cons (dv 7) da_nil)) (de_ix hu (de_ix hu (dv 4) (de_ix hu (dv 7) de_int)) de_int) rfl))) da_nil)))))))),
      w_is_plan_of.use⟩
theorem sc_is_plan : FnScope ["lanes", "folk", "thing"] ["lanes", "folk", "thing"] (defScope st_is_plan) := ⟨rfl, rfl, rfl, by decide +kernel, rfl, by decide +kernel, by decide +kernel⟩
theorem d_is_plan (B : BF mg) (C : CF mg) (XF : XFs K mg xa) (d : DefAt K mg "is_plan" st_is_plan ["lanes", "folk", "thing"]) (c_is_plan_of : DefOk P w K mg base xa "is_plan_of" 4 ["lanes", "folk", "thing"] (fP F_is_plan_of)) (c_need_folk : DefOk P w K mg base xa "need_folk" 5 ["lanes", "folk"] (fP F_need_folk)) : DefOk P w K mg base xa "is_plan" 6 ["lanes", "folk", "thing"] (fP F_is_plan) :=
  d.dl ret_V sc_is_plan (fP_len len_is_plan) fun f cdv A outer s H E g hr => have hu := hr.units
    ⟨fun Wd => t_is_plan Wd, fun Wd tk => (dss_cons (ds_expr (dcall c_need_folk hr (by decide) tk (da_cons (dv 0) (da_cons (dv 1) da_nil)))) (dss_one (ds_ret (dcall c_is_plan_of hr (by decide) tk (da_cons (dv 0) (da_cons (dv 1) (da_cons (dv 2) da_nil))))))),
      w_is_plan.use⟩
theorem sc_is_order : FnScope ["folk", "thing", "one", "name"] ["folk", "thing"] (defScope st_is_order) := ⟨rfl, rfl, rfl, by decide +kernel, rfl, by decide +kernel, by decide +kernel⟩
theorem d_is_order (B : BF mg) (C : CF mg) (XF : XFs K mg xa) (d : DefAt K mg "is_order" st_is_order ["folk", "thing"]) : DefOk P w K mg base xa "is_order" 1 ["folk", "thing"] (fP F_is_order) :=
  d.dl ret_V sc_is_order (fP_len len_is_order) fun f cdv A outer s H E g hr => have hu := hr.units
    ⟨fun Wd => t_is_order Wd, fun Wd tk => (dss_cons (ds_if (dt_bool (dw_or (dt_not (dt_val (de_isi .tup (dv 1) (by rfl) B.isinstance (by rfl) B.tuple boot_tuple))) (dw_or1 (dt_not (dt_val (de_callB rc_all (cr_all (by rfl)) (by rfl) B.all boot_all (da_cons (de_lc (by rfl) sc_is_order.nd (di_seq (dv 1)) (blkOk_by (own := [("name", 3)]) (by show blkC ["folk", "thing", "one", "name"] (defScope st_is_order) _ _ = true; decide +kernel)) (fun _ _ _ _ _ _ => (dg_n sc_is_order.nd (by rfl) (by first | exact Or.inl rfl | exact Or.inr rfl))) (fun _ _ _ _ _ _ => dts_nil) (fun _ _ _ _ _ _ => (de_isi .str (dv 3) (by rfl) B.isinstance (by rfl) B.str boot_str))) da_nil))))))) (dss_one (ds_ret de_bl)) dss_nil) (dss_one (ds_ret (de_cmp ro_eq (op_eqD hu) (de_callB rc_sortedA (cr_sortedA hu) (by rfl) B.sorted boot_sorted (da_cons (dv 1) da_nil)) (de_lc (by rfl) sc_is_order.nd (di_seq (dv 0)) (blkOk_by (own := [("one", 2)]) (by show blkC ["folk", "thing", "one", "name"] (defScope st_is_order) _ _ = true; decide +kernel)) (fun _ _ _ _ _ _ => (dg_n sc_is_order.nd (by rfl) (by first | exact Or.inl rfl | exact Or.inr rfl))) (fun _ _ _ _ _ _ => dts_nil) (fun _ _ _ _ _ _ => (de_ix hu (dv 2) de_int))) rfl)))),
      w_is_order.use⟩
theorem sc_need_order : FnScope ["lanes", "folk", "order"] ["lanes", "folk", "order"] (defScope st_need_order) := ⟨rfl, rfl, rfl, by decide +kernel, rfl, by decide +kernel, by decide +kernel⟩
theorem d_need_order (B : BF mg) (C : CF mg) (XF : XFs K mg xa) (d : DefAt K mg "need_order" st_need_order ["lanes", "folk", "order"]) (c_is_order : DefOk P w K mg base xa "is_order" 1 ["folk", "thing"] (fP F_is_order)) (c_need_folk : DefOk P w K mg base xa "need_folk" 5 ["lanes", "folk"] (fP F_need_folk)) : DefOk P w K mg base xa "need_order" 6 ["lanes", "folk", "order"] (fP F_need_order) :=
  d.dl ret_V sc_need_order (fP_len len_need_order) fun f cdv A outer s H E g hr => have hu := hr.units
    ⟨fun Wd => t_need_order Wd, fun Wd tk => (dss_cons (ds_expr (dcall c_need_folk hr (by decide) tk (da_cons (dv 0) (da_cons (dv 1) da_nil)))) (dss_one (ds_if (dt_not (dt_val (dcall c_is_order hr (by decide) tk (da_cons (dv 1) (da_cons (dv 2) da_nil))))) (dss_one (ds_raise (by rfl) tk (L2N.pmk_own PySem.F.excBase_ValueError XF.NoOrder.q XF.NoOrder.g XF.NoOrder.k (raises_own XF.NoOrder.b XF.NoOrder.t) rfl) (fun _ _ _ h => h))) dss_nil))),
      w_need_order.use⟩
theorem sc_ticks_by : FnScope ["lanes", "folk", "order", "table", "there", "found", "tick", "left", "name", "crossing", "since", "one"] ["lanes", "folk", "order"] (defScope st_ticks_by) := ⟨rfl, rfl, rfl, by decide +kernel, rfl, by decide +kernel, by decide +kernel⟩
theorem d_ticks_by (B : BF mg) (C : CF mg) (XF : XFs K mg xa) (d : DefAt K mg "ticks_by" st_ticks_by ["lanes", "folk", "order"]) (c_table_of : DefOk P w K mg base xa "table_of" 1 ["lanes"] (fP F_table_of)) : DefOk P w K mg base xa "ticks_by" 2 ["lanes", "folk", "order"] F_ticks_by :=
  d.dl ret_N sc_ticks_by len_ticks_by fun f cdv A outer s H E g hr => have hu := hr.units
    ⟨fun Wd => t_ticks_by Wd, fun Wd tk => (dss_cons (ds_set sc_ticks_by.nd (by rfl) (by first | exact Or.inl rfl | exact Or.inr rfl) (dcall c_table_of hr (by decide) tk (da_cons (dv 0) da_nil))) (dss_cons (ds_setDcM (by rfl) sc_ticks_by.nd (by rfl) (by rfl) (sw_trueD (by rfl) (by rfl) (by rfl) (by decide +kernel)) (di_seq (dv 1)) (blkOk_by (own := [("one", 11)]) (by show blkC ["lanes", "folk", "order", "table", "there", "found", "tick", "left", "name", "crossing", "since", "one"] (defScope st_ticks_by) _ _ = true; decide +kernel)) (fun _ _ _ _ _ _ => (dg_n sc_ticks_by.nd (by rfl) (by first | exact Or.inl rfl | exact Or.inr rfl))) (fun _ _ _ _ _ _ => dts_nil) (fun _ _ _ _ _ _ => (de_ix hu (dv 11) de_int)) (fun _ _ _ _ _ _ => (de_tup (da_cons (de_ix hu (dv 11) de_int) (da_cons (de_ix hu (dv 11) de_int) da_nil))))) (dss_cons (ds_par (by rfl) sc_ticks_by.nd (by rfl) (by rfl) (by decide) (by rfl) (by rfl) (da_cons (de_dcL (by rfl) sc_ticks_by.nd (di_seq (dv 1)) (blkOk_by (own := [("one", 11)]) (by show blkC ["lanes", "folk", "order", "table", "there", "found", "tick", "left", "name", "crossing", "since", "one"] (defScope st_ticks_by) _ _ = true; decide +kernel)) (fun _ _ _ _ _ _ => (dg_n sc_ticks_by.nd (by rfl) (by first | exact Or.inl rfl | exact Or.inr rfl))) (fun _ _ _ _ _ _ => (de_ix hu (dv 11) de_int))) (da_cons de_int da_nil)) rfl) (dss_cons (ds_while (passes_of rfl) (dt_val (de_callB rc_any (cr_any (by rfl)) (by rfl) B.any boot_any (da_cons (de_lock (de_lc (by rfl) sc_ticks_by.nd (di_vals (dv 4)) (blkOk_by (own := [("crossing", 9), ("since", 10)]) (by show blkC ["lanes", "folk", "order", "table", "there", "found", "tick", "left", "name", "crossing", "since", "one"] (defScope st_ticks_by) _ _ = true; decide +kernel)) (fun _ _ _ _ _ _ => (dg_t (by rfl) (dgs_cons (dg_n sc_ticks_by.nd (by rfl) (by first | exact Or.inl rfl | exact Or.inr rfl)) (dgs_cons (dg_n sc_ticks_by.nd (by rfl) (by first | exact Or.inl rfl | exact Or.inr rfl)) dgs_nil)))) (fun _ _ _ _ _ _ => dts_nil) (fun _ _ _ _ _ _ => (de_cmp ro_ne (op_neD hu) (dv 9) (de_glob (by rfl) C.HOME (fun _ => rfl)) rfl)))) da_nil))) (dss_cons (ds_setDcM (by rfl) sc_ticks_by.nd (by rfl) (by rfl) (sw_trueD (by rfl) (by rfl) (by rfl) (by decide +kernel)) (di_keys (dv 3)) (blkOk_by (own := [("crossing", 9)]) (by show blkC ["lanes", "folk", "order", "table", "there", "found", "tick", "left", "name", "crossing", "since", "one"] (defScope st_ticks_by) _ _ = true; decide +kernel)) (fun _ _ _ _ _ _ => (dg_n sc_ticks_by.nd (by rfl) (by first | exact Or.inl rfl | exact Or.inr rfl))) (fun _ _ _ _ _ _ => dts_nil) (fun _ _ _ _ _ _ => (dv 9)) (fun _ _ _ _ _ _ => (de_ix hu (de_ix hu (dv 3) (dv 9)) de_int))) (dss_cons (ds_for (passes_of rfl) (by rfl) (di_seq (dv 2)) (dg_n sc_ticks_by.nd (by rfl) (by first | exact Or.inl rfl | exact Or.inr rfl)) (dss_cons (ds_asg (de_ix hu (dv 4) (dv 8)) (dg_t (by rfl) (dgs_cons (dg_n sc_ticks_by.nd (by rfl) (by first | exact Or.inl rfl | exact Or.inr rfl)) (dgs_cons (dg_n sc_ticks_by.nd (by rfl) (by first | exact Or.inl rfl | exact Or.inr rfl)) dgs_nil)))) (dss_one (ds_if (dt_bool (dw_and (dt_cmp ro_ne (op_neD hu) (dv 9) (de_glob (by rfl) C.HOME (fun _ => rfl)) rfl) (dw_and (dt_cmp ro_le op_le (dv 10) (dv 6) rfl) (dw_and1 (dt_cmp ro_gt op_gt (de_ix hu (dv 7) (dv 9)) de_int rfl))))) (dss_cons (ds_asg (de_op ro_sub op_sub (de_ix hu (dv 7) (dv 9)) de_int) (dg_store hu (dv 7) (dv 9))) (dss_cons (ds_expr (de_appL hu (dv 5) (dv 8) (da_cons (dv 6) da_nil))) (dss_one (ds_asg (de_tup (da_cons (de_ix hu (de_ix hu (dv 3) (dv 9)) de_int) (da_cons (de_op ro_add op_addAll (dv 6) (de_ix hu (de_ix hu (dv 3) (dv 9)) de_int)) da_nil))) (dg_store hu (dv 4) (dv 8)))))) dss_nil)))) (dss_one (ds_set sc_ticks_by.nd (by rfl) (by first | exact Or.inl rfl | exact Or.inr rfl) (de_op ro_add op_addAll (dv 6) de_int)))))) (dss_one (ds_ret (dv 5))))))),
      w_ticks_by⟩
theorem sc_plan_of : FnScope ["lanes", "folk", "order", "found", "one"] ["lanes", "folk", "order"] (defScope st_plan_of) := ⟨rfl, rfl, rfl, by decide +kernel, rfl, by decide +kernel, by decide +kernel⟩
theorem d_plan_of (B : BF mg) (C : CF mg) (XF : XFs K mg xa) (d : DefAt K mg "plan_of" st_plan_of ["lanes", "folk", "order"]) (c_ticks_by : DefOk P w K mg base xa "ticks_by" 2 ["lanes", "folk", "order"] F_ticks_by) : DefOk P w K mg base xa "plan_of" 3 ["lanes", "folk", "order"] (fP F_plan_of) :=
  d.dl ret_V sc_plan_of (fP_len len_plan_of) fun f cdv A outer s H E g hr => have hu := hr.units
    ⟨fun Wd => t_plan_of Wd, fun Wd tk => (dss_cons (ds_set sc_plan_of.nd (by rfl) (by first | exact Or.inl rfl | exact Or.inr rfl) (dcallN c_ticks_by hr (by decide) tk (da_cons (dv 0) (da_cons (dv 1) (da_cons (dv 2) da_nil))))) (dss_one (ds_ret (de_callTy rc_tuple call_tuple_of (by rfl) B.tuple boot_tuple (da_cons (de_lc (by rfl) sc_plan_of.nd (di_seq (dv 1)) (blkOk_by (own := [("one", 4)]) (by show blkC ["lanes", "folk", "order", "found", "one"] (defScope st_plan_of) _ _ = true; decide +kernel)) (fun _ _ _ _ _ _ => (dg_n sc_plan_of.nd (by rfl) (by first | exact Or.inl rfl | exact Or.inr rfl))) (fun _ _ _ _ _ _ => dts_nil) (fun _ _ _ _ _ _ => (de_tupL hu (by rfl) B.tuple (dv 3) (de_ix hu (dv 4) de_int)))) da_nil))))),
      w_plan_of.use⟩
theorem sc_home_ticks : FnScope ["lanes", "folk", "order", "one", "ticks"] ["lanes", "folk", "order"] (defScope st_home_ticks) := ⟨rfl, rfl, rfl, by decide +kernel, rfl, by decide +kernel, by decide +kernel⟩
theorem d_home_ticks (B : BF mg) (C : CF mg) (XF : XFs K mg xa) (d : DefAt K mg "home_ticks" st_home_ticks ["lanes", "folk", "order"]) (c_comes_out : DefOk P w K mg base xa "comes_out" 3 ["lanes", "one", "ticks"] (fP F_comes_out)) (c_plan_of : DefOk P w K mg base xa "plan_of" 3 ["lanes", "folk", "order"] (fP F_plan_of)) : DefOk P w K mg base xa "home_ticks" 4 ["lanes", "folk", "order"] (fP F_home_ticks) :=
  d.dl ret_V sc_home_ticks (fP_len len_home_ticks) fun f cdv A outer s H E g hr => have hu := hr.units
    ⟨fun Wd => t_home_ticks Wd, fun Wd tk => (dss_one (ds_ret (de_dc (by rfl) sc_home_ticks.nd (di_zip2 (by rfl) B.zip (da_cons (dv 1) (da_cons (dcall c_plan_of hr (by decide) tk (da_cons (dv 0) (da_cons (dv 1) (da_cons (dv 2) da_nil)))) da_nil))) (blkOk_by (own := [("one", 3), ("ticks", 4)]) (by show blkC ["lanes", "folk", "order", "one", "ticks"] (defScope st_home_ticks) _ _ = true; decide +kernel)) (fun _ _ _ _ _ _ => (dg_t (by rfl) (dgs_cons (dg_n sc_home_ticks.nd (by rfl) (by first | exact Or.inl rfl | exact Or.inr rfl)) (dgs_cons (dg_n sc_home_ticks.nd (by rfl) (by first | exact Or.inl rfl | exact Or.inr rfl)) dgs_nil)))) (fun _ _ _ _ _ _ => dts_nil) (fun _ _ _ _ _ _ => (de_ix hu (dv 3) de_int)) (fun _ _ _ _ _ _ => (de_ix hu (dcall c_comes_out hr (by decide) takesN (da_cons (dv 0) (da_cons (dv 3) (da_cons (dv 4) da_nil)))) (de_neg de_int)))))),
      w_home_ticks.use⟩
theorem sc_plan_by : FnScope ["lanes", "folk", "order"] ["lanes", "folk", "order"] (defScope st_plan_by) := ⟨rfl, rfl, rfl, by decide +kernel, rfl, by decide +kernel, by decide +kernel⟩
theorem d_plan_by (B : BF mg) (C : CF mg) (XF : XFs K mg xa) (d : DefAt K mg "plan_by" st_plan_by ["lanes", "folk", "order"]) (c_need_order : DefOk P w K mg base xa "need_order" 6 ["lanes", "folk", "order"] (fP F_need_order)) (c_plan_of : DefOk P w K mg base xa "plan_of" 3 ["lanes", "folk", "order"] (fP F_plan_of)) : DefOk P w K mg base xa "plan_by" 7 ["lanes", "folk", "order"] (fP F_plan_by) :=
  d.dl ret_V sc_plan_by (fP_len len_plan_by) fun f cdv A outer s H E g hr => have hu := hr.units
    ⟨fun Wd => t_plan_by Wd, fun Wd tk => (dss_cons (ds_expr (dcall c_need_order hr (by decide) tk (da_cons (dv 0) (da_cons (dv 1) (da_cons (dv 2) da_nil))))) (dss_one (ds_ret (dcall c_plan_of hr (by decide) tk (da_cons (dv 0) (da_cons (dv 1) (da_cons (dv 2) da_nil))))))),
      w_plan_by.use⟩
theorem sc_home_order : FnScope ["lanes", "folk", "order", "found", "one"] ["lanes", "folk", "order"] (defScope st_home_order) := ⟨rfl, rfl, rfl, by decide +kernel, rfl, by decide +kernel, by decide +kernel⟩
theorem d_home_order (B : BF mg) (C : CF mg) (XF : XFs K mg xa) (d : DefAt K mg "home_order" st_home_order ["lanes", "folk", "order"]) (c_home_ticks : DefOk P w K mg base xa "home_ticks" 4 ["lanes", "folk", "order"] (fP F_home_ticks)) (c_need_order : DefOk P w K mg base xa "need_order" 6 ["lanes", "folk", "order"] (fP F_need_order)) : DefOk P w K mg base xa "home_order" 7 ["lanes", "folk", "order"] (fP F_home_order) :=
  d.dl ret_V sc_home_order (fP_len len_home_order) fun f cdv A outer s H E g hr => have hu := hr.units
    ⟨fun Wd => t_home_order Wd, fun Wd tk => (dss_cons (ds_expr (dcall c_need_order hr (by decide) tk (da_cons (dv 0) (da_cons (dv 1) (da_cons (dv 2) da_nil))))) (dss_cons (ds_set sc_home_order.nd (by rfl) (by first | exact Or.inl rfl | exact Or.inr rfl) (dcall c_home_ticks hr (by decide) tk (da_cons (dv 0) (da_cons (dv 1) (da_cons (dv 2) da_nil))))) (dss_one (ds_ret (de_lc (by rfl) sc_home_order.nd (di_seq (dv 1)) (blkOk_by (own := [("one", 4)]) (by show blkC ["lanes", "folk", "order", "found", "one"] (defScope st_home_order) _ _ = true; decide +kernel)) (fun _ _ _ _ _ _ => (dg_n sc_home_order.nd (by rfl) (by first | exact Or.inl rfl | exact Or.inr rfl))) (fun _ _ _ _ _ _ => dts_nil) (fun _ _ _ _ _ _ => (de_tup (da_cons (de_ix hu (dv 4) de_int) (da_cons (de_ix hu (dv 3) (de_ix hu (dv 4) de_int)) da_nil))))))))),
      w_home_order.use⟩
theorem sc_l_well : FnScope ["script", "k", "cell", "primes", "seed"] ["script", "k"] (defScope st_l_well) := ⟨rfl, rfl, rfl, by decide +kernel, rfl, by decide +kernel, by decide +kernel⟩
theorem d_l_well (B : BF mg) (C : CF mg) (XF : XFs K mg xa) (d : DefAt K mg "_law_well" st_l_well ["script", "k"]) : DefOk P w K mg base xa "_law_well" 1 ["script", "k"] F_l_well :=
  d.dl ret_N sc_l_well len_l_well fun f cdv A outer s H E g hr => have hu := hr.units
    ⟨fun Wd => t_l_well Wd, fun Wd tk => (dss_cons (ds_set sc_l_well.nd (by rfl) (by first | exact Or.inl rfl | exact Or.inr rfl) de_int) (dss_cons (ds_if (dt_cmp ro_ltA (op_ltA hu) (dv 1) (de_callB rc_len call_lenAll (by rfl) B.len boot_len (da_cons (dv 0) da_nil)) rfl) (dss_one (ds_set sc_l_well.nd (by rfl) (by first | exact Or.inl rfl | exact Or.inr rfl) (de_ix hu (dv 0) (dv 1)))) dss_nil) (dss_cons (ds_set sc_l_well.nd (by rfl) (by first | exact Or.inl rfl | exact Or.inr rfl) (de_lst (da_cons de_int (da_cons de_int (da_cons de_int (da_cons de_int (da_cons de_int (da_cons de_int (da_cons de_int (da_cons de_int da_nil)))))))))) (dss_cons (ds_set sc_l_well.nd (by rfl) (by first | exact Or.inl rfl | exact Or.inr rfl) (de_op ro_mod op_mod (de_op ro_mul op_mulAll (de_op ro_add op_addAll (de_op ro_mod op_mod (dv 2) de_int) de_int) (de_op ro_add op_addAll de_int (de_op ro_mul op_mulAll de_int (dv 1)))) de_int)) (dss_cons (ds_set sc_l_well.nd (by rfl) (by first | exact Or.inl rfl | exact Or.inr rfl) (de_op ro_add op_addAll (de_op ro_add op_addAll (de_op ro_mod op_mod (de_op ro_mul op_mulAll (dv 4) (dv 4)) de_int) (dv 1)) de_int)) (dss_cons (ds_if (dt_cmp ro_ge op_ge (dv 2) (de_op ro_pow op_pow de_int de_int) rfl) (dss_one (ds_ret (de_wellM (da_cons (dv 2) (da_cons (dv 4) (da_cons (de_ix hu (dv 3) (de_op ro_mod op_mod (dv 1) de_int)) da_nil)))))) dss_nil) (dss_one (ds_ret (de_wellM (da_cons de_int (da_cons (dv 4) (da_cons (de_ix hu (dv 3) (de_op ro_mod op_mod (dv 1) de_int)) da_nil)))))))))))),
      w_l_well⟩
theorem sc_l_take : FnScope ["well", "many", "drew"] ["well", "many"] (defScope st_l_take) := ⟨rfl, rfl, rfl, by decide +kernel, rfl, by decide +kernel, by decide +kernel⟩
theorem d_l_take (B : BF mg) (C : CF mg) (XF : XFs K mg xa) (d : DefAt K mg "_law_take" st_l_take ["well", "many"]) : DefOk P w K mg base xa "_law_take" 1 ["well", "many"] (fW F_l_take) :=
  d.dl ret_V sc_l_take (fW_len len_l_take) fun f cdv A outer s H E g hr => have hu := hr.units
    ⟨fun Wd => t_l_take Wd, fun Wd tk => (dss_well 0 (dss_cons (ds_if (dt_cmp ro_gt op_gt (de_ix hu (dv 0) de_int) de_int rfl) (dss_cons (ds_set sc_l_take.nd (by rfl) (by first | exact Or.inl rfl | exact Or.inr rfl) (de_op ro_mod op_mod (de_ix hu (dv 0) de_int) (dv 1))) (dss_cons (ds_asg (de_op ro_div op_fdivW (de_ix hu (dv 0) de_int) (dv 1)) (dg_store hu (dv 0) de_int)) (dss_one (ds_ret (dv 2))))) dss_nil) (dss_cons (ds_asg (de_op ro_add op_addAll (de_op ro_mod op_mod (de_op ro_mul op_mulAll (de_ix hu (dv 0) de_int) de_int) (de_ix hu (dv 0) de_int)) de_int) (dg_store hu (dv 0) de_int)) (dss_one (ds_ret (de_op ro_mod op_mod (de_op ro_div op_fdivW (de_op ro_mod op_mod (de_op ro_mul op_mulAll (de_ix hu (dv 0) de_int) (de_ix hu (dv 0) de_int)) de_int) de_int) (dv 1))))))),
      w_l_take.use⟩
theorem sc_l_lanes : FnScope ["well", "top", "names", "left", "had", "rows", "one", "other", "wide", "at"] ["well", "top"] (defScope st_l_lanes) := ⟨rfl, rfl, rfl, by decide +kernel, rfl, by decide +kernel, by decide +kernel⟩
theorem d_l_lanes (B : BF mg) (C : CF mg) (XF : XFs K mg xa) (d : DefAt K mg "_law_lanes" st_l_lanes ["well", "top"]) (c_l_take : DefOk P w K mg base xa "_law_take" 1 ["well", "many"] (fW F_l_take)) : DefOk P w K mg base xa "_law_lanes" 2 ["well", "top"] (fW F_l_lanes) :=
  d.dl ret_V sc_l_lanes (fW_len len_l_lanes) fun f cdv A outer s H E g hr => have hu := hr.units
    ⟨fun Wd => t_l_lanes Wd, fun Wd tk => (dss_cons (ds_set sc_l_lanes.nd (by rfl) (by first | exact Or.inl rfl | exact Or.inr rfl) (de_lst (da_cons de_str (da_cons de_str (da_cons de_str (da_cons de_str (da_cons de_str (da_cons de_str (da_cons de_str (da_cons de_str da_nil)))))))))) (dss_cons (ds_setLcM (by rfl) sc_l_lanes.nd (by rfl) (by rfl) (sw_true (by rfl) (by rfl) (by rfl) (by decide +kernel)) (di_range1 (by rfl) B.range (da_cons (de_op ro_add op_addAll de_int (dcallW c_l_take hr (by decide) tk (da_cons (dv 0) (da_cons (dv 1) da_nil)))) da_nil)) (blkOk_by (own := [("at", 9)]) (by show blkC ["well", "top", "names", "left", "had", "rows", "one", "other", "wide", "at"] (defScope st_l_lanes) _ _ = true; decide +kernel)) (fun _ _ _ _ _ _ => (dg_n sc_l_lanes.nd (by rfl) (by first | exact Or.inl rfl | exact Or.inr rfl))) (fun _ _ _ _ _ _ => dts_nil) (fun _ _ _ _ _ _ => (de_ix hu (dv 2) (dv 9)))) (dss_cons (ds_par (by rfl) sc_l_lanes.nd (by rfl) (by rfl) (by decide) (by rfl) (by rfl) (da_cons (de_lstM (da_cons de_str da_nil)) (da_cons (de_lstM da_nil) da_nil)) rfl) (dss_cons (ds_while (passes_of rfl) (dt_cmp ro_ne (op_neD hu) (dv 3) (de_lst da_nil) rfl) (dss_cons (ds_set sc_l_lanes.nd (by rfl) (by first | exact Or.inl rfl | exact Or.inr rfl) (de_pop (dv 3) (da_cons (dcallW c_l_take hr (by decide) tk (da_cons (dv 0) (da_cons (de_callB rc_len call_lenAll (by rfl) B.len boot_len (da_cons (dv 3) da_nil)) da_nil))) da_nil))) (dss_cons (ds_set sc_l_lanes.nd (by rfl) (by first | exact Or.inl rfl | exact Or.inr rfl) (de_ifExp (dt_cmp ro_eq (op_eqD hu) (dcallW c_l_take hr (by decide) tk (da_cons (dv 0) (da_cons de_int da_nil))) de_int rfl) (de_ix hu (dv 4) (de_neg de_int)) (de_ix hu (dv 4) (dcallW c_l_take hr (by decide) tk (da_cons (dv 0) (da_cons (de_callB rc_len call_lenAll (by rfl) B.len boot_len (da_cons (dv 4) da_nil)) da_nil)))))) (dss_cons (ds_set sc_l_lanes.nd (by rfl) (by first | exact Or.inl rfl | exact Or.inr rfl) (de_op ro_add op_addAll de_int (dcallW c_l_take hr (by decide) tk (da_cons (dv 0) (da_cons (de_ix hu (de_lst (da_cons de_int (da_cons de_int (da_cons de_int da_nil)))) (dcallW c_l_take hr (by decide) tk (da_cons (dv 0) (da_cons de_int da_nil)))) da_nil))))) (dss_cons (ds_expr (de_append (dv 5) (da_cons (de_tup (da_cons (dv 6) (da_cons (dv 7) (da_cons (dv 8) (da_cons (de_op ro_add op_addAll de_int (dcallW c_l_take hr (by decide) tk (da_cons (dv 0) (da_cons (de_ix hu (de_lst (da_cons de_int (da_cons de_int (da_cons de_int da_nil)))) (dcallW c_l_take hr (by decide) tk (da_cons (dv 0) (da_cons de_int da_nil)))) da_nil)))) da_nil))))) da_nil))) (dss_one (ds_expr (de_append (dv 4) (da_cons (dv 6) da_nil))))))))) (dss_one (ds_ret (de_callTy rc_tuple call_tuple_of (by rfl) B.tuple boot_tuple (da_cons (de_callB rc_sorted (cr_sortedL hu) (by rfl) B.sorted boot_sorted (da_cons (dv 5) da_nil)) da_nil)))))))),
      w_l_lanes.use⟩
theorem sc_l_folk : FnScope ["well", "lanes", "top", "names", "found", "name", "tick"] ["well", "lanes", "top"] (defScope st_l_folk) := ⟨rfl, rfl, rfl, by decide +kernel, rfl, by decide +kernel, by decide +kernel⟩
theorem d_l_folk (B : BF mg) (C : CF mg) (XF : XFs K mg xa) (d : DefAt K mg "_law_folk" st_l_folk ["well", "lanes", "top"]) (c_l_take : DefOk P w K mg base xa "_law_take" 1 ["well", "many"] (fW F_l_take)) : DefOk P w K mg base xa "_law_folk" 2 ["well", "lanes", "top"] (fW F_l_folk) :=
  d.dl ret_V sc_l_folk (fW_len len_l_folk) fun f cdv A outer s H E g hr => have hu := hr.units
    ⟨fun Wd => t_l_folk Wd, fun Wd tk => (dss_cons (ds_par (by rfl) sc_l_folk.nd (by rfl) (by rfl) (by decide) (by rfl) (by rfl) (da_cons (de_lst (da_cons de_str (da_cons de_str (da_cons de_str (da_cons de_str (da_cons de_str (da_cons de_str (da_cons de_str (da_cons de_str (da_cons de_str (da_cons de_str da_nil))))))))))) (da_cons (de_lstM da_nil) da_nil)) rfl) (dss_cons (ds_for (passes_of rfl) (by rfl) (di_seq (de_slice (dv 3) do_none (do_some (de_op ro_add op_addAll de_int (dcallW c_l_take hr (by decide) tk (da_cons (dv 0) (da_cons (dv 2) da_nil))))))) (dg_n sc_l_folk.nd (by rfl) (by first | exact Or.inl rfl | exact Or.inr rfl)) (dss_cons (ds_set sc_l_folk.nd (by rfl) (by first | exact Or.inl rfl | exact Or.inr rfl) (de_ix hu (de_lst (da_cons de_int (da_cons (dcallW c_l_take hr (by decide) tk (da_cons (dv 0) (da_cons de_int da_nil))) (da_cons (dcallW c_l_take hr (by decide) tk (da_cons (dv 0) (da_cons de_int da_nil))) (da_cons (dcallW c_l_take hr (by decide) tk (da_cons (dv 0) (da_cons de_int da_nil))) da_nil))))) (dcallW c_l_take hr (by decide) tk (da_cons (dv 0) (da_cons de_int da_nil))))) (dss_one (ds_expr (de_append (dv 4) (da_cons (de_tup (da_cons (dv 5) (da_cons (de_ix hu (de_ix hu (dv 1) (dcallW c_l_take hr (by decide) tk (da_cons (dv 0) (da_cons (de_callB rc_len call_lenAll (by rfl) B.len boot_len (da_cons (dv 1) da_nil)) da_nil)))) de_int) (da_cons (dv 6) da_nil)))) da_nil)))))) (dss_one (ds_ret (de_callTy rc_tuple call_tuple_of (by rfl) B.tuple boot_tuple (da_cons (dv 4) da_nil)))))),
      w_l_folk.use⟩
theorem sc_l_lane : FnScope ["lanes", "crossing", "lane"] ["lanes", "crossing"] (defScope st_l_lane) := ⟨rfl, rfl, rfl, by decide +kernel, rfl, by decide +kernel, by decide +kernel⟩
theorem d_l_lane (B : BF mg) (C : CF mg) (XF : XFs K mg xa) (d : DefAt K mg "_law_lane" st_l_lane ["lanes", "crossing"]) : DefOk P w K mg base xa "_law_lane" 1 ["lanes", "crossing"] (fP F_l_lane) :=
  d.dl ret_V sc_l_lane (fP_len len_l_lane) fun f cdv A outer s H E g hr => have hu := hr.units
    ⟨fun Wd => t_l_lane Wd, fun Wd tk => (dss_one (ds_ret (de_ix hu (de_lc (by rfl) sc_l_lane.nd (di_seq (dv 0)) (blkOk_by (own := [("lane", 2)]) (by show blkC ["lanes", "crossing", "lane"] (defScope st_l_lane) _ _ = true; decide +kernel)) (fun _ _ _ _ _ _ => (dg_n sc_l_lane.nd (by rfl) (by first | exact Or.inl rfl | exact Or.inr rfl))) (fun _ _ _ _ _ _ => (dts_one (dt_cmp ro_eq (op_eqD hu) (de_ix hu (dv 2) de_int) (dv 1) rfl))) (fun _ _ _ _ _ _ => (dv 2))) de_int))),
      w_l_lane.use⟩
theorem sc_l_drawn_order : FnScope ["well", "folk", "left", "found", "one"] ["well", "folk"] (defScope st_l_drawn_order) := ⟨rfl, rfl, rfl, by decide +kernel, rfl, by decide +kernel, by decide +kernel⟩
theorem d_l_drawn_order (B : BF mg) (C : CF mg) (XF : XFs K mg xa) (d : DefAt K mg "_law_drawn_order" st_l_drawn_order ["well", "folk"]) (c_l_take : DefOk P w K mg base xa "_law_take" 1 ["well", "many"] (fW F_l_take)) : DefOk P w K mg base xa "_law_drawn_order" 2 ["well", "folk"] (fW F_l_drawn_order) :=
  d.dl ret_V sc_l_drawn_order (fW_len len_l_drawn_order) fun f cdv A outer s H E g hr => have hu := hr.units
    ⟨fun Wd => t_l_drawn_order Wd, fun Wd tk => (dss_cons (ds_par (by rfl) sc_l_drawn_order.nd (by rfl) (by rfl) (by decide) (by rfl) (by rfl) (da_cons (de_lcM (by rfl) sc_l_drawn_order.nd (di_seq (dv 1)) (blkOk_by (own := [("one", 4)]) (by show blkC ["well", "folk", "left", "found", "one"] (defScope st_l_drawn_order) _ _ = true; decide +kernel)) (fun _ _ _ _ _ _ => (dg_n sc_l_drawn_order.nd (by rfl) (by first | exact Or.inl rfl | exact Or.inr rfl))) (fun _ _ _ _ _ _ => dts_nil) (fun _ _ _ _ _ _ => (de_ix hu (dv 4) de_int))) (da_cons (de_lstM da_nil) da_nil)) rfl) (dss_cons (ds_while (passes_of rfl) (dt_cmp ro_ne (op_neD hu) (dv 2) (de_lst da_nil) rfl) (dss_one (ds_expr (de_append (dv 3) (da_cons (de_pop (dv 2) (da_cons (dcallW c_l_take hr (by decide) tk (da_cons (dv 0) (da_cons (de_callB rc_len call_lenAll (by rfl) B.len boot_len (da_cons (dv 2) da_nil)) da_nil))) da_nil)) da_nil))))) (dss_one (ds_ret (de_callTy rc_tuple call_tuple_of (by rfl) B.tuple boot_tuple (da_cons (dv 3) da_nil)))))),
      w_l_drawn_order.use⟩
theorem sc_l_run : FnScope ["lanes", "folk", "orders", "holds", "there", "found", "tick", "left", "name", "here", "since", "lane", "one"] ["lanes", "folk", "orders", "holds"] (defScope st_l_run) := ⟨rfl, rfl, rfl, by decide +kernel, rfl, by decide +kernel, by decide +kernel⟩
theorem d_l_run (B : BF mg) (C : CF mg) (XF : XFs K mg xa) (d : DefAt K mg "_law_run" st_l_run ["lanes", "folk", "orders", "holds"]) (c_l_lane : DefOk P w K mg base xa "_law_lane" 1 ["lanes", "crossing"] (fP F_l_lane)) : DefOk P w K mg base xa "_law_run" 2 ["lanes", "folk", "orders", "holds"] (fP F_l_run) :=
  d.dl ret_V sc_l_run (fP_len len_l_run) fun f cdv A outer s H E g hr => have hu := hr.units
    ⟨fun Wd => t_l_run Wd, fun Wd tk => (dss_cons (ds_set sc_l_run.nd (by rfl) (by first | exact Or.inl rfl | exact Or.inr rfl) (de_dictPM (by rfl) (by rfl) B.dict (da_cons (de_lc (by rfl) sc_l_run.nd (di_seq (dv 1)) (blkOk_by (own := [("one", 12)]) (by show blkC ["lanes", "folk", "orders", "holds", "there", "found", "tick", "left", "name", "here", "since", "lane", "one"] (defScope st_l_run) _ _ = true; decide +kernel)) (fun _ _ _ _ _ _ => (dg_n sc_l_run.nd (by rfl) (by first | exact Or.inl rfl | exact Or.inr rfl))) (fun _ _ _ _ _ _ => dts_nil) (fun _ _ _ _ _ _ => (de_tup (da_cons (de_ix hu (dv 12) de_int) (da_cons (de_lst (da_cons (de_ix hu (dv 12) de_int) (da_cons (de_ix hu (dv 12) de_int) da_nil))) da_nil))))) da_nil))) (dss_cons (ds_tup (by rfl) (da_cons (de_dictL (by rfl) (by rfl) B.dict sc_l_run.nd (di_seq (dv 1)) (blkOk_by (own := [("one", 12)]) (by show blkC ["lanes", "folk", "orders", "holds", "there", "found", "tick", "left", "name", "here", "since", "lane", "one"] (defScope st_l_run) _ _ = true; decide +kernel)) (fun _ _ _ _ _ _ => (dg_n sc_l_run.nd (by rfl) (by first | exact Or.inl rfl | exact Or.inr rfl))) (fun _ _ _ _ _ _ => (de_ix hu (dv 12) de_int))) (da_cons de_int da_nil)) (dgs_cons (dg_n sc_l_run.nd (by rfl) (by first | exact Or.inl rfl | exact Or.inr rfl)) (dgs_cons (dg_n sc_l_run.nd (by rfl) (by first | exact Or.inl rfl | exact Or.inr rfl)) dgs_nil))) (dss_cons (ds_while (passes_of rfl) (dt_cmp ro_ne (op_neD hu) (de_lock (de_lc (by rfl) sc_l_run.nd (di_keys (dv 4)) (blkOk_by (own := [("name", 8)]) (by show blkC ["lanes", "folk", "orders", "holds", "there", "found", "tick", "left", "name", "here", "since", "lane", "one"] (defScope st_l_run) _ _ = true; decide +kernel)) (fun _ _ _ _ _ _ => (dg_n sc_l_run.nd (by rfl) (by first | exact Or.inl rfl | exact Or.inr rfl))) (fun _ _ _ _ _ _ => (dts_one (dt_cmp ro_ne (op_neD hu) (de_ix hu (de_ix hu (dv 4) (dv 8)) de_int) de_str rfl))) (fun _ _ _ _ _ _ => (dv 8)))) (de_lst da_nil) rfl) (dss_cons (ds_set sc_l_run.nd (by rfl) (by first | exact Or.inl rfl | exact Or.inr rfl) (de_dictPM (by rfl) (by rfl) B.dict (da_cons (de_lc (by rfl) sc_l_run.nd (di_seq (dv 0)) (blkOk_by (own := [("lane", 11)]) (by show blkC ["lanes", "folk", "orders", "holds", "there", "found", "tick", "left", "name", "here", "since", "lane", "one"] (defScope st_l_run) _ _ = true; decide +kernel)) (fun _ _ _ _ _ _ => (dg_n sc_l_run.nd (by rfl) (by first | exact Or.inl rfl | exact Or.inr rfl))) (fun _ _ _ _ _ _ => dts_nil) (fun _ _ _ _ _ _ => (de_tup (da_cons (de_ix hu (dv 11) de_int) (da_cons (de_callB rc_max (call_maxAll (by rfl)) (by rfl) B.max boot_max (da_cons de_int (da_cons (de_op ro_sub op_sub (de_ix hu (dv 11) de_int) (de_callTy rc_int call_int1 (by rfl) B.int boot_int (da_cons (de_cmp ro_in (op_inAll hu) (dv 6) (dv 3) rfl) da_nil))) da_nil))) da_nil))))) da_nil))) (dss_cons (ds_for (passes_of rfl) (by rfl) (di_seq (de_ix hu (dv 2) (de_op ro_mod op_mod (dv 6) (de_callB rc_len call_lenAll (by rfl) B.len boot_len (da_cons (dv 2) da_nil))))) (dg_n sc_l_run.nd (by rfl) (by first | exact Or.inl rfl | exact Or.inr rfl)) (dss_cons (ds_asg (de_ix hu (dv 4) (dv 8)) (dg_t (by rfl) (dgs_cons (dg_n sc_l_run.nd (by rfl) (by first | exact Or.inl rfl | exact Or.inr rfl)) (dgs_cons (dg_n sc_l_run.nd (by rfl) (by first | exact Or.inl rfl | exact Or.inr rfl)) dgs_nil)))) (dss_one (ds_if (dt_bool (dw_and (dt_cmp ro_ne (op_neD hu) (dv 9) de_str rfl) (dw_and (dt_cmp ro_le op_le (dv 10) (dv 6) rfl) (dw_and1 (dt_cmp ro_gt op_gt (de_ix hu (dv 7) (dv 9)) de_int rfl))))) (dss_cons (ds_set sc_l_run.nd (by rfl) (by first | exact Or.inl rfl | exact Or.inr rfl) (dcall c_l_lane hr (by decide) tk (da_cons (dv 0) (da_cons (dv 9) da_nil)))) (dss_cons (ds_asg (de_op ro_sub op_sub (de_ix hu (dv 7) (dv 9)) de_int) (dg_store hu (dv 7) (dv 9))) (dss_cons (ds_expr (de_appL hu (dv 5) (dv 8) (da_cons (dv 6) da_nil))) (dss_one (ds_asg (de_lst (da_cons (de_ix hu (dv 11) de_int) (da_cons (de_op ro_add op_addAll (dv 6) (de_ix hu (dv 11) de_int)) da_nil))) (dg_store hu (dv 4) (dv 8))))))) dss_nil)))) (dss_one (ds_set sc_l_run.nd (by rfl) (by first | exact Or.inl rfl | exact Or.inr rfl) (de_op ro_add op_addAll (dv 6) de_int)))))) (dss_one (ds_ret (de_callTy rc_tuple call_tuple_of (by rfl) B.tuple boot_tuple (da_cons (de_lc (by rfl) sc_l_run.nd (di_seq (dv 1)) (blkOk_by (own := [("one", 12)]) (by show blkC ["lanes", "folk", "orders", "holds", "there", "found", "tick", "left", "name", "here", "since", "lane", "one"] (defScope st_l_run) _ _ = true; decide +kernel)) (fun _ _ _ _ _ _ => (dg_n sc_l_run.nd (by rfl) (by first | exact Or.inl rfl | exact Or.inr rfl))) (fun _ _ _ _ _ _ => dts_nil) (fun _ _ _ _ _ _ => (de_tupL hu (by rfl) B.tuple (dv 5) (de_ix hu (dv 12) de_int)))) da_nil))))))),
      w_l_run.use⟩
theorem sc_l_way : FnScope ["lanes", "crossing", "found"] ["lanes", "crossing"] (defScope st_l_way) := ⟨rfl, rfl, rfl, by decide +kernel, rfl, by decide +kernel, by decide +kernel⟩
theorem d_l_way (B : BF mg) (C : CF mg) (XF : XFs K mg xa) (d : DefAt K mg "_law_way" st_l_way ["lanes", "crossing"]) (c_l_lane : DefOk P w K mg base xa "_law_lane" 1 ["lanes", "crossing"] (fP F_l_lane)) : DefOk P w K mg base xa "_law_way" 2 ["lanes", "crossing"] (fP F_l_way) :=
  d.dl ret_V sc_l_way (fP_len len_l_way) fun f cdv A outer s H E g hr => have hu := hr.units
    ⟨fun Wd => t_l_way Wd, fun Wd tk => (dss_cons (ds_set sc_l_way.nd (by rfl) (by first | exact Or.inl rfl | exact Or.inr rfl) (de_lstM da_nil)) (dss_cons (ds_while (passes_of rfl) (dt_cmp ro_ne (op_neD hu) (dv 1) de_str rfl) (dss_cons (ds_expr (de_append (dv 2) (da_cons (dv 1) da_nil))) (dss_one (ds_set sc_l_way.nd (by rfl) (by first | exact Or.inl rfl | exact Or.inr rfl) (de_ix hu (dcall c_l_lane hr (by decide) tk (da_cons (dv 0) (da_cons (dv 1) da_nil))) de_int))))) (dss_one (ds_ret (dv 2))))),
      w_l_way.use⟩
theorem sc_l_homes : FnScope ["lanes", "folk", "plan", "found", "one", "ticks"] ["lanes", "folk", "plan"] (defScope st_l_homes) := ⟨rfl, rfl, rfl, by decide +kernel, rfl, by decide +kernel, by decide +kernel⟩
theorem d_l_homes (B : BF mg) (C : CF mg) (XF : XFs K mg xa) (d : DefAt K mg "_law_homes" st_l_homes ["lanes", "folk", "plan"]) (c_l_lane : DefOk P w K mg base xa "_law_lane" 1 ["lanes", "crossing"] (fP F_l_lane)) (c_l_way : DefOk P w K mg base xa "_law_way" 2 ["lanes", "crossing"] (fP F_l_way)) : DefOk P w K mg base xa "_law_homes" 3 ["lanes", "folk", "plan"] (fP F_l_homes) :=
  d.dl ret_V sc_l_homes (fP_len len_l_homes) fun f cdv A outer s H E g hr => have hu := hr.units
    ⟨fun Wd => t_l_homes Wd, fun Wd tk => (dss_cons (ds_set sc_l_homes.nd (by rfl) (by first | exact Or.inl rfl | exact Or.inr rfl) de_dictK) (dss_cons (ds_for (passes_of rfl) (by rfl) (di_zip2 (by rfl) B.zip (da_cons (dv 1) (da_cons (dv 2) da_nil))) (dg_t (by rfl) (dgs_cons (dg_n sc_l_homes.nd (by rfl) (by first | exact Or.inl rfl | exact Or.inr rfl)) (dgs_cons (dg_n sc_l_homes.nd (by rfl) (by first | exact Or.inl rfl | exact Or.inr rfl)) dgs_nil))) (dss_one (ds_asg (de_op ro_add op_addAll (de_ix hu (dv 5) (de_neg de_int)) (de_ix hu (dcall c_l_lane hr (by decide) tk (da_cons (dv 0) (da_cons (de_ix hu (dcall c_l_way hr (by decide) tk (da_cons (dv 0) (da_cons (de_ix hu (dv 4) de_int) da_nil))) (de_neg de_int)) da_nil))) de_int)) (dg_store hu (dv 3) (de_ix hu (dv 4) de_int))))) (dss_one (ds_ret (de_lockR (dv 3)))))),
      w_l_homes.use⟩
theorem sc_l_any_plan : FnScope ["well", "lanes", "folk", "orders", "holds", "turn"] ["well", "lanes", "folk"] (defScope st_l_any_plan) := ⟨rfl, rfl, rfl, by decide +kernel, rfl, by decide +kernel, by decide +kernel⟩
theorem d_l_any_plan (B : BF mg) (C : CF mg) (XF : XFs K mg xa) (d : DefAt K mg "_law_any_plan" st_l_any_plan ["well", "lanes", "folk"]) (c_l_drawn_order : DefOk P w K mg base xa "_law_drawn_order" 2 ["well", "folk"] (fW F_l_drawn_order)) (c_l_run : DefOk P w K mg base xa "_law_run" 2 ["lanes", "folk", "orders", "holds"] (fP F_l_run)) (c_l_take : DefOk P w K mg base xa "_law_take" 1 ["well", "many"] (fW F_l_take)) : DefOk P w K mg base xa "_law_any_plan" 3 ["well", "lanes", "folk"] (fW F_l_any_plan) :=
  d.dl ret_V sc_l_any_plan (fW_len len_l_any_plan) fun f cdv A outer s H E g hr => have hu := hr.units
    ⟨fun Wd => t_l_any_plan Wd, fun Wd tk => (dss_cons (ds_setLc (by rfl) sc_l_any_plan.nd (by rfl) (by rfl) (sw_true (by rfl) (by rfl) (by rfl) (by decide +kernel)) (di_range1 (by rfl) B.range (da_cons (de_op ro_add op_addAll de_int (dcallW c_l_take hr (by decide) tk (da_cons (dv 0) (da_cons de_int da_nil)))) da_nil)) (blkOk_by (own := [("turn", 5)]) (by show blkC ["well", "lanes", "folk", "orders", "holds", "turn"] (defScope st_l_any_plan) _ _ = true; decide +kernel)) (fun _ _ _ _ _ _ => (dg_n sc_l_any_plan.nd (by rfl) (by first | exact Or.inl rfl | exact Or.inr rfl))) (fun _ _ _ _ _ _ => dts_nil) (fun _ _ _ _ _ _ => (dcallW c_l_drawn_order hr (by decide) takesN (da_cons (dv 0) (da_cons (dv 2) da_nil))))) (dss_cons (ds_setLc (by rfl) sc_l_any_plan.nd (by rfl) (by rfl) (sw_true (by rfl) (by rfl) (by rfl) (by decide +kernel)) (di_range1 (by rfl) B.range (da_cons (dcallW c_l_take hr (by decide) tk (da_cons (dv 0) (da_cons de_int da_nil))) da_nil)) (blkOk_by (own := [("turn", 5)]) (by show blkC ["well", "lanes", "folk", "orders", "holds", "turn"] (defScope st_l_any_plan) _ _ = true; decide +kernel)) (fun _ _ _ _ _ _ => (dg_n sc_l_any_plan.nd (by rfl) (by first | exact Or.inl rfl | exact Or.inr rfl))) (fun _ _ _ _ _ _ => dts_nil) (fun _ _ _ _ _ _ => (dcallW c_l_take hr (by decide) takesN (da_cons (dv 0) (da_cons de_int da_nil))))) (dss_one (ds_ret (dcall c_l_run hr (by decide) tk (da_cons (dv 1) (da_cons (dv 2) (da_cons (dv 3) (da_cons (dv 4) da_nil))))))))),
      w_l_any_plan.use⟩
theorem sc_l_asked31 : FnScope ["way", "lanes", "folk", "order", "e"] ["way", "lanes", "folk", "order"] (defScope st_l_asked31) := ⟨rfl, rfl, rfl, by decide +kernel, rfl, by decide +kernel, by decide +kernel⟩
theorem d_l_asked31 (B : BF mg) (C : CF mg) (XF : XFs K mg xa) (d : DefAt K mg "_law_asked" st_l_asked31 ["way", "lanes", "folk", "order"]) (KE : mg "LaneError" = some (.ref (xa "LaneError"))) (KH : ∀ j ∈ jsL, j < 14 ∧ PySem.W.exmOne K (.ref (xa (nameI j))) (.ref (xa "LaneError")) = some true) (KR : ∀ j ∈ jsL, ∀ p, DH.ExcAt (xa (nameI j)) p → DefOkE P w K mg base xa p "_law_refusal" 2 ["e"] (F_l_refusal p.1 j)) (c_home_order : DefOk P w K mg base xa "home_order" 7 ["lanes", "folk", "order"] (fP F_home_order)) (c_plan_by : DefOk P w K mg base xa "plan_by" 7 ["lanes", "folk", "order"] (fP F_plan_by)) : DefOk P w K mg base xa "_law_asked" 8 ["way", "lanes", "folk", "order"] (fP F_l_asked31) :=
  d.dl ret_V sc_l_asked31 (fP_len len_l_asked31) fun f cdv A outer s H E g hr => have hu := hr.units
    ⟨fun Wd => t_l_asked31 Wd, fun Wd tk => (dss_one (ds_tryRef (i := 4) (by rfl) (by rfl) sc_l_asked31.nd (by rfl) (by rfl) (by rfl) KE (by rfl) hr (by decide) KH KR (fun g Wd pn xe tk po => (dss_one (ds_ret (de_ifExp (dt_cmp ro_eq (op_eqD hu) (dv 0) de_int rfl) (dcall c_plan_by hr (by decide) tk (da_cons (dv 1) (da_cons (dv 2) (da_cons (dv 3) da_nil)))) (dcall c_home_order hr (by decide) tk (da_cons (dv 1) (da_cons (dv 2) (da_cons (dv 3) da_nil)))))))))),
      w_l_asked31.use⟩
theorem sc_law_k31 : FnScope ["script", "k", "well", "lanes", "folk", "order", "plan", "homes", "any_so", "others", "many", "some", "alone", "tick", "here", "odd", "way", "one", "ticks"] ["script"] (defScope st_law_k31) := ⟨rfl, rfl, rfl, by decide +kernel, rfl, by decide +kernel, by decide +kernel⟩
theorem d_law_k31 (B : BF mg) (C : CF mg) (XF : XFs K mg xa) (d : DefAt K mg "law" st_law_k31 ["script"]) (c_l_any_plan : DefOk P w K mg base xa "_law_any_plan" 3 ["well", "lanes", "folk"] (fW F_l_any_plan)) (c_l_asked31 : DefOk P w K mg base xa "_law_asked" 8 ["way", "lanes", "folk", "order"] (fP F_l_asked31)) (c_l_drawn_order : DefOk P w K mg base xa "_law_drawn_order" 2 ["well", "folk"] (fW F_l_drawn_order)) (c_l_folk : DefOk P w K mg base xa "_law_folk" 2 ["well", "lanes", "top"] (fW F_l_folk)) (c_l_homes : DefOk P w K mg base xa "_law_homes" 3 ["lanes", "folk", "plan"] (fP F_l_homes)) (c_l_lanes : DefOk P w K mg base xa "_law_lanes" 2 ["well", "top"] (fW F_l_lanes)) (c_l_run : DefOk P w K mg base xa "_law_run" 2 ["lanes", "folk", "orders", "holds"] (fP F_l_run)) (c_l_well : DefOk P w K mg base xa "_law_well" 1 ["script", "k"] F_l_well) (c_home_order : DefOk P w K mg base xa "home_order" 7 ["lanes", "folk", "order"] (fP F_home_order)) (c_is_plan : DefOk P w K mg base xa "is_plan" 6 ["lanes", "folk", "thing"] (fP F_is_plan)) (c_plan_by : DefOk P w K mg base xa "plan_by" 7 ["lanes", "folk", "order"] (fP F_plan_by)) : DefOk P w K mg base xa "law" 9 ["script"] (fP F_law_k31) :=
  d.dl ret_V sc_law_k31 (fP_len len_law_k31) fun f cdv A outer s H E g hr => have hu := hr.units
    ⟨fun Wd => t_law_k31 Wd, fun Wd tk => (dss_cons (ds_for (passes_of rfl) (by rfl) (di_range1 (by rfl) B.range (da_cons (de_callB rc_max (call_maxAll (by rfl)) (by rfl) B.max boot_max (da_cons de_int (da_cons (de_callB rc_min (call_min2 (by rfl)) (by rfl) B.min boot_min (da_cons de_int (da_cons (de_callB rc_len call_lenAll (by rfl) B.len boot_len (da_cons (dv 0) da_nil)) da_nil))) da_nil))) da_nil)) (dg_n sc_law_k31.nd (by rfl) (by first | exact Or.inl rfl | exact Or.inr rfl)) (dss_cons (ds_set sc_law_k31.nd (by rfl) (by first | exact Or.inl rfl | exact Or.inr rfl) (dcallN c_l_well hr (by decide) tk (da_cons (dv 0) (da_cons (dv 1) da_nil)))) (dss_cons (ds_set sc_law_k31.nd (by rfl) (by first | exact Or.inl rfl | exact Or.inr rfl) (dcallW c_l_lanes hr (by decide) tk (da_cons (dv 2) (da_cons de_int da_nil)))) (dss_cons (ds_set sc_law_k31.nd (by rfl) (by first | exact Or.inl rfl | exact Or.inr rfl) (dcallW c_l_folk hr (by decide) tk (da_cons (dv 2) (da_cons (dv 3) (da_cons de_int da_nil))))) (dss_cons (ds_set sc_law_k31.nd (by rfl) (by first | exact Or.inl rfl | exact Or.inr rfl) (dcallW c_l_drawn_order hr (by decide) tk (da_cons (dv 2) (da_cons (dv 4) da_nil)))) (dss_cons (ds_set sc_law_k31.nd (by rfl) (by first | exact Or.inl rfl | exact Or.inr rfl) (dcall c_plan_by hr (by decide) tk (da_cons (dv 3) (da_cons (dv 4) (da_cons (dv 5) da_nil))))) (dss_cons (ds_if (dt_bool (dw_or (dt_cmp ro_ne (op_neD hu) (dv 6) (dcall c_l_run hr (by decide) tk (da_cons (dv 3) (da_cons (dv 4) (da_cons (de_lst (da_cons (dv 5) da_nil)) (da_cons (de_lst da_nil) da_nil))))) rfl) (dw_or1 (dt_cmp ro_notB op_isnot_bl (dcall c_is_plan hr (by decide) tk (da_cons (dv 3) (da_cons (dv 4) (da_cons (dv 6) da_nil)))) de_bl rfl)))) (dss_one (ds_ret de_bl)) dss_nil) (dss_cons (ds_set sc_law_k31.nd (by rfl) (by first | exact Or.inl rfl | exact Or.inr rfl) (dcall c_l_homes hr (by decide) tk (da_cons (dv 3) (da_cons (dv 4) (da_cons (dv 6) da_nil))))) (dss_cons (ds_if (dt_cmp ro_ne (op_neD hu) (dcall c_home_order hr (by decide) tk (da_cons (dv 3) (da_cons (dv 4) (da_cons (dv 5) da_nil)))) (de_lc (by rfl) sc_law_k31.nd (di_seq (dv 4)) (blkOk_by (own := [("one", 17)]) (by show blkC ["script", "k", "well", "lanes", "folk", "order", "plan", "homes", "any_so", "others", "many", "some", "alone", "tick", "here", "odd", "way", "one", "ticks"] (defScope st_law_k31) _ _ = true; decide +kernel)) (fun _ _ _ _ _ _ => (dg_n sc_law_k31.nd (by rfl) (by first | exact Or.inl rfl | exact Or.inr rfl))) (fun _ _ _ _ _ _ => dts_nil) (fun _ _ _ _ _ _ => (de_tup (da_cons (de_ix hu (dv 17) de_int) (da_cons (de_ix hu (dv 7) (de_ix hu (dv 17) de_int)) da_nil))))) rfl) (dss_one (ds_ret de_bl)) dss_nil) (dss_cons (ds_set sc_law_k31.nd (by rfl) (by first | exact Or.inl rfl | exact Or.inr rfl) (dcallW c_l_any_plan hr (by decide) tk (da_cons (dv 2) (da_cons (dv 3) (da_cons (dv 4) da_nil))))) (dss_cons (ds_set sc_law_k31.nd (by rfl) (by first | exact Or.inl rfl | exact Or.inr rfl) (dcall c_l_homes hr (by decide) tk (da_cons (dv 3) (da_cons (dv 4) (da_cons (dv 8) da_nil))))) (dss_cons (ds_for (passes_of rfl) (by rfl) (di_range2 (by rfl) B.range (da_cons de_int (da_cons (de_callB rc_len call_lenAll (by rfl) B.len boot_len (da_cons (dv 5) da_nil)) da_nil))) (dg_n sc_law_k31.nd (by rfl) (by first | exact Or.inl rfl | exact Or.inr rfl)) (dss_cons (ds_set sc_law_k31.nd (by rfl) (by first | exact Or.inl rfl | exact Or.inr rfl) (de_callTy rc_tuple call_tuple_of (by rfl) B.tuple boot_tuple (da_cons (de_lc (by rfl) sc_law_k31.nd (di_seq (dv 4)) (blkOk_by (own := [("one", 17)]) (by show blkC ["script", "k", "well", "lanes", "folk", "order", "plan", "homes", "any_so", "others", "many", "some", "alone", "tick", "here", "odd", "way", "one", "ticks"] (defScope st_law_k31) _ _ = true; decide +kernel)) (fun _ _ _ _ _ _ => (dg_n sc_law_k31.nd (by rfl) (by first | exact Or.inl rfl | exact Or.inr rfl))) (fun _ _ _ _ _ _ => (dts_one (dt_cmp ro_in (op_inAll hu) (de_ix hu (dv 17) de_int) (de_slice (dv 5) do_none (do_some (dv 10))) rfl))) (fun _ _ _ _ _ _ => (dv 17))) da_nil))) (dss_cons (ds_set sc_law_k31.nd (by rfl) (by first | exact Or.inl rfl | exact Or.inr rfl) (dcall c_plan_by hr (by decide) tk (da_cons (dv 3) (da_cons (dv 11) (da_cons (de_slice (dv 5) do_none (do_some (dv 10))) da_nil))))) (dss_cons (ds_if (dt_cmp ro_ne (op_neD hu) (dv 12) (de_callTy rc_tuple call_tuple_of (by rfl) B.tuple boot_tuple (da_cons (de_lc (by rfl) sc_law_k31.nd (di_zip2 (by rfl) B.zip (da_cons (dv 4) (da_cons (dv 6) da_nil))) (blkOk_by (own := [("one", 17), ("ticks", 18)]) (by show blkC ["script", "k", "well", "lanes", "folk", "order", "plan", "homes", "any_so", "others", "many", "some", "alone", "tick", "here", "odd", "way", "one", "ticks"] (defScope st_law_k31) _ _ = true; decide +kernel)) (fun _ _ _ _ _ _ => (dg_t (by rfl) (dgs_cons (dg_n sc_law_k31.nd (by rfl) (by first | exact Or.inl rfl | exact Or.inr rfl)) (dgs_cons (dg_n sc_law_k31.nd (by rfl) (by first | exact Or.inl rfl | exact Or.inr rfl)) dgs_nil)))) (fun _ _ _ _ _ _ => (dts_one (dt_cmp ro_in (op_inAll hu) (de_ix hu (dv 17) de_int) (de_slice (dv 5) do_none (do_some (dv 10))) rfl))) (fun _ _ _ _ _ _ => (dv 18))) da_nil)) rfl) (dss_one (ds_ret de_bl)) dss_nil) (dss_one (ds_for (passes_of rfl) (by rfl) (di_seq (de_sortSetI (by rfl) (by rfl) B.sorted (by rfl) B.set (de_lc (by rfl) sc_law_k31.nd (di_seq (dv 11)) (blkOk_by (own := [("one", 17)]) (by show blkC ["script", "k", "well", "lanes", "folk", "order", "plan", "homes", "any_so", "others", "many", "some", "alone", "tick", "here", "odd", "way", "one", "ticks"] (defScope st_law_k31) _ _ = true; decide +kernel)) (fun _ _ _ _ _ _ => (dg_n sc_law_k31.nd (by rfl) (by first | exact Or.inl rfl | exact Or.inr rfl))) (fun _ _ _ _ _ _ => dts_nil) (fun _ _ _ _ _ _ => (de_ix hu (dv 9) (de_ix hu (dv 17) de_int)))))) (dg_n sc_law_k31.nd (by rfl) (by first | exact Or.inl rfl | exact Or.inr rfl)) (dss_cons (ds_setLc (by rfl) sc_law_k31.nd (by rfl) (by rfl) (sw_true (by rfl) (by rfl) (by rfl) (by decide +kernel)) (di_seq (dv 11)) (blkOk_by (own := [("one", 17)]) (by show blkC ["script", "k", "well", "lanes", "folk", "order", "plan", "homes", "any_so", "others", "many", "some", "alone", "tick", "here", "odd", "way", "one", "ticks"] (defScope st_law_k31) _ _ = true; decide +kernel)) (fun _ _ _ _ _ _ => (dg_n sc_law_k31.nd (by rfl) (by first | exact Or.inl rfl | exact Or.inr rfl))) (fun _ _ _ _ _ _ => (dts_one (dt_cmp ro_le op_le (de_ix hu (dv 7) (de_ix hu (dv 17) de_int)) (dv 13) rfl))) (fun _ _ _ _ _ _ => (dv 17))) (dss_one (ds_if (dt_cmp ro_ltA (op_ltA hu) (de_callB rc_len call_lenAll (by rfl) B.len boot_len (da_cons (dv 14) da_nil)) (de_callB rc_len call_lenAll (by rfl) B.len boot_len (da_cons (de_lc (by rfl) sc_law_k31.nd (di_seq (dv 11)) (blkOk_by (own := [("one", 17)]) (by show blkC ["script", "k", "well", "lanes", "folk", "order", "plan", "homes", "any_so", "others", "many", "some", "alone", "tick", "here", "odd", "way", "one", "ticks"] (defScope st_law_k31) _ _ = true; decide +kernel)) (fun _ _ _ _ _ _ => (dg_n sc_law_k31.nd (by rfl) (by first | exact Or.inl rfl | exact Or.inr rfl))) (fun _ _ _ _ _ _ => (dts_one (dt_cmp ro_le op_le (de_ix hu (dv 9) (de_ix hu (dv 17) de_int)) (dv 13) rfl))) (fun _ _ _ _ _ _ => (dv 17))) da_nil)) rfl) (dss_one (ds_ret de_bl)) dss_nil))))))))) (dss_one (ds_for (passes_of rfl) (by rfl) (di_seq (de_lst (da_cons de_non (da_cons (de_callTy rc_list call_list_of (by rfl) B.list boot_list (da_cons (dv 5) da_nil)) (da_cons (de_slice (dv 5) (do_some de_int) do_none) (da_cons (de_op ro_add op_addAll (dv 5) (de_slice (dv 5) do_none (do_some de_int))) (da_cons (de_op ro_add op_addAll (de_slice (dv 5) do_none (do_some (de_neg de_int))) (de_tup (da_cons de_str da_nil))) (da_cons (de_op ro_mulT op_mulT (de_tup (da_cons de_int da_nil)) (de_callB rc_len call_lenAll (by rfl) B.len boot_len (da_cons (dv 5) da_nil))) da_nil)))))))) (dg_n sc_law_k31.nd (by rfl) (by first | exact Or.inl rfl | exact Or.inr rfl)) (dss_one (ds_for (passes_of rfl) (by rfl) (di_range1 (by rfl) B.range (da_cons de_int da_nil)) (dg_n sc_law_k31.nd (by rfl) (by first | exact Or.inl rfl | exact Or.inr rfl)) (dss_cons (ds_if (dt_bool (dw_or (dt_cmp ro_ne (op_neD hu) (dcall c_l_asked31 hr (by decide) tk (da_cons (dv 16) (da_cons (dv 3) (da_cons (dv 4) (da_cons (dv 15) da_nil))))) de_str rfl) (dw_or1 (dt_cmp ro_ne (op_neD hu) (dcall c_l_asked31 hr (by decide) tk (da_cons (dv 16) (da_cons (dv 3) (da_cons de_non (da_cons (dv 15) da_nil))))) de_str rfl)))) (dss_one (ds_ret de_bl)) dss_nil) (dss_one (ds_if (dt_cmp ro_ne (op_neD hu) (dcall c_l_asked31 hr (by decide) tk (da_cons (dv 16) (da_cons de_non (da_cons (dv 4) (da_cons (dv 15) da_nil))))) de_str rfl) (dss_one (ds_ret de_bl)) dss_nil))))))))))))))))))) (dss_one (ds_ret de_bl))),
      w_law_k31.use⟩
end
end DL
end
section
set_option maxRecDepth 100000
set_option maxHeartbeats 4000000
namespace DL
open PySem L2 PyProof.Rows
theorem all_mk {l : PySem.W.OpenLaw} {w : World} {K : PySem.W.Frag} {h : Heap} {mg : Str → Option Value} {fa : Addr} (XX : K.In h) (G : h.Ns mainGlobals mg) (hfa : mg "law" = some (.ref fa))
    {tk_HOME : Tok}
    {tk_LETTERS : Tok}
    {tk_MOST_FOLK : Tok}
    {tk_MOST_LANES : Tok}
    {tk_MOST_LONG : Tok}
    {tk_MOST_TICK : Tok}
    {tk_MOST_WIDE : Tok}
    {xC_NoFolk : Addr}
    {xC_NoLanes : Addr}
    {xC_NoOrder : Addr}
    {xC_NoCrowd : Addr}
    {xC_NoWishes : Addr}
    {xC_NoWorths : Addr}
    {xC_NoPlan : Addr}
    {xC_NoCrossing : Addr}
    {xC_NoTick : Addr}
    {xC_NoName : Addr}
    {xC_NoRank : Addr}
    {xC_NoTicks : Addr}
    {xC_Taken : Addr}
    {xC_NotThere : Addr}
    {xC_LaneError : Addr}
    {f_l_take : Addr} {od_l_take an_l_take : Option Addr} {sl_l_take : Array (Option Value)} {oc_l_take kV_l_take dc_l_take pm_l_take cd_l_take ct_l_take : Value}
    {f_l_drawn_order : Addr} {od_l_drawn_order an_l_drawn_order : Option Addr} {sl_l_drawn_order : Array (Option Value)} {oc_l_drawn_order kV_l_drawn_order dc_l_drawn_order pm_l_drawn_order cd_l_drawn_order ct_l_drawn_order : Value}
    {f_l_lane : Addr} {od_l_lane an_l_lane : Option Addr} {sl_l_lane : Array (Option Value)} {oc_l_lane kV_l_lane dc_l_lane pm_l_lane cd_l_lane ct_l_lane : Value}
    {f_l_run : Addr} {od_l_run an_l_run : Option Addr} {sl_l_run : Array (Option Value)} {oc_l_run kV_l_run dc_l_run pm_l_run cd_l_run ct_l_run : Value}
    {f_l_any_plan : Addr} {od_l_any_plan an_l_any_plan : Option Addr} {sl_l_any_plan : Array (Option Value)} {oc_l_any_plan kV_l_any_plan dc_l_any_plan pm_l_any_plan cd_l_any_plan ct_l_any_plan : Value}
    {f_table_of : Addr} {od_table_of an_table_of : Option Addr} {sl_table_of : Array (Option Value)} {oc_table_of kV_table_of dc_table_of pm_table_of cd_table_of ct_table_of : Value}
    {f_way_of : Addr} {od_way_of an_way_of : Option Addr} {sl_way_of : Array (Option Value)} {oc_way_of kV_way_of dc_way_of pm_way_of cd_way_of ct_way_of : Value}
    {f_comes_out : Addr} {od_comes_out an_comes_out : Option Addr} {sl_comes_out : Array (Option Value)} {oc_comes_out kV_comes_out dc_comes_out pm_comes_out cd_comes_out ct_comes_out : Value}
    {f_ticks_by : Addr} {od_ticks_by an_ticks_by : Option Addr} {sl_ticks_by : Array (Option Value)} {oc_ticks_by kV_ticks_by dc_ticks_by pm_ticks_by cd_ticks_by ct_ticks_by : Value}
    {f_plan_of : Addr} {od_plan_of an_plan_of : Option Addr} {sl_plan_of : Array (Option Value)} {oc_plan_of kV_plan_of dc_plan_of pm_plan_of cd_plan_of ct_plan_of : Value}
    {f_home_ticks : Addr} {od_home_ticks an_home_ticks : Option Addr} {sl_home_ticks : Array (Option Value)} {oc_home_ticks kV_home_ticks dc_home_ticks pm_home_ticks cd_home_ticks ct_home_ticks : Value}
    {f_is_order : Addr} {od_is_order an_is_order : Option Addr} {sl_is_order : Array (Option Value)} {oc_is_order kV_is_order dc_is_order pm_is_order cd_is_order ct_is_order : Value}
    {f_is_crossing : Addr} {od_is_crossing an_is_crossing : Option Addr} {sl_is_crossing : Array (Option Value)} {oc_is_crossing kV_is_crossing dc_is_crossing pm_is_crossing cd_is_crossing ct_is_crossing : Value}
    {f_is_name : Addr} {od_is_name an_is_name : Option Addr} {sl_is_name : Array (Option Value)} {oc_is_name kV_is_name dc_is_name pm_is_name cd_is_name ct_is_name : Value}
    {f_is_whole : Addr} {od_is_whole an_is_whole : Option Addr} {sl_is_whole : Array (Option Value)} {oc_is_whole kV_is_whole dc_is_whole pm_is_whole cd_is_whole ct_is_whole : Value}
    {f_is_one : Addr} {od_is_one an_is_one : Option Addr} {sl_is_one : Array (Option Value)} {oc_is_one kV_is_one dc_is_one pm_is_one cd_is_one ct_is_one : Value}
    {f_are_folk_of : Addr} {od_are_folk_of an_are_folk_of : Option Addr} {sl_are_folk_of : Array (Option Value)} {oc_are_folk_of kV_are_folk_of dc_are_folk_of pm_are_folk_of cd_are_folk_of ct_are_folk_of : Value}
    {f_is_lane : Addr} {od_is_lane an_is_lane : Option Addr} {sl_is_lane : Array (Option Value)} {oc_is_lane kV_is_lane dc_is_lane pm_is_lane cd_is_lane ct_is_lane : Value}
    {f_are_lanes : Addr} {od_are_lanes an_are_lanes : Option Addr} {sl_are_lanes : Array (Option Value)} {oc_are_lanes kV_are_lanes dc_are_lanes pm_are_lanes cd_are_lanes ct_are_lanes : Value}
    {f_need_lanes : Addr} {od_need_lanes an_need_lanes : Option Addr} {sl_need_lanes : Array (Option Value)} {oc_need_lanes kV_need_lanes dc_need_lanes pm_need_lanes cd_need_lanes ct_need_lanes : Value}
    {f_need_folk : Addr} {od_need_folk an_need_folk : Option Addr} {sl_need_folk : Array (Option Value)} {oc_need_folk kV_need_folk dc_need_folk pm_need_folk cd_need_folk ct_need_folk : Value}
    {f_need_order : Addr} {od_need_order an_need_order : Option Addr} {sl_need_order : Array (Option Value)} {oc_need_order kV_need_order dc_need_order pm_need_order cd_need_order ct_need_order : Value}
    {f_home_order : Addr} {od_home_order an_home_order : Option Addr} {sl_home_order : Array (Option Value)} {oc_home_order kV_home_order dc_home_order pm_home_order cd_home_order ct_home_order : Value}
    {f_plan_by : Addr} {od_plan_by an_plan_by : Option Addr} {sl_plan_by : Array (Option Value)} {oc_plan_by kV_plan_by dc_plan_by pm_plan_by cd_plan_by ct_plan_by : Value}
    {f_l_asked31 : Addr} {od_l_asked31 an_l_asked31 : Option Addr} {sl_l_asked31 : Array (Option Value)} {oc_l_asked31 kV_l_asked31 dc_l_asked31 pm_l_asked31 cd_l_asked31 ct_l_asked31 : Value}
    {f_l_folk : Addr} {od_l_folk an_l_folk : Option Addr} {sl_l_folk : Array (Option Value)} {oc_l_folk kV_l_folk dc_l_folk pm_l_folk cd_l_folk ct_l_folk : Value}
    {f_l_way : Addr} {od_l_way an_l_way : Option Addr} {sl_l_way : Array (Option Value)} {oc_l_way kV_l_way dc_l_way pm_l_way cd_l_way ct_l_way : Value}
    {f_l_homes : Addr} {od_l_homes an_l_homes : Option Addr} {sl_l_homes : Array (Option Value)} {oc_l_homes kV_l_homes dc_l_homes pm_l_homes cd_l_homes ct_l_homes : Value}
    {f_l_lanes : Addr} {od_l_lanes an_l_lanes : Option Addr} {sl_l_lanes : Array (Option Value)} {oc_l_lanes kV_l_lanes dc_l_lanes pm_l_lanes cd_l_lanes ct_l_lanes : Value}
    {f_l_well : Addr} {od_l_well an_l_well : Option Addr} {sl_l_well : Array (Option Value)} {oc_l_well kV_l_well dc_l_well pm_l_well cd_l_well ct_l_well : Value}
    {f_is_plan_of : Addr} {od_is_plan_of an_is_plan_of : Option Addr} {sl_is_plan_of : Array (Option Value)} {oc_is_plan_of kV_is_plan_of dc_is_plan_of pm_is_plan_of cd_is_plan_of ct_is_plan_of : Value}
    {f_is_plan : Addr} {od_is_plan an_is_plan : Option Addr} {sl_is_plan : Array (Option Value)} {oc_is_plan kV_is_plan dc_is_plan pm_is_plan cd_is_plan ct_is_plan : Value}
    {f_law_k31 : Addr} {od_law_k31 an_law_k31 : Option Addr} {sl_law_k31 : Array (Option Value)} {oc_law_k31 kV_law_k31 dc_law_k31 pm_law_k31 cd_law_k31 ct_law_k31 : Value}
    {f_l_kinds : Addr} {od_l_kinds an_l_kinds : Option Addr} {sl_l_kinds : Array (Option Value)} {oc_l_kinds kV_l_kinds dc_l_kinds pm_l_kinds cd_l_kinds ct_l_kinds : Value}
    {f_l_refusal : Addr} {od_l_refusal an_l_refusal : Option Addr} {sl_l_refusal : Array (Option Value)} {oc_l_refusal kV_l_refusal dc_l_refusal pm_l_refusal cd_l_refusal ct_l_refusal : Value}
    (fc_HOME : PySem.W.nsIn K mainGlobals "HOME" = some (some (.str "home" tk_HOME)))
    (fc_LETTERS : PySem.W.nsIn K mainGlobals "LETTERS" = some (some (.str "abcdefghijklmnopqrstuvwxyz" tk_LETTERS)))
    (fc_MOST_FOLK : PySem.W.nsIn K mainGlobals "MOST_FOLK" = some (some (.int 10 tk_MOST_FOLK)))
    (fc_MOST_LANES : PySem.W.nsIn K mainGlobals "MOST_LANES" = some (some (.int 8 tk_MOST_LANES)))
    (fc_MOST_LONG : PySem.W.nsIn K mainGlobals "MOST_LONG" = some (some (.int 20 tk_MOST_LONG)))
    (fc_MOST_TICK : PySem.W.nsIn K mainGlobals "MOST_TICK" = some (some (.int 50 tk_MOST_TICK)))
    (fc_MOST_WIDE : PySem.W.nsIn K mainGlobals "MOST_WIDE" = some (some (.int 9 tk_MOST_WIDE)))
    (fb_all : PySem.W.nsIn K mainGlobals "all" = some none)
    (fb_any : PySem.W.nsIn K mainGlobals "any" = some none)
    (fb_bool : PySem.W.nsIn K mainGlobals "bool" = some none)
    (fb_dict : PySem.W.nsIn K mainGlobals "dict" = some none)
    (fb_int : PySem.W.nsIn K mainGlobals "int" = some none)
    (fb_isinstance : PySem.W.nsIn K mainGlobals "isinstance" = some none)
    (fb_len : PySem.W.nsIn K mainGlobals "len" = some none)
    (fb_list : PySem.W.nsIn K mainGlobals "list" = some none)
    (fb_max : PySem.W.nsIn K mainGlobals "max" = some none)
    (fb_min : PySem.W.nsIn K mainGlobals "min" = some none)
    (fb_range : PySem.W.nsIn K mainGlobals "range" = some none)
    (fb_set : PySem.W.nsIn K mainGlobals "set" = some none)
    (fb_sorted : PySem.W.nsIn K mainGlobals "sorted" = some none)
    (fb_str : PySem.W.nsIn K mainGlobals "str" = some none)
    (fb_tuple : PySem.W.nsIn K mainGlobals "tuple" = some none)
    (fb_zip : PySem.W.nsIn K mainGlobals "zip" = some none)
    (fxg_NoFolk : PySem.W.nsIn K mainGlobals "NoFolk" = some (some (.ref xC_NoFolk))) (fxq_NoFolk : PySem.W.excIn K xC_NoFolk [.type "ValueError", .type "Exception", .type "BaseException", .type "object"] "ValueError.__new__" = true) (fxk_NoFolk : PySem.W.keepIn K (.ref xC_NoFolk) = true) (fxb_NoFolk : PySem.W.subIn K (.ref xC_NoFolk) (.type "BaseException") = some true) (fxt_NoFolk : PySem.W.typeIn K (.ref xC_NoFolk) = some (.type "type"))
    (fxg_NoLanes : PySem.W.nsIn K mainGlobals "NoLanes" = some (some (.ref xC_NoLanes))) (fxq_NoLanes : PySem.W.excIn K xC_NoLanes [.type "ValueError", .type "Exception", .type "BaseException", .type "object"] "ValueError.__new__" = true) (fxk_NoLanes : PySem.W.keepIn K (.ref xC_NoLanes) = true) (fxb_NoLanes : PySem.W.subIn K (.ref xC_NoLanes) (.type "BaseException") = some true) (fxt_NoLanes : PySem.W.typeIn K (.ref xC_NoLanes) = some (.type "type"))
    (fxg_NoOrder : PySem.W.nsIn K mainGlobals "NoOrder" = some (some (.ref xC_NoOrder))) (fxq_NoOrder : PySem.W.excIn K xC_NoOrder [.type "ValueError", .type "Exception", .type "BaseException", .type "object"] "ValueError.__new__" = true) (fxk_NoOrder : PySem.W.keepIn K (.ref xC_NoOrder) = true) (fxb_NoOrder : PySem.W.subIn K (.ref xC_NoOrder) (.type "BaseException") = some true) (fxt_NoOrder : PySem.W.typeIn K (.ref xC_NoOrder) = some (.type "type"))
    (fxh_NoLanes : PySem.W.hasDictIn K xC_NoLanes = true)
    (fxh_NoFolk : PySem.W.hasDictIn K xC_NoFolk = true)
    (fxg_NoCrowd : PySem.W.nsIn K mainGlobals "NoCrowd" = some (some (.ref xC_NoCrowd))) (fxt_NoCrowd : PySem.W.typeIn K (.ref xC_NoCrowd) = some (.type "type"))
    (fxh_NoCrowd : PySem.W.hasDictIn K xC_NoCrowd = true)
    (fxh_NoOrder : PySem.W.hasDictIn K xC_NoOrder = true)
    (fxg_NoWishes : PySem.W.nsIn K mainGlobals "NoWishes" = some (some (.ref xC_NoWishes))) (fxt_NoWishes : PySem.W.typeIn K (.ref xC_NoWishes) = some (.type "type"))
    (fxh_NoWishes : PySem.W.hasDictIn K xC_NoWishes = true)
    (fxg_NoWorths : PySem.W.nsIn K mainGlobals "NoWorths" = some (some (.ref xC_NoWorths))) (fxt_NoWorths : PySem.W.typeIn K (.ref xC_NoWorths) = some (.type "type"))
    (fxh_NoWorths : PySem.W.hasDictIn K xC_NoWorths = true)
    (fxg_NoPlan : PySem.W.nsIn K mainGlobals "NoPlan" = some (some (.ref xC_NoPlan))) (fxt_NoPlan : PySem.W.typeIn K (.ref xC_NoPlan) = some (.type "type"))
    (fxh_NoPlan : PySem.W.hasDictIn K xC_NoPlan = true)
    (fxg_NoCrossing : PySem.W.nsIn K mainGlobals "NoCrossing" = some (some (.ref xC_NoCrossing))) (fxt_NoCrossing : PySem.W.typeIn K (.ref xC_NoCrossing) = some (.type "type"))
    (fxh_NoCrossing : PySem.W.hasDictIn K xC_NoCrossing = true)
    (fxg_NoTick : PySem.W.nsIn K mainGlobals "NoTick" = some (some (.ref xC_NoTick))) (fxt_NoTick : PySem.W.typeIn K (.ref xC_NoTick) = some (.type "type"))
    (fxh_NoTick : PySem.W.hasDictIn K xC_NoTick = true)
    (fxg_NoName : PySem.W.nsIn K mainGlobals "NoName" = some (some (.ref xC_NoName))) (fxt_NoName : PySem.W.typeIn K (.ref xC_NoName) = some (.type "type"))
    (fxh_NoName : PySem.W.hasDictIn K xC_NoName = true)
    (fxg_NoRank : PySem.W.nsIn K mainGlobals "NoRank" = some (some (.ref xC_NoRank))) (fxt_NoRank : PySem.W.typeIn K (.ref xC_NoRank) = some (.type "type"))
    (fxh_NoRank : PySem.W.hasDictIn K xC_NoRank = true)
    (fxg_NoTicks : PySem.W.nsIn K mainGlobals "NoTicks" = some (some (.ref xC_NoTicks))) (fxt_NoTicks : PySem.W.typeIn K (.ref xC_NoTicks) = some (.type "type"))
    (fxh_NoTicks : PySem.W.hasDictIn K xC_NoTicks = true)
    (fxg_Taken : PySem.W.nsIn K mainGlobals "Taken" = some (some (.ref xC_Taken))) (fxt_Taken : PySem.W.typeIn K (.ref xC_Taken) = some (.type "type"))
    (fxh_Taken : PySem.W.hasDictIn K xC_Taken = true)
    (fxg_NotThere : PySem.W.nsIn K mainGlobals "NotThere" = some (some (.ref xC_NotThere))) (fxt_NotThere : PySem.W.typeIn K (.ref xC_NotThere) = some (.type "type"))
    (fxh_NotThere : PySem.W.hasDictIn K xC_NotThere = true)
    (fxg_LaneError : PySem.W.nsIn K mainGlobals "LaneError" = some (some (.ref xC_LaneError))) (fxt_LaneError : PySem.W.typeIn K (.ref xC_LaneError) = some (.type "type"))
    (fxh_LaneError : PySem.W.hasDictIn K xC_LaneError = true)
    (fxb_LaneError : PySem.W.subIn K (.ref xC_LaneError) (.type "BaseException") = some true) (fbv : PySem.W.nsIn K mainGlobals "ValueError" = some none) (fen : PySem.W.specialIn K (.builtin "object.__class__") "__get__" = some (some (.builtin "getset_descriptor.__get__"))) (fet : PySem.W.takesIn K (.builtin "object.__class__") = some true)
    (fea_NoFolk : PySem.W.findIn K (.ref xC_NoFolk) "__getattribute__" = some (some (.builtin "BaseException.__getattribute__"))) (feb_NoFolk : PySem.W.findIn K (.ref xC_NoFolk) "__getattr__" = some none) (fec_NoFolk : PySem.W.findIn K (.ref xC_NoFolk) "__class__" = some (some (.builtin "object.__class__"))) (fem_NoFolk : PySem.W.mroIn K xC_NoFolk (.type "object") = some true) (fsv_NoFolk : PySem.W.subIn K (.ref xC_NoFolk) (.type "ValueError") = some true)
    (fs_NoFolk_NoLanes : PySem.W.subIn K (.ref xC_NoFolk) (.ref xC_NoLanes) = some false)
    (fs_NoFolk_NoFolk : PySem.W.subIn K (.ref xC_NoFolk) (.ref xC_NoFolk) = some true)
    (fs_NoFolk_NoCrowd : PySem.W.subIn K (.ref xC_NoFolk) (.ref xC_NoCrowd) = some false)
    (fs_NoFolk_NoOrder : PySem.W.subIn K (.ref xC_NoFolk) (.ref xC_NoOrder) = some false)
    (fs_NoFolk_NoWishes : PySem.W.subIn K (.ref xC_NoFolk) (.ref xC_NoWishes) = some false)
    (fs_NoFolk_NoWorths : PySem.W.subIn K (.ref xC_NoFolk) (.ref xC_NoWorths) = some false)
    (fs_NoFolk_NoPlan : PySem.W.subIn K (.ref xC_NoFolk) (.ref xC_NoPlan) = some false)
    (fs_NoFolk_NoCrossing : PySem.W.subIn K (.ref xC_NoFolk) (.ref xC_NoCrossing) = some false)
    (fs_NoFolk_NoTick : PySem.W.subIn K (.ref xC_NoFolk) (.ref xC_NoTick) = some false)
    (fs_NoFolk_NoName : PySem.W.subIn K (.ref xC_NoFolk) (.ref xC_NoName) = some false)
    (fs_NoFolk_NoRank : PySem.W.subIn K (.ref xC_NoFolk) (.ref xC_NoRank) = some false)
    (fs_NoFolk_NoTicks : PySem.W.subIn K (.ref xC_NoFolk) (.ref xC_NoTicks) = some false)
    (fs_NoFolk_Taken : PySem.W.subIn K (.ref xC_NoFolk) (.ref xC_Taken) = some false)
    (fs_NoFolk_NotThere : PySem.W.subIn K (.ref xC_NoFolk) (.ref xC_NotThere) = some false)
    (fs_NoFolk_LaneError : PySem.W.subIn K (.ref xC_NoFolk) (.ref xC_LaneError) = some true)
    (fea_NoLanes : PySem.W.findIn K (.ref xC_NoLanes) "__getattribute__" = some (some (.builtin "BaseException.__getattribute__"))) (feb_NoLanes : PySem.W.findIn K (.ref xC_NoLanes) "__getattr__" = some none) (fec_NoLanes : PySem.W.findIn K (.ref xC_NoLanes) "__class__" = some (some (.builtin "object.__class__"))) (fem_NoLanes : PySem.W.mroIn K xC_NoLanes (.type "object") = some true) (fsv_NoLanes : PySem.W.subIn K (.ref xC_NoLanes) (.type "ValueError") = some true)
    (fs_NoLanes_NoLanes : PySem.W.subIn K (.ref xC_NoLanes) (.ref xC_NoLanes) = some true)
    (fs_NoLanes_NoFolk : PySem.W.subIn K (.ref xC_NoLanes) (.ref xC_NoFolk) = some false)
    (fs_NoLanes_NoCrowd : PySem.W.subIn K (.ref xC_NoLanes) (.ref xC_NoCrowd) = some false)
    (fs_NoLanes_NoOrder : PySem.W.subIn K (.ref xC_NoLanes) (.ref xC_NoOrder) = some false)
    (fs_NoLanes_NoWishes : PySem.W.subIn K (.ref xC_NoLanes) (.ref xC_NoWishes) = some false)
    (fs_NoLanes_NoWorths : PySem.W.subIn K (.ref xC_NoLanes) (.ref xC_NoWorths) = some false)
    (fs_NoLanes_NoPlan : PySem.W.subIn K (.ref xC_NoLanes) (.ref xC_NoPlan) = some false)
    (fs_NoLanes_NoCrossing : PySem.W.subIn K (.ref xC_NoLanes) (.ref xC_NoCrossing) = some false)
    (fs_NoLanes_NoTick : PySem.W.subIn K (.ref xC_NoLanes) (.ref xC_NoTick) = some false)
    (fs_NoLanes_NoName : PySem.W.subIn K (.ref xC_NoLanes) (.ref xC_NoName) = some false)
    (fs_NoLanes_NoRank : PySem.W.subIn K (.ref xC_NoLanes) (.ref xC_NoRank) = some false)
    (fs_NoLanes_NoTicks : PySem.W.subIn K (.ref xC_NoLanes) (.ref xC_NoTicks) = some false)
    (fs_NoLanes_Taken : PySem.W.subIn K (.ref xC_NoLanes) (.ref xC_Taken) = some false)
    (fs_NoLanes_NotThere : PySem.W.subIn K (.ref xC_NoLanes) (.ref xC_NotThere) = some false)
    (fs_NoLanes_LaneError : PySem.W.subIn K (.ref xC_NoLanes) (.ref xC_LaneError) = some true)
    (fea_NoOrder : PySem.W.findIn K (.ref xC_NoOrder) "__getattribute__" = some (some (.builtin "BaseException.__getattribute__"))) (feb_NoOrder : PySem.W.findIn K (.ref xC_NoOrder) "__getattr__" = some none) (fec_NoOrder : PySem.W.findIn K (.ref xC_NoOrder) "__class__" = some (some (.builtin "object.__class__"))) (fem_NoOrder : PySem.W.mroIn K xC_NoOrder (.type "object") = some true) (fsv_NoOrder : PySem.W.subIn K (.ref xC_NoOrder) (.type "ValueError") = some true)
    (fs_NoOrder_NoLanes : PySem.W.subIn K (.ref xC_NoOrder) (.ref xC_NoLanes) = some false)
    (fs_NoOrder_NoFolk : PySem.W.subIn K (.ref xC_NoOrder) (.ref xC_NoFolk) = some false)
    (fs_NoOrder_NoCrowd : PySem.W.subIn K (.ref xC_NoOrder) (.ref xC_NoCrowd) = some false)
    (fs_NoOrder_NoOrder : PySem.W.subIn K (.ref xC_NoOrder) (.ref xC_NoOrder) = some true)
    (fs_NoOrder_NoWishes : PySem.W.subIn K (.ref xC_NoOrder) (.ref xC_NoWishes) = some false)
    (fs_NoOrder_NoWorths : PySem.W.subIn K (.ref xC_NoOrder) (.ref xC_NoWorths) = some false)
    (fs_NoOrder_NoPlan : PySem.W.subIn K (.ref xC_NoOrder) (.ref xC_NoPlan) = some false)
    (fs_NoOrder_NoCrossing : PySem.W.subIn K (.ref xC_NoOrder) (.ref xC_NoCrossing) = some false)
    (fs_NoOrder_NoTick : PySem.W.subIn K (.ref xC_NoOrder) (.ref xC_NoTick) = some false)
    (fs_NoOrder_NoName : PySem.W.subIn K (.ref xC_NoOrder) (.ref xC_NoName) = some false)
    (fs_NoOrder_NoRank : PySem.W.subIn K (.ref xC_NoOrder) (.ref xC_NoRank) = some false)
    (fs_NoOrder_NoTicks : PySem.W.subIn K (.ref xC_NoOrder) (.ref xC_NoTicks) = some false)
    (fs_NoOrder_Taken : PySem.W.subIn K (.ref xC_NoOrder) (.ref xC_Taken) = some false)
    (fs_NoOrder_NotThere : PySem.W.subIn K (.ref xC_NoOrder) (.ref xC_NotThere) = some false)
    (fs_NoOrder_LaneError : PySem.W.subIn K (.ref xC_NoOrder) (.ref xC_LaneError) = some true)
    (fa_l_take : PySem.W.nsIn K mainGlobals "_law_take" = some (some (.ref f_l_take))) (fl_l_take : K.lookup f_l_take = some ⟨oc_l_take, od_l_take, .func (PySem.W.fnOf "_law_take" "_law_take" (defArgs st_l_take) (defBody st_l_take) (defScope st_l_take) .none kV_l_take dc_l_take pm_l_take an_l_take cd_l_take ct_l_take), sl_l_take⟩) (fd_l_take : PySem.W.codeIn K cd_l_take "_law_take" = true) (fk_l_take : PySem.W.keepIn K (.ref f_l_take) = true)
    (fa_l_drawn_order : PySem.W.nsIn K mainGlobals "_law_drawn_order" = some (some (.ref f_l_drawn_order))) (fl_l_drawn_order : K.lookup f_l_drawn_order = some ⟨oc_l_drawn_order, od_l_drawn_order, .func (PySem.W.fnOf "_law_drawn_order" "_law_drawn_order" (defArgs st_l_drawn_order) (defBody st_l_drawn_order) (defScope st_l_drawn_order) .none kV_l_drawn_order dc_l_drawn_order pm_l_drawn_order an_l_drawn_order cd_l_drawn_order ct_l_drawn_order), sl_l_drawn_order⟩) (fd_l_drawn_order : PySem.W.codeIn K cd_l_drawn_order "_law_drawn_order" = true) (fk_l_drawn_order : PySem.W.keepIn K (.ref f_l_drawn_order) = true)
    (fa_l_lane : PySem.W.nsIn K mainGlobals "_law_lane" = some (some (.ref f_l_lane))) (fl_l_lane : K.lookup f_l_lane = some ⟨oc_l_lane, od_l_lane, .func (PySem.W.fnOf "_law_lane" "_law_lane" (defArgs st_l_lane) (defBody st_l_lane) (defScope st_l_lane) .none kV_l_lane dc_l_lane pm_l_lane an_l_lane cd_l_lane ct_l_lane), sl_l_lane⟩) (fd_l_lane : PySem.W.codeIn K cd_l_lane "_law_lane" = true) (fk_l_lane : PySem.W.keepIn K (.ref f_l_lane) = true)
    (fa_l_run : PySem.W.nsIn K mainGlobals "_law_run" = some (some (.ref f_l_run))) (fl_l_run : K.lookup f_l_run = some ⟨oc_l_run, od_l_run, .func (PySem.W.fnOf "_law_run" "_law_run" (defArgs st_l_run) (defBody st_l_run) (defScope st_l_run) .none kV_l_run dc_l_run pm_l_run an_l_run cd_l_run ct_l_run), sl_l_run⟩) (fd_l_run : PySem.W.codeIn K cd_l_run "_law_run" = true) (fk_l_run : PySem.W.keepIn K (.ref f_l_run) = true)
    (fa_l_any_plan : PySem.W.nsIn K mainGlobals "_law_any_plan" = some (some (.ref f_l_any_plan))) (fl_l_any_plan : K.lookup f_l_any_plan = some ⟨oc_l_any_plan, od_l_any_plan, .func (PySem.W.fnOf "_law_any_plan" "_law_any_plan" (defArgs st_l_any_plan) (defBody st_l_any_plan) (defScope st_l_any_plan) .none kV_l_any_plan dc_l_any_plan pm_l_any_plan an_l_any_plan cd_l_any_plan ct_l_any_plan), sl_l_any_plan⟩) (fd_l_any_plan : PySem.W.codeIn K cd_l_any_plan "_law_any_plan" = true) (fk_l_any_plan : PySem.W.keepIn K (.ref f_l_any_plan) = true)
    (fa_table_of : PySem.W.nsIn K mainGlobals "table_of" = some (some (.ref f_table_of))) (fl_table_of : K.lookup f_table_of = some ⟨oc_table_of, od_table_of, .func (PySem.W.fnOf "table_of" "table_of" (defArgs st_table_of) (defBody st_table_of) (defScope st_table_of) .none kV_table_of dc_table_of pm_table_of an_table_of cd_table_of ct_table_of), sl_table_of⟩) (fd_table_of : PySem.W.codeIn K cd_table_of "table_of" = true) (fk_table_of : PySem.W.keepIn K (.ref f_table_of) = true)
    (fa_way_of : PySem.W.nsIn K mainGlobals "way_of" = some (some (.ref f_way_of))) (fl_way_of : K.lookup f_way_of = some ⟨oc_way_of, od_way_of, .func (PySem.W.fnOf "way_of" "way_of" (defArgs st_way_of) (defBody st_way_of) (defScope st_way_of) .none kV_way_of dc_way_of pm_way_of an_way_of cd_way_of ct_way_of), sl_way_of⟩) (fd_way_of : PySem.W.codeIn K cd_way_of "way_of" = true) (fk_way_of : PySem.W.keepIn K (.ref f_way_of) = true)
    (fa_comes_out : PySem.W.nsIn K mainGlobals "comes_out" = some (some (.ref f_comes_out))) (fl_comes_out : K.lookup f_comes_out = some ⟨oc_comes_out, od_comes_out, .func (PySem.W.fnOf "comes_out" "comes_out" (defArgs st_comes_out) (defBody st_comes_out) (defScope st_comes_out) .none kV_comes_out dc_comes_out pm_comes_out an_comes_out cd_comes_out ct_comes_out), sl_comes_out⟩) (fd_comes_out : PySem.W.codeIn K cd_comes_out "comes_out" = true) (fk_comes_out : PySem.W.keepIn K (.ref f_comes_out) = true)
    (fa_ticks_by : PySem.W.nsIn K mainGlobals "ticks_by" = some (some (.ref f_ticks_by))) (fl_ticks_by : K.lookup f_ticks_by = some ⟨oc_ticks_by, od_ticks_by, .func (PySem.W.fnOf "ticks_by" "ticks_by" (defArgs st_ticks_by) (defBody st_ticks_by) (defScope st_ticks_by) .none kV_ticks_by dc_ticks_by pm_ticks_by an_ticks_by cd_ticks_by ct_ticks_by), sl_ticks_by⟩) (fd_ticks_by : PySem.W.codeIn K cd_ticks_by "ticks_by" = true) (fk_ticks_by : PySem.W.keepIn K (.ref f_ticks_by) = true)
    (fa_plan_of : PySem.W.nsIn K mainGlobals "plan_of" = some (some (.ref f_plan_of))) (fl_plan_of : K.lookup f_plan_of = some ⟨oc_plan_of, od_plan_of, .func (PySem.W.fnOf "plan_of" "plan_of" (defArgs st_plan_of) (defBody st_plan_of) (defScope st_plan_of) .none kV_plan_of dc_plan_of pm_plan_of an_plan_of cd_plan_of ct_plan_of), sl_plan_of⟩) (fd_plan_of : PySem.W.codeIn K cd_plan_of "plan_of" = true) (fk_plan_of : PySem.W.keepIn K (.ref f_plan_of) = true)
    (fa_home_ticks : PySem.W.nsIn K mainGlobals "home_ticks" = some (some (.ref f_home_ticks))) (fl_home_ticks : K.lookup f_home_ticks = some ⟨oc_home_ticks, od_home_ticks, .func (PySem.W.fnOf "home_ticks" "home_ticks" (defArgs st_home_ticks) (defBody st_home_ticks) (defScope st_home_ticks) .none kV_home_ticks dc_home_ticks pm_home_ticks an_home_ticks cd_home_ticks ct_home_ticks), sl_home_ticks⟩) (fd_home_ticks : PySem.W.codeIn K cd_home_ticks "home_ticks" = true) (fk_home_ticks : PySem.W.keepIn K (.ref f_home_ticks) = true)
    (fa_is_order : PySem.W.nsIn K mainGlobals "is_order" = some (some (.ref f_is_order))) (fl_is_order : K.lookup f_is_order = some ⟨oc_is_order, od_is_order, .func (PySem.W.fnOf "is_order" "is_order" (defArgs st_is_order) (defBody st_is_order) (defScope st_is_order) .none kV_is_order dc_is_order pm_is_order an_is_order cd_is_order ct_is_order), sl_is_order⟩) (fd_is_order : PySem.W.codeIn K cd_is_order "is_order" = true) (fk_is_order : PySem.W.keepIn K (.ref f_is_order) = true)
    (fa_is_crossing : PySem.W.nsIn K mainGlobals "is_crossing" = some (some (.ref f_is_crossing))) (fl_is_crossing : K.lookup f_is_crossing = some ⟨oc_is_crossing, od_is_crossing, .func (PySem.W.fnOf "is_crossing" "is_crossing" (defArgs st_is_crossing) (defBody st_is_crossing) (defScope st_is_crossing) .none kV_is_crossing dc_is_crossing pm_is_crossing an_is_crossing cd_is_crossing ct_is_crossing), sl_is_crossing⟩) (fd_is_crossing : PySem.W.codeIn K cd_is_crossing "is_crossing" = true) (fk_is_crossing : PySem.W.keepIn K (.ref f_is_crossing) = true)
    (fa_is_name : PySem.W.nsIn K mainGlobals "is_name" = some (some (.ref f_is_name))) (fl_is_name : K.lookup f_is_name = some ⟨oc_is_name, od_is_name, .func (PySem.W.fnOf "is_name" "is_name" (defArgs st_is_name) (defBody st_is_name) (defScope st_is_name) .none kV_is_name dc_is_name pm_is_name an_is_name cd_is_name ct_is_name), sl_is_name⟩) (fd_is_name : PySem.W.codeIn K cd_is_name "is_name" = true) (fk_is_name : PySem.W.keepIn K (.ref f_is_name) = true)
    (fa_is_whole : PySem.W.nsIn K mainGlobals "is_whole" = some (some (.ref f_is_whole))) (fl_is_whole : K.lookup f_is_whole = some ⟨oc_is_whole, od_is_whole, .func (PySem.W.fnOf "is_whole" "is_whole" (defArgs st_is_whole) (defBody st_is_whole) (defScope st_is_whole) .none kV_is_whole dc_is_whole pm_is_whole an_is_whole cd_is_whole ct_is_whole), sl_is_whole⟩) (fd_is_whole : PySem.W.codeIn K cd_is_whole "is_whole" = true) (fk_is_whole : PySem.W.keepIn K (.ref f_is_whole) = true)
    (fa_is_one : PySem.W.nsIn K mainGlobals "is_one" = some (some (.ref f_is_one))) (fl_is_one : K.lookup f_is_one = some ⟨oc_is_one, od_is_one, .func (PySem.W.fnOf "is_one" "is_one" (defArgs st_is_one) (defBody st_is_one) (defScope st_is_one) .none kV_is_one dc_is_one pm_is_one an_is_one cd_is_one ct_is_one), sl_is_one⟩) (fd_is_one : PySem.W.codeIn K cd_is_one "is_one" = true) (fk_is_one : PySem.W.keepIn K (.ref f_is_one) = true)
    (fa_are_folk_of : PySem.W.nsIn K mainGlobals "are_folk_of" = some (some (.ref f_are_folk_of))) (fl_are_folk_of : K.lookup f_are_folk_of = some ⟨oc_are_folk_of, od_are_folk_of, .func (PySem.W.fnOf "are_folk_of" "are_folk_of" (defArgs st_are_folk_of) (defBody st_are_folk_of) (defScope st_are_folk_of) .none kV_are_folk_of dc_are_folk_of pm_are_folk_of an_are_folk_of cd_are_folk_of ct_are_folk_of), sl_are_folk_of⟩) (fd_are_folk_of : PySem.W.codeIn K cd_are_folk_of "are_folk_of" = true) (fk_are_folk_of : PySem.W.keepIn K (.ref f_are_folk_of) = true)
    (fa_is_lane : PySem.W.nsIn K mainGlobals "is_lane" = some (some (.ref f_is_lane))) (fl_is_lane : K.lookup f_is_lane = some ⟨oc_is_lane, od_is_lane, .func (PySem.W.fnOf "is_lane" "is_lane" (defArgs st_is_lane) (defBody st_is_lane) (defScope st_is_lane) .none kV_is_lane dc_is_lane pm_is_lane an_is_lane cd_is_lane ct_is_lane), sl_is_lane⟩) (fd_is_lane : PySem.W.codeIn K cd_is_lane "is_lane" = true) (fk_is_lane : PySem.W.keepIn K (.ref f_is_lane) = true)
    (fa_are_lanes : PySem.W.nsIn K mainGlobals "are_lanes" = some (some (.ref f_are_lanes))) (fl_are_lanes : K.lookup f_are_lanes = some ⟨oc_are_lanes, od_are_lanes, .func (PySem.W.fnOf "are_lanes" "are_lanes" (defArgs st_are_lanes) (defBody st_are_lanes) (defScope st_are_lanes) .none kV_are_lanes dc_are_lanes pm_are_lanes an_are_lanes cd_are_lanes ct_are_lanes), sl_are_lanes⟩) (fd_are_lanes : PySem.W.codeIn K cd_are_lanes "are_lanes" = true) (fk_are_lanes : PySem.W.keepIn K (.ref f_are_lanes) = true)
    (fa_need_lanes : PySem.W.nsIn K mainGlobals "need_lanes" = some (some (.ref f_need_lanes))) (fl_need_lanes : K.lookup f_need_lanes = some ⟨oc_need_lanes, od_need_lanes, .func (PySem.W.fnOf "need_lanes" "need_lanes" (defArgs st_need_lanes) (defBody st_need_lanes) (defScope st_need_lanes) .none kV_need_lanes dc_need_lanes pm_need_lanes an_need_lanes cd_need_lanes ct_need_lanes), sl_need_lanes⟩) (fd_need_lanes : PySem.W.codeIn K cd_need_lanes "need_lanes" = true) (fk_need_lanes : PySem.W.keepIn K (.ref f_need_lanes) = true)
    (fa_need_folk : PySem.W.nsIn K mainGlobals "need_folk" = some (some (.ref f_need_folk))) (fl_need_folk : K.lookup f_need_folk = some ⟨oc_need_folk, od_need_folk, .func (PySem.W.fnOf "need_folk" "need_folk" (defArgs st_need_folk) (defBody st_need_folk) (defScope st_need_folk) .none kV_need_folk dc_need_folk pm_need_folk an_need_folk cd_need_folk ct_need_folk), sl_need_folk⟩) (fd_need_folk : PySem.W.codeIn K cd_need_folk "need_folk" = true) (fk_need_folk : PySem.W.keepIn K (.ref f_need_folk) = true)
    (fa_need_order : PySem.W.nsIn K mainGlobals "need_order" = some (some (.ref f_need_order))) (fl_need_order : K.lookup f_need_order = some ⟨oc_need_order, od_need_order, .func (PySem.W.fnOf "need_order" "need_order" (defArgs st_need_order) (defBody st_need_order) (defScope st_need_order) .none kV_need_order dc_need_order pm_need_order an_need_order cd_need_order ct_need_order), sl_need_order⟩) (fd_need_order : PySem.W.codeIn K cd_need_order "need_order" = true) (fk_need_order : PySem.W.keepIn K (.ref f_need_order) = true)
    (fa_home_order : PySem.W.nsIn K mainGlobals "home_order" = some (some (.ref f_home_order))) (fl_home_order : K.lookup f_home_order = some ⟨oc_home_order, od_home_order, .func (PySem.W.fnOf "home_order" "home_order" (defArgs st_home_order) (defBody st_home_order) (defScope st_home_order) .none kV_home_order dc_home_order pm_home_order an_home_order cd_home_order ct_home_order), sl_home_order⟩) (fd_home_order : PySem.W.codeIn K cd_home_order "home_order" = true) (fk_home_order : PySem.W.keepIn K (.ref f_home_order) = true)
    (fa_plan_by : PySem.W.nsIn K mainGlobals "plan_by" = some (some (.ref f_plan_by))) (fl_plan_by : K.lookup f_plan_by = some ⟨oc_plan_by, od_plan_by, .func (PySem.W.fnOf "plan_by" "plan_by" (defArgs st_plan_by) (defBody st_plan_by) (defScope st_plan_by) .none kV_plan_by dc_plan_by pm_plan_by an_plan_by cd_plan_by ct_plan_by), sl_plan_by⟩) (fd_plan_by : PySem.W.codeIn K cd_plan_by "plan_by" = true) (fk_plan_by : PySem.W.keepIn K (.ref f_plan_by) = true)
    (fa_l_asked31 : PySem.W.nsIn K mainGlobals "_law_asked" = some (some (.ref f_l_asked31))) (fl_l_asked31 : K.lookup f_l_asked31 = some ⟨oc_l_asked31, od_l_asked31, .func (PySem.W.fnOf "_law_asked" "_law_asked" (defArgs st_l_asked31) (defBody st_l_asked31) (defScope st_l_asked31) .none kV_l_asked31 dc_l_asked31 pm_l_asked31 an_l_asked31 cd_l_asked31 ct_l_asked31), sl_l_asked31⟩) (fd_l_asked31 : PySem.W.codeIn K cd_l_asked31 "_law_asked" = true) (fk_l_asked31 : PySem.W.keepIn K (.ref f_l_asked31) = true)
    (fa_l_folk : PySem.W.nsIn K mainGlobals "_law_folk" = some (some (.ref f_l_folk))) (fl_l_folk : K.lookup f_l_folk = some ⟨oc_l_folk, od_l_folk, .func (PySem.W.fnOf "_law_folk" "_law_folk" (defArgs st_l_folk) (defBody st_l_folk) (defScope st_l_folk) .none kV_l_folk dc_l_folk pm_l_folk an_l_folk cd_l_folk ct_l_folk), sl_l_folk⟩) (fd_l_folk : PySem.W.codeIn K cd_l_folk "_law_folk" = true) (fk_l_folk : PySem.W.keepIn K (.ref f_l_folk) = true)
    (fa_l_way : PySem.W.nsIn K mainGlobals "_law_way" = some (some (.ref f_l_way))) (fl_l_way : K.lookup f_l_way = some ⟨oc_l_way, od_l_way, .func (PySem.W.fnOf "_law_way" "_law_way" (defArgs st_l_way) (defBody st_l_way) (defScope st_l_way) .none kV_l_way dc_l_way pm_l_way an_l_way cd_l_way ct_l_way), sl_l_way⟩) (fd_l_way : PySem.W.codeIn K cd_l_way "_law_way" = true) (fk_l_way : PySem.W.keepIn K (.ref f_l_way) = true)
    (fa_l_homes : PySem.W.nsIn K mainGlobals "_law_homes" = some (some (.ref f_l_homes))) (fl_l_homes : K.lookup f_l_homes = some ⟨oc_l_homes, od_l_homes, .func (PySem.W.fnOf "_law_homes" "_law_homes" (defArgs st_l_homes) (defBody st_l_homes) (defScope st_l_homes) .none kV_l_homes dc_l_homes pm_l_homes an_l_homes cd_l_homes ct_l_homes), sl_l_homes⟩) (fd_l_homes : PySem.W.codeIn K cd_l_homes "_law_homes" = true) (fk_l_homes : PySem.W.keepIn K (.ref f_l_homes) = true)
    (fa_l_lanes : PySem.W.nsIn K mainGlobals "_law_lanes" = some (some (.ref f_l_lanes))) (fl_l_lanes : K.lookup f_l_lanes = some ⟨oc_l_lanes, od_l_lanes, .func (PySem.W.fnOf "_law_lanes" "_law_lanes" (defArgs st_l_lanes) (defBody st_l_lanes) (defScope st_l_lanes) .none kV_l_lanes dc_l_lanes pm_l_lanes an_l_lanes cd_l_lanes ct_l_lanes), sl_l_lanes⟩) (fd_l_lanes : PySem.W.codeIn K cd_l_lanes "_law_lanes" = true) (fk_l_lanes : PySem.W.keepIn K (.ref f_l_lanes) = true)
    (fa_l_well : PySem.W.nsIn K mainGlobals "_law_well" = some (some (.ref f_l_well))) (fl_l_well : K.lookup f_l_well = some ⟨oc_l_well, od_l_well, .func (PySem.W.fnOf "_law_well" "_law_well" (defArgs st_l_well) (defBody st_l_well) (defScope st_l_well) .none kV_l_well dc_l_well pm_l_well an_l_well cd_l_well ct_l_well), sl_l_well⟩) (fd_l_well : PySem.W.codeIn K cd_l_well "_law_well" = true) (fk_l_well : PySem.W.keepIn K (.ref f_l_well) = true)
    (fa_is_plan_of : PySem.W.nsIn K mainGlobals "is_plan_of" = some (some (.ref f_is_plan_of))) (fl_is_plan_of : K.lookup f_is_plan_of = some ⟨oc_is_plan_of, od_is_plan_of, .func (PySem.W.fnOf "is_plan_of" "is_plan_of" (defArgs st_is_plan_of) (defBody st_is_plan_of) (defScope st_is_plan_of) .none kV_is_plan_of dc_is_plan_of pm_is_plan_of an_is_plan_of cd_is_plan_of ct_is_plan_of), sl_is_plan_of⟩) (fd_is_plan_of : PySem.W.codeIn K cd_is_plan_of "is_plan_of" = true) (fk_is_plan_of : PySem.W.keepIn K (.ref f_is_plan_of) = true)
    (fa_is_plan : PySem.W.nsIn K mainGlobals "is_plan" = some (some (.ref f_is_plan))) (fl_is_plan : K.lookup f_is_plan = some ⟨oc_is_plan, od_is_plan, .func (PySem.W.fnOf "is_plan" "is_plan" (defArgs st_is_plan) (defBody st_is_plan) (defScope st_is_plan) .none kV_is_plan dc_is_plan pm_is_plan an_is_plan cd_is_plan ct_is_plan), sl_is_plan⟩) (fd_is_plan : PySem.W.codeIn K cd_is_plan "is_plan" = true) (fk_is_plan : PySem.W.keepIn K (.ref f_is_plan) = true)
    (fa_law_k31 : PySem.W.nsIn K mainGlobals "law" = some (some (.ref f_law_k31))) (fl_law_k31 : K.lookup f_law_k31 = some ⟨oc_law_k31, od_law_k31, .func (PySem.W.fnOf "law" "law" (defArgs st_law_k31) (defBody st_law_k31) (defScope st_law_k31) .none kV_law_k31 dc_law_k31 pm_law_k31 an_law_k31 cd_law_k31 ct_law_k31), sl_law_k31⟩) (fd_law_k31 : PySem.W.codeIn K cd_law_k31 "law" = true) (fk_law_k31 : PySem.W.keepIn K (.ref f_law_k31) = true)
    (fa_l_kinds : PySem.W.nsIn K mainGlobals "_law_kinds" = some (some (.ref f_l_kinds))) (fl_l_kinds : K.lookup f_l_kinds = some ⟨oc_l_kinds, od_l_kinds, .func (PySem.W.fnOf "_law_kinds" "_law_kinds" (defArgs st_l_kinds) (defBody st_l_kinds) (defScope st_l_kinds) .none kV_l_kinds dc_l_kinds pm_l_kinds an_l_kinds cd_l_kinds ct_l_kinds), sl_l_kinds⟩) (fd_l_kinds : PySem.W.codeIn K cd_l_kinds "_law_kinds" = true) (fk_l_kinds : PySem.W.keepIn K (.ref f_l_kinds) = true)
    (fa_l_refusal : PySem.W.nsIn K mainGlobals "_law_refusal" = some (some (.ref f_l_refusal))) (fl_l_refusal : K.lookup f_l_refusal = some ⟨oc_l_refusal, od_l_refusal, .func (PySem.W.fnOf "_law_refusal" "_law_refusal" (defArgs st_l_refusal) (defBody st_l_refusal) (defScope st_l_refusal) .none kV_l_refusal dc_l_refusal pm_l_refusal an_l_refusal cd_l_refusal ct_l_refusal), sl_l_refusal⟩) (fd_l_refusal : PySem.W.codeIn K cd_l_refusal "_law_refusal" = true) (fk_l_refusal : PySem.W.keepIn K (.ref f_l_refusal) = true) :
    ∃ fd : FuncData, (∀ (s : Shared) (v : Value), BindsTo s fd ⟨[v], []⟩ [("script", v)]) ∧ ∀ base : Heap, K.In base → base.Ns mainGlobals mg → FnOk l.prog w K mg base (L2N.CX l.prog w) 9 fa fd ["script"] (spLw K) := by
  have B : BF mg := ⟨PySem.W.mg_none_of XX G fb_all, PySem.W.mg_none_of XX G fb_any, PySem.W.mg_none_of XX G fb_bool, PySem.W.mg_none_of XX G fb_dict, PySem.W.mg_none_of XX G fb_int, PySem.W.mg_none_of XX G fb_isinstance, PySem.W.mg_none_of XX G fb_len, PySem.W.mg_none_of XX G fb_list, PySem.W.mg_none_of XX G fb_max, PySem.W.mg_none_of XX G fb_min, PySem.W.mg_none_of XX G fb_range, PySem.W.mg_none_of XX G fb_set, PySem.W.mg_none_of XX G fb_sorted, PySem.W.mg_none_of XX G fb_str, PySem.W.mg_none_of XX G fb_tuple, PySem.W.mg_none_of XX G fb_zip⟩
  have C : CF mg := ⟨⟨_, PySem.W.mg_of XX G fc_HOME, ⟨_, rfl⟩⟩, ⟨_, PySem.W.mg_of XX G fc_LETTERS, ⟨_, rfl⟩⟩, ⟨_, PySem.W.mg_of XX G fc_MOST_FOLK, ⟨_, rfl⟩⟩, ⟨_, PySem.W.mg_of XX G fc_MOST_LANES, ⟨_, rfl⟩⟩, ⟨_, PySem.W.mg_of XX G fc_MOST_LONG, ⟨_, rfl⟩⟩, ⟨_, PySem.W.mg_of XX G fc_MOST_TICK, ⟨_, rfl⟩⟩, ⟨_, PySem.W.mg_of XX G fc_MOST_WIDE, ⟨_, rfl⟩⟩⟩
  let xa : Str → Addr := fun n => (([("NoLanes", xC_NoLanes), ("NoFolk", xC_NoFolk), ("NoCrowd", xC_NoCrowd), ("NoOrder", xC_NoOrder), ("NoWishes", xC_NoWishes), ("NoWorths", xC_NoWorths), ("NoPlan", xC_NoPlan), ("NoCrossing", xC_NoCrossing), ("NoTick", xC_NoTick), ("NoName", xC_NoName), ("NoRank", xC_NoRank), ("NoTicks", xC_NoTicks), ("Taken", xC_Taken), ("NotThere", xC_NotThere), ("LaneError", xC_LaneError)] : List (Str × Addr)).lookup n).getD 0
  have ex_NoLanes : xa "NoLanes" = xC_NoLanes := by rfl
  have ex_NoFolk : xa "NoFolk" = xC_NoFolk := by rfl
  have ex_NoCrowd : xa "NoCrowd" = xC_NoCrowd := by rfl
  have ex_NoOrder : xa "NoOrder" = xC_NoOrder := by rfl
  have ex_NoWishes : xa "NoWishes" = xC_NoWishes := by rfl
  have ex_NoWorths : xa "NoWorths" = xC_NoWorths := by rfl
  have ex_NoPlan : xa "NoPlan" = xC_NoPlan := by rfl
  have ex_NoCrossing : xa "NoCrossing" = xC_NoCrossing := by rfl
  have ex_NoTick : xa "NoTick" = xC_NoTick := by rfl
  have ex_NoName : xa "NoName" = xC_NoName := by rfl
  have ex_NoRank : xa "NoRank" = xC_NoRank := by rfl
  have ex_NoTicks : xa "NoTicks" = xC_NoTicks := by rfl
  have ex_Taken : xa "Taken" = xC_Taken := by rfl
  have ex_NotThere : xa "NotThere" = xC_NotThere := by rfl
  have ex_LaneError : xa "LaneError" = xC_LaneError := by rfl
  have XF : XFs K mg xa := ⟨by rw [ex_NoFolk]; exact ⟨fxq_NoFolk, PySem.W.mg_of XX G fxg_NoFolk, fxk_NoFolk, fxb_NoFolk, fxt_NoFolk⟩, by rw [ex_NoLanes]; exact ⟨fxq_NoLanes, PySem.W.mg_of XX G fxg_NoLanes, fxk_NoLanes, fxb_NoLanes, fxt_NoLanes⟩, by rw [ex_NoOrder]; exact ⟨fxq_NoOrder, PySem.W.mg_of XX G fxg_NoOrder, fxk_NoOrder, fxb_NoOrder, fxt_NoOrder⟩⟩
  have a_l_take : DefAt K mg "_law_take" st_l_take ["well", "many"] := defAt_mk XX G (fun _ _ _ _ _ _ us hl => match us, hl with | [_, _], _ => rfl) fa_l_take fl_l_take fd_l_take fk_l_take
  have a_l_drawn_order : DefAt K mg "_law_drawn_order" st_l_drawn_order ["well", "folk"] := defAt_mk XX G (fun _ _ _ _ _ _ us hl => match us, hl with | [_, _], _ => rfl) fa_l_drawn_order fl_l_drawn_order fd_l_drawn_order fk_l_drawn_order
  have a_l_lane : DefAt K mg "_law_lane" st_l_lane ["lanes", "crossing"] := defAt_mk XX G (fun _ _ _ _ _ _ us hl => match us, hl with | [_, _], _ => rfl) fa_l_lane fl_l_lane fd_l_lane fk_l_lane
  have a_l_run : DefAt K mg "_law_run" st_l_run ["lanes", "folk", "orders", "holds"] := defAt_mk XX G (fun _ _ _ _ _ _ us hl => match us, hl with | [_, _, _, _], _ => rfl) fa_l_run fl_l_run fd_l_run fk_l_run
  have a_l_any_plan : DefAt K mg "_law_any_plan" st_l_any_plan ["well", "lanes", "folk"] := defAt_mk XX G (fun _ _ _ _ _ _ us hl => match us, hl with | [_, _, _], _ => rfl) fa_l_any_plan fl_l_any_plan fd_l_any_plan fk_l_any_plan
  have a_table_of : DefAt K mg "table_of" st_table_of ["lanes"] := defAt_mk XX G (fun _ _ _ _ _ _ us hl => match us, hl with | [_], _ => rfl) fa_table_of fl_table_of fd_table_of fk_table_of
  have a_way_of : DefAt K mg "way_of" st_way_of ["lanes", "crossing"] := defAt_mk XX G (fun _ _ _ _ _ _ us hl => match us, hl with | [_, _], _ => rfl) fa_way_of fl_way_of fd_way_of fk_way_of
  have a_comes_out : DefAt K mg "comes_out" st_comes_out ["lanes", "one", "ticks"] := defAt_mk XX G (fun _ _ _ _ _ _ us hl => match us, hl with | [_, _, _], _ => rfl) fa_comes_out fl_comes_out fd_comes_out fk_comes_out
  have a_ticks_by : DefAt K mg "ticks_by" st_ticks_by ["lanes", "folk", "order"] := defAt_mk XX G (fun _ _ _ _ _ _ us hl => match us, hl with | [_, _, _], _ => rfl) fa_ticks_by fl_ticks_by fd_ticks_by fk_ticks_by
  have a_plan_of : DefAt K mg "plan_of" st_plan_of ["lanes", "folk", "order"] := defAt_mk XX G (fun _ _ _ _ _ _ us hl => match us, hl with | [_, _, _], _ => rfl) fa_plan_of fl_plan_of fd_plan_of fk_plan_of
  have a_home_ticks : DefAt K mg "home_ticks" st_home_ticks ["lanes", "folk", "order"] := defAt_mk XX G (fun _ _ _ _ _ _ us hl => match us, hl with | [_, _, _], _ => rfl) fa_home_ticks fl_home_ticks fd_home_ticks fk_home_ticks
  have a_is_order : DefAt K mg "is_order" st_is_order ["folk", "thing"] := defAt_mk XX G (fun _ _ _ _ _ _ us hl => match us, hl with | [_, _], _ => rfl) fa_is_order fl_is_order fd_is_order fk_is_order
  have a_is_crossing : DefAt K mg "is_crossing" st_is_crossing ["lanes", "thing"] := defAt_mk XX G (fun _ _ _ _ _ _ us hl => match us, hl with | [_, _], _ => rfl) fa_is_crossing fl_is_crossing fd_is_crossing fk_is_crossing
  have a_is_name : DefAt K mg "is_name" st_is_name ["thing"] := defAt_mk XX G (fun _ _ _ _ _ _ us hl => match us, hl with | [_], _ => rfl) fa_is_name fl_is_name fd_is_name fk_is_name
  have a_is_whole : DefAt K mg "is_whole" st_is_whole ["thing", "low", "high"] := defAt_mk XX G (fun _ _ _ _ _ _ us hl => match us, hl with | [_, _, _], _ => rfl) fa_is_whole fl_is_whole fd_is_whole fk_is_whole
  have a_is_one : DefAt K mg "is_one" st_is_one ["lanes", "thing"] := defAt_mk XX G (fun _ _ _ _ _ _ us hl => match us, hl with | [_, _], _ => rfl) fa_is_one fl_is_one fd_is_one fk_is_one
  have a_are_folk_of : DefAt K mg "are_folk_of" st_are_folk_of ["lanes", "thing"] := defAt_mk XX G (fun _ _ _ _ _ _ us hl => match us, hl with | [_, _], _ => rfl) fa_are_folk_of fl_are_folk_of fd_are_folk_of fk_are_folk_of
  have a_is_lane : DefAt K mg "is_lane" st_is_lane ["thing"] := defAt_mk XX G (fun _ _ _ _ _ _ us hl => match us, hl with | [_], _ => rfl) fa_is_lane fl_is_lane fd_is_lane fk_is_lane
  have a_are_lanes : DefAt K mg "are_lanes" st_are_lanes ["thing"] := defAt_mk XX G (fun _ _ _ _ _ _ us hl => match us, hl with | [_], _ => rfl) fa_are_lanes fl_are_lanes fd_are_lanes fk_are_lanes
  have a_need_lanes : DefAt K mg "need_lanes" st_need_lanes ["lanes"] := defAt_mk XX G (fun _ _ _ _ _ _ us hl => match us, hl with | [_], _ => rfl) fa_need_lanes fl_need_lanes fd_need_lanes fk_need_lanes
  have a_need_folk : DefAt K mg "need_folk" st_need_folk ["lanes", "folk"] := defAt_mk XX G (fun _ _ _ _ _ _ us hl => match us, hl with | [_, _], _ => rfl) fa_need_folk fl_need_folk fd_need_folk fk_need_folk
  have a_need_order : DefAt K mg "need_order" st_need_order ["lanes", "folk", "order"] := defAt_mk XX G (fun _ _ _ _ _ _ us hl => match us, hl with | [_, _, _], _ => rfl) fa_need_order fl_need_order fd_need_order fk_need_order
  have a_home_order : DefAt K mg "home_order" st_home_order ["lanes", "folk", "order"] := defAt_mk XX G (fun _ _ _ _ _ _ us hl => match us, hl with | [_, _, _], _ => rfl) fa_home_order fl_home_order fd_home_order fk_home_order
  have a_plan_by : DefAt K mg "plan_by" st_plan_by ["lanes", "folk", "order"] := defAt_mk XX G (fun _ _ _ _ _ _ us hl => match us, hl with | [_, _, _], _ => rfl) fa_plan_by fl_plan_by fd_plan_by fk_plan_by
  have a_l_asked31 : DefAt K mg "_law_asked" st_l_asked31 ["way", "lanes", "folk", "order"] := defAt_mk XX G (fun _ _ _ _ _ _ us hl => match us, hl with | [_, _, _, _], _ => rfl) fa_l_asked31 fl_l_asked31 fd_l_asked31 fk_l_asked31
  have a_l_folk : DefAt K mg "_law_folk" st_l_folk ["well", "lanes", "top"] := defAt_mk XX G (fun _ _ _ _ _ _ us hl => match us, hl with | [_, _, _], _ => rfl) fa_l_folk fl_l_folk fd_l_folk fk_l_folk
  have a_l_way : DefAt K mg "_law_way" st_l_way ["lanes", "crossing"] := defAt_mk XX G (fun _ _ _ _ _ _ us hl => match us, hl with | [_, _], _ => rfl) fa_l_way fl_l_way fd_l_way fk_l_way
  have a_l_homes : DefAt K mg "_law_homes" st_l_homes ["lanes", "folk", "plan"] := defAt_mk XX G (fun _ _ _ _ _ _ us hl => match us, hl with | [_, _, _], _ => rfl) fa_l_homes fl_l_homes fd_l_homes fk_l_homes
  have a_l_lanes : DefAt K mg "_law_lanes" st_l_lanes ["well", "top"] := defAt_mk XX G (fun _ _ _ _ _ _ us hl => match us, hl with | [_, _], _ => rfl) fa_l_lanes fl_l_lanes fd_l_lanes fk_l_lanes
  have a_l_well : DefAt K mg "_law_well" st_l_well ["script", "k"] := defAt_mk XX G (fun _ _ _ _ _ _ us hl => match us, hl with | [_, _], _ => rfl) fa_l_well fl_l_well fd_l_well fk_l_well
  have a_is_plan_of : DefAt K mg "is_plan_of" st_is_plan_of ["lanes", "folk", "thing"] := defAt_mk XX G (fun _ _ _ _ _ _ us hl => match us, hl with | [_, _, _], _ => rfl) fa_is_plan_of fl_is_plan_of fd_is_plan_of fk_is_plan_of
  have a_is_plan : DefAt K mg "is_plan" st_is_plan ["lanes", "folk", "thing"] := defAt_mk XX G (fun _ _ _ _ _ _ us hl => match us, hl with | [_, _, _], _ => rfl) fa_is_plan fl_is_plan fd_is_plan fk_is_plan
  have a_law_k31 : DefAt K mg "law" st_law_k31 ["script"] := defAt_mk XX G (fun _ _ _ _ _ _ us hl => match us, hl with | [_], _ => rfl) fa_law_k31 fl_law_k31 fd_law_k31 fk_law_k31
  have a_l_kinds : DefAt K mg "_law_kinds" st_l_kinds ["e"] := defAt_mk XX G (fun _ _ _ _ _ _ us hl => match us, hl with | [_], _ => rfl) fa_l_kinds fl_l_kinds fd_l_kinds fk_l_kinds
  have a_l_refusal : DefAt K mg "_law_refusal" st_l_refusal ["e"] := defAt_mk XX G (fun _ _ _ _ _ _ us hl => match us, hl with | [_], _ => rfl) fa_l_refusal fl_l_refusal fd_l_refusal fk_l_refusal
  have e := hfa.symm.trans (PySem.W.mg_of XX G fa_law_k31)
  cases e
  refine ⟨PySem.W.fnOf "law" "law" (defArgs st_law_k31) (defBody st_law_k31) (defScope st_law_k31) .none kV_law_k31 dc_law_k31 pm_law_k31 an_law_k31 cd_law_k31 ct_law_k31, fun s v => .of_eq rfl, fun base _ _ => ?_⟩
  have en_NoLanes : xa (nameI 0) = xC_NoLanes := by rfl
  have en_NoFolk : xa (nameI 1) = xC_NoFolk := by rfl
  have en_NoCrowd : xa (nameI 2) = xC_NoCrowd := by rfl
  have en_NoOrder : xa (nameI 3) = xC_NoOrder := by rfl
  have en_NoWishes : xa (nameI 4) = xC_NoWishes := by rfl
  have en_NoWorths : xa (nameI 5) = xC_NoWorths := by rfl
  have en_NoPlan : xa (nameI 6) = xC_NoPlan := by rfl
  have en_NoCrossing : xa (nameI 7) = xC_NoCrossing := by rfl
  have en_NoTick : xa (nameI 8) = xC_NoTick := by rfl
  have en_NoName : xa (nameI 9) = xC_NoName := by rfl
  have en_NoRank : xa (nameI 10) = xC_NoRank := by rfl
  have en_NoTicks : xa (nameI 11) = xC_NoTicks := by rfl
  have en_Taken : xa (nameI 12) = xC_Taken := by rfl
  have en_NotThere : xa (nameI 13) = xC_NotThere := by rfl
  have KG : KdG mg xa := ⟨(List.forall_mem_cons.mpr ⟨(by rw [ex_NoLanes]; exact PySem.W.mg_of XX G fxg_NoLanes), (List.forall_mem_cons.mpr ⟨(by rw [ex_NoFolk]; exact PySem.W.mg_of XX G fxg_NoFolk), (List.forall_mem_cons.mpr ⟨(by rw [ex_NoCrowd]; exact PySem.W.mg_of XX G fxg_NoCrowd), (List.forall_mem_cons.mpr ⟨(by rw [ex_NoOrder]; exact PySem.W.mg_of XX G fxg_NoOrder), (List.forall_mem_cons.mpr ⟨(by rw [ex_NoWishes]; exact PySem.W.mg_of XX G fxg_NoWishes), (List.forall_mem_cons.mpr ⟨(by rw [ex_NoWorths]; exact PySem.W.mg_of XX G fxg_NoWorths), (List.forall_mem_cons.mpr ⟨(by rw [ex_NoPlan]; exact PySem.W.mg_of XX G fxg_NoPlan), (List.forall_mem_cons.mpr ⟨(by rw [ex_NoCrossing]; exact PySem.W.mg_of XX G fxg_NoCrossing), (List.forall_mem_cons.mpr ⟨(by rw [ex_NoTick]; exact PySem.W.mg_of XX G fxg_NoTick), (List.forall_mem_cons.mpr ⟨(by rw [ex_NoName]; exact PySem.W.mg_of XX G fxg_NoName), (List.forall_mem_cons.mpr ⟨(by rw [ex_NoRank]; exact PySem.W.mg_of XX G fxg_NoRank), (List.forall_mem_cons.mpr ⟨(by rw [ex_NoTicks]; exact PySem.W.mg_of XX G fxg_NoTicks), (List.forall_mem_cons.mpr ⟨(by rw [ex_Taken]; exact PySem.W.mg_of XX G fxg_Taken), (List.forall_mem_cons.mpr ⟨(by rw [ex_NotThere]; exact PySem.W.mg_of XX G fxg_NotThere), (List.forall_mem_cons.mpr ⟨(by rw [ex_LaneError]; exact PySem.W.mg_of XX G fxg_LaneError), (fun _ h => absurd h (by simp))⟩)⟩)⟩)⟩)⟩)⟩)⟩)⟩)⟩)⟩)⟩)⟩)⟩)⟩)⟩), PySem.W.mg_none_of XX G fbv⟩
  have KE : mg "LaneError" = some (.ref (xa "LaneError")) := by rw [ex_LaneError]; exact PySem.W.mg_of XX G fxg_LaneError
  have KI_NoLanes : KdI K xa 0 := ⟨by rw [en_NoLanes]; exact ⟨fea_NoLanes, feb_NoLanes, fxb_NoLanes, fxh_NoLanes, fec_NoLanes, fen, fet, fem_NoLanes⟩, (fun j hj => match j, hj with | 0, _ => by rw [en_NoLanes]; exact kit_of fxh_NoLanes fxt_NoLanes fs_NoLanes_NoLanes fs_NoLanes_NoLanes | 1, _ => by rw [en_NoLanes, en_NoFolk]; exact kit_of fxh_NoFolk fxt_NoFolk fs_NoLanes_NoFolk fs_NoLanes_NoLanes | 2, _ => by rw [en_NoLanes, en_NoCrowd]; exact kit_of fxh_NoCrowd fxt_NoCrowd fs_NoLanes_NoCrowd fs_NoLanes_NoLanes | 3, _ => by rw [en_NoLanes, en_NoOrder]; exact kit_of fxh_NoOrder fxt_NoOrder fs_NoLanes_NoOrder fs_NoLanes_NoLanes | 4, _ => by rw [en_NoLanes, en_NoWishes]; exact kit_of fxh_NoWishes fxt_NoWishes fs_NoLanes_NoWishes fs_NoLanes_NoLanes | 5, _ => by rw [en_NoLanes, en_NoWorths]; exact kit_of fxh_NoWorths fxt_NoWorths fs_NoLanes_NoWorths fs_NoLanes_NoLanes | 6, _ => by rw [en_NoLanes, en_NoPlan]; exact kit_of fxh_NoPlan fxt_NoPlan fs_NoLanes_NoPlan fs_NoLanes_NoLanes | 7, _ => by rw [en_NoLanes, en_NoCrossing]; exact kit_of fxh_NoCrossing fxt_NoCrossing fs_NoLanes_NoCrossing fs_NoLanes_NoLanes | 8, _ => by rw [en_NoLanes, en_NoTick]; exact kit_of fxh_NoTick fxt_NoTick fs_NoLanes_NoTick fs_NoLanes_NoLanes | 9, _ => by rw [en_NoLanes, en_NoName]; exact kit_of fxh_NoName fxt_NoName fs_NoLanes_NoName fs_NoLanes_NoLanes | 10, _ => by rw [en_NoLanes, en_NoRank]; exact kit_of fxh_NoRank fxt_NoRank fs_NoLanes_NoRank fs_NoLanes_NoLanes | 11, _ => by rw [en_NoLanes, en_NoTicks]; exact kit_of fxh_NoTicks fxt_NoTicks fs_NoLanes_NoTicks fs_NoLanes_NoLanes | 12, _ => by rw [en_NoLanes, en_Taken]; exact kit_of fxh_Taken fxt_Taken fs_NoLanes_Taken fs_NoLanes_NoLanes | 13, _ => by rw [en_NoLanes, en_NotThere]; exact kit_of fxh_NotThere fxt_NotThere fs_NoLanes_NotThere fs_NoLanes_NoLanes | n + 14, h => absurd h (by omega)), by rw [en_NoLanes, ex_LaneError]; exact kit_of fxh_LaneError fxt_LaneError fs_NoLanes_LaneError fs_NoLanes_NoLanes, by rw [en_NoLanes]; exact kit_ve fsv_NoLanes, by decide⟩
  have KI_NoFolk : KdI K xa 1 := ⟨by rw [en_NoFolk]; exact ⟨fea_NoFolk, feb_NoFolk, fxb_NoFolk, fxh_NoFolk, fec_NoFolk, fen, fet, fem_NoFolk⟩, (fun j hj => match j, hj with | 0, _ => by rw [en_NoFolk, en_NoLanes]; exact kit_of fxh_NoLanes fxt_NoLanes fs_NoFolk_NoLanes fs_NoFolk_NoFolk | 1, _ => by rw [en_NoFolk]; exact kit_of fxh_NoFolk fxt_NoFolk fs_NoFolk_NoFolk fs_NoFolk_NoFolk | 2, _ => by rw [en_NoFolk, en_NoCrowd]; exact kit_of fxh_NoCrowd fxt_NoCrowd fs_NoFolk_NoCrowd fs_NoFolk_NoFolk | 3, _ => by rw [en_NoFolk, en_NoOrder]; exact kit_of fxh_NoOrder fxt_NoOrder fs_NoFolk_NoOrder fs_NoFolk_NoFolk | 4, _ => by rw [en_NoFolk, en_NoWishes]; exact kit_of fxh_NoWishes fxt_NoWishes fs_NoFolk_NoWishes fs_NoFolk_NoFolk | 5, _ => by rw [en_NoFolk, en_NoWorths]; exact kit_of fxh_NoWorths fxt_NoWorths fs_NoFolk_NoWorths fs_NoFolk_NoFolk | 6, _ => by rw [en_NoFolk, en_NoPlan]; exact kit_of fxh_NoPlan fxt_NoPlan fs_NoFolk_NoPlan fs_NoFolk_NoFolk | 7, _ => by rw [en_NoFolk, en_NoCrossing]; exact kit_of fxh_NoCrossing fxt_NoCrossing fs_NoFolk_NoCrossing fs_NoFolk_NoFolk | 8, _ => by rw [en_NoFolk, en_NoTick]; exact kit_of fxh_NoTick fxt_NoTick fs_NoFolk_NoTick fs_NoFolk_NoFolk | 9, _ => by rw [en_NoFolk, en_NoName]; exact kit_of fxh_NoName fxt_NoName fs_NoFolk_NoName fs_NoFolk_NoFolk | 10, _ => by rw [en_NoFolk, en_NoRank]; exact kit_of fxh_NoRank fxt_NoRank fs_NoFolk_NoRank fs_NoFolk_NoFolk | 11, _ => by rw [en_NoFolk, en_NoTicks]; exact kit_of fxh_NoTicks fxt_NoTicks fs_NoFolk_NoTicks fs_NoFolk_NoFolk | 12, _ => by rw [en_NoFolk, en_Taken]; exact kit_of fxh_Taken fxt_Taken fs_NoFolk_Taken fs_NoFolk_NoFolk | 13, _ => by rw [en_NoFolk, en_NotThere]; exact kit_of fxh_NotThere fxt_NotThere fs_NoFolk_NotThere fs_NoFolk_NoFolk | n + 14, h => absurd h (by omega)), by rw [en_NoFolk, ex_LaneError]; exact kit_of fxh_LaneError fxt_LaneError fs_NoFolk_LaneError fs_NoFolk_NoFolk, by rw [en_NoFolk]; exact kit_ve fsv_NoFolk, by decide⟩
  have KI_NoOrder : KdI K xa 3 := ⟨by rw [en_NoOrder]; exact ⟨fea_NoOrder, feb_NoOrder, fxb_NoOrder, fxh_NoOrder, fec_NoOrder, fen, fet, fem_NoOrder⟩, (fun j hj => match j, hj with | 0, _ => by rw [en_NoOrder, en_NoLanes]; exact kit_of fxh_NoLanes fxt_NoLanes fs_NoOrder_NoLanes fs_NoOrder_NoOrder | 1, _ => by rw [en_NoOrder, en_NoFolk]; exact kit_of fxh_NoFolk fxt_NoFolk fs_NoOrder_NoFolk fs_NoOrder_NoOrder | 2, _ => by rw [en_NoOrder, en_NoCrowd]; exact kit_of fxh_NoCrowd fxt_NoCrowd fs_NoOrder_NoCrowd fs_NoOrder_NoOrder | 3, _ => by rw [en_NoOrder]; exact kit_of fxh_NoOrder fxt_NoOrder fs_NoOrder_NoOrder fs_NoOrder_NoOrder | 4, _ => by rw [en_NoOrder, en_NoWishes]; exact kit_of fxh_NoWishes fxt_NoWishes fs_NoOrder_NoWishes fs_NoOrder_NoOrder | 5, _ => by rw [en_NoOrder, en_NoWorths]; exact kit_of fxh_NoWorths fxt_NoWorths fs_NoOrder_NoWorths fs_NoOrder_NoOrder | 6, _ => by rw [en_NoOrder, en_NoPlan]; exact kit_of fxh_NoPlan fxt_NoPlan fs_NoOrder_NoPlan fs_NoOrder_NoOrder | 7, _ => by rw [en_NoOrder, en_NoCrossing]; exact kit_of fxh_NoCrossing fxt_NoCrossing fs_NoOrder_NoCrossing fs_NoOrder_NoOrder | 8, _ => by rw [en_NoOrder, en_NoTick]; exact kit_of fxh_NoTick fxt_NoTick fs_NoOrder_NoTick fs_NoOrder_NoOrder | 9, _ => by rw [en_NoOrder, en_NoName]; exact kit_of fxh_NoName fxt_NoName fs_NoOrder_NoName fs_NoOrder_NoOrder | 10, _ => by rw [en_NoOrder, en_NoRank]; exact kit_of fxh_NoRank fxt_NoRank fs_NoOrder_NoRank fs_NoOrder_NoOrder | 11, _ => by rw [en_NoOrder, en_NoTicks]; exact kit_of fxh_NoTicks fxt_NoTicks fs_NoOrder_NoTicks fs_NoOrder_NoOrder | 12, _ => by rw [en_NoOrder, en_Taken]; exact kit_of fxh_Taken fxt_Taken fs_NoOrder_Taken fs_NoOrder_NoOrder | 13, _ => by rw [en_NoOrder, en_NotThere]; exact kit_of fxh_NotThere fxt_NotThere fs_NoOrder_NotThere fs_NoOrder_NoOrder | n + 14, h => absurd h (by omega)), by rw [en_NoOrder, ex_LaneError]; exact kit_of fxh_LaneError fxt_LaneError fs_NoOrder_LaneError fs_NoOrder_NoOrder, by rw [en_NoOrder]; exact kit_ve fsv_NoOrder, by decide⟩
  have KH : ∀ j ∈ jsL, j < 14 ∧ PySem.W.exmOne K (.ref (xa (nameI j))) (.ref (xa "LaneError")) = some true := (List.forall_mem_cons.mpr ⟨⟨by decide, by rw [en_NoLanes, ex_LaneError]; exact PySem.W.exm_ref fxb_LaneError fxh_LaneError fxt_LaneError fs_NoLanes_LaneError⟩, (List.forall_mem_cons.mpr ⟨⟨by decide, by rw [en_NoFolk, ex_LaneError]; exact PySem.W.exm_ref fxb_LaneError fxh_LaneError fxt_LaneError fs_NoFolk_LaneError⟩, (List.forall_mem_cons.mpr ⟨⟨by decide, by rw [en_NoOrder, ex_LaneError]; exact PySem.W.exm_ref fxb_LaneError fxh_LaneError fxt_LaneError fs_NoOrder_LaneError⟩, (fun _ h => absurd h (by simp))⟩)⟩)⟩)
  have KR : ∀ j ∈ jsL, ∀ p, DH.ExcAt (xa (nameI j)) p → DefOkE l.prog w K mg base xa p "_law_refusal" 2 ["e"] (F_l_refusal p.1 j) := (List.forall_mem_cons.mpr ⟨(fun p z => d_l_refusal KI_NoLanes a_l_refusal (d_l_kinds ⟨B.isinstance, B.zip⟩ KG KI_NoLanes z a_l_kinds)), (List.forall_mem_cons.mpr ⟨(fun p z => d_l_refusal KI_NoFolk a_l_refusal (d_l_kinds ⟨B.isinstance, B.zip⟩ KG KI_NoFolk z a_l_kinds)), (List.forall_mem_cons.mpr ⟨(fun p z => d_l_refusal KI_NoOrder a_l_refusal (d_l_kinds ⟨B.isinstance, B.zip⟩ KG KI_NoOrder z a_l_kinds)), (fun _ h => absurd h (by simp))⟩)⟩)⟩)
  have c_l_take := d_l_take (P := l.prog) (w := w) (base := base) B C XF a_l_take 
  have c_l_drawn_order := d_l_drawn_order (P := l.prog) (w := w) (base := base) B C XF a_l_drawn_order c_l_take
  have c_l_lane := d_l_lane (P := l.prog) (w := w) (base := base) B C XF a_l_lane 
  have c_l_run := d_l_run (P := l.prog) (w := w) (base := base) B C XF a_l_run c_l_lane
  have c_l_any_plan := d_l_any_plan (P := l.prog) (w := w) (base := base) B C XF a_l_any_plan c_l_drawn_order c_l_run c_l_take
  have c_table_of := d_table_of (P := l.prog) (w := w) (base := base) B C XF a_table_of 
  have c_way_of := d_way_of (P := l.prog) (w := w) (base := base) B C XF a_way_of c_table_of
  have c_comes_out := d_comes_out (P := l.prog) (w := w) (base := base) B C XF a_comes_out c_table_of c_way_of
  have c_ticks_by := d_ticks_by (P := l.prog) (w := w) (base := base) B C XF a_ticks_by c_table_of
  have c_plan_of := d_plan_of (P := l.prog) (w := w) (base := base) B C XF a_plan_of c_ticks_by
  have c_home_ticks := d_home_ticks (P := l.prog) (w := w) (base := base) B C XF a_home_ticks c_comes_out c_plan_of
  have c_is_order := d_is_order (P := l.prog) (w := w) (base := base) B C XF a_is_order 
  have c_is_crossing := d_is_crossing (P := l.prog) (w := w) (base := base) B C XF a_is_crossing c_table_of
  have c_is_name := d_is_name (P := l.prog) (w := w) (base := base) B C XF a_is_name 
  have c_is_whole := d_is_whole (P := l.prog) (w := w) (base := base) B C XF a_is_whole 
  have c_is_one := d_is_one (P := l.prog) (w := w) (base := base) B C XF a_is_one c_is_crossing c_is_name c_is_whole
  have c_are_folk_of := d_are_folk_of (P := l.prog) (w := w) (base := base) B C XF a_are_folk_of c_is_one
  have c_is_lane := d_is_lane (P := l.prog) (w := w) (base := base) B C XF a_is_lane c_is_name c_is_whole
  have c_are_lanes := d_are_lanes (P := l.prog) (w := w) (base := base) B C XF a_are_lanes c_is_lane c_way_of
  have c_need_lanes := d_need_lanes (P := l.prog) (w := w) (base := base) B C XF a_need_lanes c_are_lanes
  have c_need_folk := d_need_folk (P := l.prog) (w := w) (base := base) B C XF a_need_folk c_are_folk_of c_need_lanes
  have c_need_order := d_need_order (P := l.prog) (w := w) (base := base) B C XF a_need_order c_is_order c_need_folk
  have c_home_order := d_home_order (P := l.prog) (w := w) (base := base) B C XF a_home_order c_home_ticks c_need_order
  have c_plan_by := d_plan_by (P := l.prog) (w := w) (base := base) B C XF a_plan_by c_need_order c_plan_of
  have c_l_asked31 := d_l_asked31 (P := l.prog) (w := w) (base := base) B C XF a_l_asked31 KE KH KR c_home_order c_plan_by
  have c_l_folk := d_l_folk (P := l.prog) (w := w) (base := base) B C XF a_l_folk c_l_take
  have c_l_way := d_l_way (P := l.prog) (w := w) (base := base) B C XF a_l_way c_l_lane
  have c_l_homes := d_l_homes (P := l.prog) (w := w) (base := base) B C XF a_l_homes c_l_lane c_l_way
  have c_l_lanes := d_l_lanes (P := l.prog) (w := w) (base := base) B C XF a_l_lanes c_l_take
  have c_l_well := d_l_well (P := l.prog) (w := w) (base := base) B C XF a_l_well 
  have c_is_plan_of := d_is_plan_of (P := l.prog) (w := w) (base := base) B C XF a_is_plan_of c_comes_out c_table_of c_way_of
  have c_is_plan := d_is_plan (P := l.prog) (w := w) (base := base) B C XF a_is_plan c_is_plan_of c_need_folk
  have c_law_k31 := d_law_k31 (P := l.prog) (w := w) (base := base) B C XF a_law_k31 c_l_any_plan c_l_asked31 c_l_drawn_order c_l_folk c_l_homes c_l_lanes c_l_run c_l_well c_home_order c_is_plan c_plan_by
  exact law_fn c_law_k31 hfa fl_law_k31 rfl
theorem walk {l : PySem.W.OpenLaw} {q : Program} {loose : List Str} {XP : (Str → Option Value) → Heap → Prop} {YP : World → Heap → Prop} {d : DefRec} {K : Params → PySem.W.Frag} (hn : l.most = some 63) (hdf : d.params.defaults = [])
    (hY : ∀ (w : World) (h : Heap), YP w h → (K w.params).In h)
    (F : ∀ (w : World) (mg : Str → Option Value) (fa : Addr) (h : Heap), (K w.params).In h → h.Ns mainGlobals mg → mg d.name = some (.ref fa) →
      ∃ fd : FuncData, (∀ (s : Shared) (u : Value), BindsTo s fd ⟨[u], []⟩ [("script", u)]) ∧ ∀ base : Heap, (K w.params).In base → base.Ns mainGlobals mg → FnOk l.prog w (K w.params) mg base (L2N.CX l.prog w) 9 fa fd ["script"] (spLw (K w.params))) :
    PySem.W.WalkO q loose XP YP l.row.toRowW d [] (fun f vs => PySem.call f vs) :=
  L2.walk_of (n := 63) (k := 9) (x := "script") (CX := fun w => L2N.CX l.prog w) (sp := fun w => spLw (K w.params)) hn (by decide) hdf ⟨rfl, by decide, by decide⟩ hY F (fun _ _ a ns hl _ hS => ⟨a, ns, rfl, hS, hl, fun _ => rfl⟩) fun _ _ _ _ _ z => (by obtain ⟨_, _, _, _, _, _, _, _, _, _, _, _, z⟩ := z; exact z)
end DL
end
open PySem PySem.W PyProof.Rows in
set_option maxRecDepth 100000 in
set_option maxHeartbeats 0 in
theorem PySem.Challenge.cw_homelanes_k31_whole_the_first_come_as_if_holds : PySem.Challenge.rw_homelanes_k31_whole_the_first_come_as_if.Holds := by
  w_on; o_law; k_head; (case hw => w_witness2)
  k_fill
  refine DL.walk (l := PySem.Challenge.rw_homelanes_k31_whole_the_first_come_as_if) rfl rfl (fun w h Y => PySem.W.kIn_of Y) ?F
  case F =>
    intro w mg fa h KX G hmg
    refine' DL.all_mk KX G hmg ?fc_HOME ?fc_LETTERS ?fc_MOST_FOLK ?fc_MOST_LANES ?fc_MOST_LONG ?fc_MOST_TICK ?fc_MOST_WIDE ?fb_all ?fb_any ?fb_bool ?fb_dict ?fb_int ?fb_isinstance ?fb_len ?fb_list ?fb_max ?fb_min ?fb_range ?fb_set ?fb_sorted ?fb_str ?fb_tuple ?fb_zip ?fxg_NoFolk ?fxq_NoFolk ?fxk_NoFolk ?fxb_NoFolk ?fxt_NoFolk ?fxg_NoLanes ?fxq_NoLanes ?fxk_NoLanes ?fxb_NoLanes ?fxt_NoLanes ?fxg_NoOrder ?fxq_NoOrder ?fxk_NoOrder ?fxb_NoOrder ?fxt_NoOrder ?fxh_NoLanes ?fxh_NoFolk ?fxg_NoCrowd ?fxt_NoCrowd ?fxh_NoCrowd ?fxh_NoOrder ?fxg_NoWishes ?fxt_NoWishes ?fxh_NoWishes ?fxg_NoWorths ?fxt_NoWorths ?fxh_NoWorths ?fxg_NoPlan ?fxt_NoPlan ?fxh_NoPlan ?fxg_NoCrossing ?fxt_NoCrossing ?fxh_NoCrossing ?fxg_NoTick ?fxt_NoTick ?fxh_NoTick ?fxg_NoName ?fxt_NoName ?fxh_NoName ?fxg_NoRank ?fxt_NoRank ?fxh_NoRank ?fxg_NoTicks ?fxt_NoTicks ?fxh_NoTicks ?fxg_Taken ?fxt_Taken ?fxh_Taken ?fxg_NotThere ?fxt_NotThere ?fxh_NotThere ?fxg_LaneError ?fxt_LaneError ?fxh_LaneError ?fxb_LaneError ?fbv ?fen ?fet ?fea_NoFolk ?feb_NoFolk ?fec_NoFolk ?fem_NoFolk ?fsv_NoFolk ?fs_NoFolk_NoLanes ?fs_NoFolk_NoFolk ?fs_NoFolk_NoCrowd ?fs_NoFolk_NoOrder ?fs_NoFolk_NoWishes ?fs_NoFolk_NoWorths ?fs_NoFolk_NoPlan ?fs_NoFolk_NoCrossing ?fs_NoFolk_NoTick ?fs_NoFolk_NoName ?fs_NoFolk_NoRank ?fs_NoFolk_NoTicks ?fs_NoFolk_Taken ?fs_NoFolk_NotThere ?fs_NoFolk_LaneError ?fea_NoLanes ?feb_NoLanes ?fec_NoLanes ?fem_NoLanes ?fsv_NoLanes ?fs_NoLanes_NoLanes ?fs_NoLanes_NoFolk ?fs_NoLanes_NoCrowd ?fs_NoLanes_NoOrder ?fs_NoLanes_NoWishes ?fs_NoLanes_NoWorths ?fs_NoLanes_NoPlan ?fs_NoLanes_NoCrossing ?fs_NoLanes_NoTick ?fs_NoLanes_NoName ?fs_NoLanes_NoRank ?fs_NoLanes_NoTicks ?fs_NoLanes_Taken ?fs_NoLanes_NotThere ?fs_NoLanes_LaneError ?fea_NoOrder ?feb_NoOrder ?fec_NoOrder ?fem_NoOrder ?fsv_NoOrder ?fs_NoOrder_NoLanes ?fs_NoOrder_NoFolk ?fs_NoOrder_NoCrowd ?fs_NoOrder_NoOrder ?fs_NoOrder_NoWishes ?fs_NoOrder_NoWorths ?fs_NoOrder_NoPlan ?fs_NoOrder_NoCrossing ?fs_NoOrder_NoTick ?fs_NoOrder_NoName ?fs_NoOrder_NoRank ?fs_NoOrder_NoTicks ?fs_NoOrder_Taken ?fs_NoOrder_NotThere ?fs_NoOrder_LaneError ?fa_l_take ?fl_l_take ?fd_l_take ?fk_l_take ?fa_l_drawn_order ?fl_l_drawn_order ?fd_l_drawn_order ?fk_l_drawn_order ?fa_l_lane ?fl_l_lane ?fd_l_lane ?fk_l_lane ?fa_l_run ?fl_l_run ?fd_l_run ?fk_l_run ?fa_l_any_plan ?fl_l_any_plan ?fd_l_any_plan ?fk_l_any_plan ?fa_table_of ?fl_table_of ?fd_table_of ?fk_table_of ?fa_way_of ?fl_way_of ?fd_way_of ?fk_way_of ?fa_comes_out ?fl_comes_out ?fd_comes_out ?fk_comes_out ?fa_ticks_by ?fl_ticks_by ?fd_ticks_by ?fk_ticks_by ?fa_plan_of ?fl_plan_of ?fd_plan_of ?fk_plan_of ?fa_home_ticks ?fl_home_ticks ?fd_home_ticks ?fk_home_ticks ?fa_is_order ?fl_is_order ?fd_is_order ?fk_is_order ?fa_is_crossing ?fl_is_crossing ?fd_is_crossing ?fk_is_crossing ?fa_is_name ?fl_is_name ?fd_is_name ?fk_is_name ?fa_is_whole ?fl_is_whole ?fd_is_whole ?fk_is_whole ?fa_is_one ?fl_is_one ?fd_is_one ?fk_is_one ?fa_are_folk_of ?fl_are_folk_of ?fd_are_folk_of ?fk_are_folk_of ?fa_is_lane ?fl_is_lane ?fd_is_lane ?fk_is_lane ?fa_are_lanes ?fl_are_lanes ?fd_are_lanes ?fk_are_lanes ?fa_need_lanes ?fl_need_lanes ?fd_need_lanes ?fk_need_lanes ?fa_need_folk ?fl_need_folk ?fd_need_folk ?fk_need_folk ?fa_need_order ?fl_need_order ?fd_need_order ?fk_need_order ?fa_home_order ?fl_home_order ?fd_home_order ?fk_home_order ?fa_plan_by ?fl_plan_by ?fd_plan_by ?fk_plan_by ?fa_l_asked31 ?fl_l_asked31 ?fd_l_asked31 ?fk_l_asked31 ?fa_l_folk ?fl_l_folk ?fd_l_folk ?fk_l_folk ?fa_l_way ?fl_l_way ?fd_l_way ?fk_l_way ?fa_l_homes ?fl_l_homes ?fd_l_homes ?fk_l_homes ?fa_l_lanes ?fl_l_lanes ?fd_l_lanes ?fk_l_lanes ?fa_l_well ?fl_l_well ?fd_l_well ?fk_l_well ?fa_is_plan_of ?fl_is_plan_of ?fd_is_plan_of ?fk_is_plan_of ?fa_is_plan ?fl_is_plan ?fd_is_plan ?fk_is_plan ?fa_law_k31 ?fl_law_k31 ?fd_law_k31 ?fk_law_k31 ?fa_l_kinds ?fl_l_kinds ?fd_l_kinds ?fk_l_kinds ?fa_l_refusal ?fl_l_refusal ?fd_l_refusal ?fk_l_refusal
    (case fc_HOME => k_is)
    (case fc_LETTERS => k_is)
    (case fc_MOST_FOLK => k_is)
    (case fc_MOST_LANES => k_is)
    (case fc_MOST_LONG => k_is)
    (case fc_MOST_TICK => k_is)
    (case fc_MOST_WIDE => k_is)
    (case fb_all => k_is)
    (case fb_any => k_is)
    (case fb_bool => k_is)
    (case fb_dict => k_is)
    (case fb_int => k_is)
    (case fb_isinstance => k_is)
    (case fb_len => k_is)
    (case fb_list => k_is)
    (case fb_max => k_is)
    (case fb_min => k_is)
    (case fb_range => k_is)
    (case fb_set => k_is)
    (case fb_sorted => k_is)
    (case fb_str => k_is)
    (case fb_tuple => k_is)
    (case fb_zip => k_is)
    (case fxg_NoFolk => k_is)
    (case fxq_NoFolk => k_exc)
    (case fxk_NoFolk => k_is)
    (case fxb_NoFolk => k_is)
    (case fxt_NoFolk => k_is)
    (case fxg_NoLanes => k_is)
    (case fxq_NoLanes => k_exc)
    (case fxk_NoLanes => k_is)
    (case fxb_NoLanes => k_is)
    (case fxt_NoLanes => k_is)
    (case fxg_NoOrder => k_is)
    (case fxq_NoOrder => k_exc)
    (case fxk_NoOrder => k_is)
    (case fxb_NoOrder => k_is)
    (case fxt_NoOrder => k_is)
    (case fxh_NoLanes => k_is)
    (case fxh_NoFolk => k_is)
    (case fxg_NoCrowd => k_is)
    (case fxt_NoCrowd => k_is)
    (case fxh_NoCrowd => k_is)
    (case fxh_NoOrder => k_is)
    (case fxg_NoWishes => k_is)
    (case fxt_NoWishes => k_is)
    (case fxh_NoWishes => k_is)
    (case fxg_NoWorths => k_is)
    (case fxt_NoWorths => k_is)
    (case fxh_NoWorths => k_is)
    (case fxg_NoPlan => k_is)
    (case fxt_NoPlan => k_is)
    (case fxh_NoPlan => k_is)
    (case fxg_NoCrossing => k_is)
    (case fxt_NoCrossing => k_is)
    (case fxh_NoCrossing => k_is)
    (case fxg_NoTick => k_is)
    (case fxt_NoTick => k_is)
    (case fxh_NoTick => k_is)
    (case fxg_NoName => k_is)
    (case fxt_NoName => k_is)
    (case fxh_NoName => k_is)
    (case fxg_NoRank => k_is)
    (case fxt_NoRank => k_is)
    (case fxh_NoRank => k_is)
    (case fxg_NoTicks => k_is)
    (case fxt_NoTicks => k_is)
    (case fxh_NoTicks => k_is)
    (case fxg_Taken => k_is)
    (case fxt_Taken => k_is)
    (case fxh_Taken => k_is)
    (case fxg_NotThere => k_is)
    (case fxt_NotThere => k_is)
    (case fxh_NotThere => k_is)
    (case fxg_LaneError => k_is)
    (case fxt_LaneError => k_is)
    (case fxh_LaneError => k_is)
    (case fxb_LaneError => k_is)
    (case fbv => k_is)
    (case fen => k_is)
    (case fet => k_is)
    (case fea_NoFolk => k_is)
    (case feb_NoFolk => k_is)
    (case fec_NoFolk => k_is)
    (case fem_NoFolk => k_is)
    (case fsv_NoFolk => k_is)
    (case fs_NoFolk_NoLanes => k_is)
    (case fs_NoFolk_NoFolk => k_is)
    (case fs_NoFolk_NoCrowd => k_is)
    (case fs_NoFolk_NoOrder => k_is)
    (case fs_NoFolk_NoWishes => k_is)
    (case fs_NoFolk_NoWorths => k_is)
    (case fs_NoFolk_NoPlan => k_is)
    (case fs_NoFolk_NoCrossing => k_is)
    (case fs_NoFolk_NoTick => k_is)
    (case fs_NoFolk_NoName => k_is)
    (case fs_NoFolk_NoRank => k_is)
    (case fs_NoFolk_NoTicks => k_is)
    (case fs_NoFolk_Taken => k_is)
    (case fs_NoFolk_NotThere => k_is)
    (case fs_NoFolk_LaneError => k_is)
    (case fea_NoLanes => k_is)
    (case feb_NoLanes => k_is)
    (case fec_NoLanes => k_is)
    (case fem_NoLanes => k_is)
    (case fsv_NoLanes => k_is)
    (case fs_NoLanes_NoLanes => k_is)
    (case fs_NoLanes_NoFolk => k_is)
    (case fs_NoLanes_NoCrowd => k_is)
    (case fs_NoLanes_NoOrder => k_is)
    (case fs_NoLanes_NoWishes => k_is)
    (case fs_NoLanes_NoWorths => k_is)
    (case fs_NoLanes_NoPlan => k_is)
    (case fs_NoLanes_NoCrossing => k_is)
    (case fs_NoLanes_NoTick => k_is)
    (case fs_NoLanes_NoName => k_is)
    (case fs_NoLanes_NoRank => k_is)
    (case fs_NoLanes_NoTicks => k_is)
    (case fs_NoLanes_Taken => k_is)
    (case fs_NoLanes_NotThere => k_is)
    (case fs_NoLanes_LaneError => k_is)
    (case fea_NoOrder => k_is)
    (case feb_NoOrder => k_is)
    (case fec_NoOrder => k_is)
    (case fem_NoOrder => k_is)
    (case fsv_NoOrder => k_is)
    (case fs_NoOrder_NoLanes => k_is)
    (case fs_NoOrder_NoFolk => k_is)
    (case fs_NoOrder_NoCrowd => k_is)
    (case fs_NoOrder_NoOrder => k_is)
    (case fs_NoOrder_NoWishes => k_is)
    (case fs_NoOrder_NoWorths => k_is)
    (case fs_NoOrder_NoPlan => k_is)
    (case fs_NoOrder_NoCrossing => k_is)
    (case fs_NoOrder_NoTick => k_is)
    (case fs_NoOrder_NoName => k_is)
    (case fs_NoOrder_NoRank => k_is)
    (case fs_NoOrder_NoTicks => k_is)
    (case fs_NoOrder_Taken => k_is)
    (case fs_NoOrder_NotThere => k_is)
    (case fs_NoOrder_LaneError => k_is)
    (case fa_l_take => k_is)
    (case fl_l_take => k_is)
    (case fd_l_take => k_is)
    (case fk_l_take => k_is)
    (case fa_l_drawn_order => k_is)
    (case fl_l_drawn_order => k_is)
    (case fd_l_drawn_order => k_is)
    (case fk_l_drawn_order => k_is)
    (case fa_l_lane => k_is)
    (case fl_l_lane => k_is)
    (case fd_l_lane => k_is)
    (case fk_l_lane => k_is)
    (case fa_l_run => k_is)
    (case fl_l_run => k_is)
    (case fd_l_run => k_is)
    (case fk_l_run => k_is)
    (case fa_l_any_plan => k_is)
    (case fl_l_any_plan => k_is)
    (case fd_l_any_plan => k_is)
    (case fk_l_any_plan => k_is)
    (case fa_table_of => k_is)
    (case fl_table_of => k_is)
    (case fd_table_of => k_is)
    (case fk_table_of => k_is)
    (case fa_way_of => k_is)
    (case fl_way_of => k_is)
    (case fd_way_of => k_is)
    (case fk_way_of => k_is)
    (case fa_comes_out => k_is)
    (case fl_comes_out => k_is)
    (case fd_comes_out => k_is)
    (case fk_comes_out => k_is)
    (case fa_ticks_by => k_is)
    (case fl_ticks_by => k_is)
    (case fd_ticks_by => k_is)
    (case fk_ticks_by => k_is)
    (case fa_plan_of => k_is)
    (case fl_plan_of => k_is)
    (case fd_plan_of => k_is)
    (case fk_plan_of => k_is)
    (case fa_home_ticks => k_is)
    (case fl_home_ticks => k_is)
    (case fd_home_ticks => k_is)
    (case fk_home_ticks => k_is)
    (case fa_is_order => k_is)
    (case fl_is_order => k_is)
    (case fd_is_order => k_is)
    (case fk_is_order => k_is)
    (case fa_is_crossing => k_is)
    (case fl_is_crossing => k_is)
    (case fd_is_crossing => k_is)
    (case fk_is_crossing => k_is)
    (case fa_is_name => k_is)
    (case fl_is_name => k_is)
    (case fd_is_name => k_is)
    (case fk_is_name => k_is)
    (case fa_is_whole => k_is)
    (case fl_is_whole => k_is)
    (case fd_is_whole => k_is)
    (case fk_is_whole => k_is)
    (case fa_is_one => k_is)
    (case fl_is_one => k_is)
    (case fd_is_one => k_is)
    (case fk_is_one => k_is)
    (case fa_are_folk_of => k_is)
    (case fl_are_folk_of => k_is)
    (case fd_are_folk_of => k_is)
    (case fk_are_folk_of => k_is)
    (case fa_is_lane => k_is)
    (case fl_is_lane => k_is)
    (case fd_is_lane => k_is)
    (case fk_is_lane => k_is)
    (case fa_are_lanes => k_is)
    (case fl_are_lanes => k_is)
    (case fd_are_lanes => k_is)
    (case fk_are_lanes => k_is)
    (case fa_need_lanes => k_is)
    (case fl_need_lanes => k_is)
    (case fd_need_lanes => k_is)
    (case fk_need_lanes => k_is)
    (case fa_need_folk => k_is)
    (case fl_need_folk => k_is)
    (case fd_need_folk => k_is)
    (case fk_need_folk => k_is)
    (case fa_need_order => k_is)
    (case fl_need_order => k_is)
    (case fd_need_order => k_is)
    (case fk_need_order => k_is)
    (case fa_home_order => k_is)
    (case fl_home_order => k_is)
    (case fd_home_order => k_is)
    (case fk_home_order => k_is)
    (case fa_plan_by => k_is)
    (case fl_plan_by => k_is)
    (case fd_plan_by => k_is)
    (case fk_plan_by => k_is)
    (case fa_l_asked31 => k_is)
    (case fl_l_asked31 => k_is)
    (case fd_l_asked31 => k_is)
    (case fk_l_asked31 => k_is)
    (case fa_l_folk => k_is)
    (case fl_l_folk => k_is)
    (case fd_l_folk => k_is)
    (case fk_l_folk => k_is)
    (case fa_l_way => k_is)
    (case fl_l_way => k_is)
    (case fd_l_way => k_is)
    (case fk_l_way => k_is)
    (case fa_l_homes => k_is)
    (case fl_l_homes => k_is)
    (case fd_l_homes => k_is)
    (case fk_l_homes => k_is)
    (case fa_l_lanes => k_is)
    (case fl_l_lanes => k_is)
    (case fd_l_lanes => k_is)
    (case fk_l_lanes => k_is)
    (case fa_l_well => k_is)
    (case fl_l_well => k_is)
    (case fd_l_well => k_is)
    (case fk_l_well => k_is)
    (case fa_is_plan_of => k_is)
    (case fl_is_plan_of => k_is)
    (case fd_is_plan_of => k_is)
    (case fk_is_plan_of => k_is)
    (case fa_is_plan => k_is)
    (case fl_is_plan => k_is)
    (case fd_is_plan => k_is)
    (case fk_is_plan => k_is)
    (case fa_law_k31 => k_is)
    (case fl_law_k31 => k_is)
    (case fd_law_k31 => k_is)
    (case fk_law_k31 => k_is)
    (case fa_l_kinds => k_is)
    (case fl_l_kinds => k_is)
    (case fd_l_kinds => k_is)
    (case fk_l_kinds => k_is)
    (case fa_l_refusal => k_is)
    (case fl_l_refusal => k_is)
    (case fd_l_refusal => k_is)
    (case fk_l_refusal => k_is)
