import PyProof.Rows.All
import Wide.All
import OpenK.AllK
import Wide.FinOn
import HandS.ForMost
import HandS.ForExc
import HandS.CallSlots
import HandS.Defaults
import HandS.OwnEq
import HandS.SlotsOwn
import HandS.Gcd
import HandS.Wide
import HandS.IsInst
import HandS.Property
import HandS.More
import HandS.ExcOwn
import HandS.ExcIs
import HandS.RaiseMore
import HandS.Codes
import HandS.WordsExc
import HandS.Head3
import HandS.HeadEnd
import HandS.HeadHook2
import PySem.Challenge.RW_bestpapers_k01_fraction_operators
set_option Elab.async false
set_option linter.all false
set_option maxRecDepth 100000
set_option maxHeartbeats 4000000
/-! Bp0: plain data D, stores, worlds; how they stand for the layer's values and heaps. -/
namespace Bp
open PySem L2

/-- plain data: immutable things are trees, lists and objects under construction are places of a store -/
inductive D where
  | non | bl (b : Bool) | int (i : Int) | str (x : Str) | ty (n : String) | glob (x : Nat)
  | tup (xs : List D) | ins (c : Nat) (xs : List D) | rl (xs : List D) | ref (n : Nat)
  | xv (c : Nat) (ks : List Nat) (vs : List D)
instance : Inhabited D := ⟨.non⟩
/-- what stands at a place of the store -/
inductive O where
  | lst (xs : List D)
  | obj (c : Nat) (fs : List (Nat × D))
abbrev Store := List O
/-- an own exception: its class's name, its fields (none of them: it has no own dict) -/
structure Ex where
  c : Nat
  ks : List Nat := []
  vs : List D := []
inductive Res (α : Type) where
  | ok (a : α) (S : Store)
  | exc (e : Ex) (S : Store)
  | bad
abbrev Fn := List D → Store → Res D
abbrev Env := List (Option D)
abbrev ME := Env → Store → Res D
abbrev MA := Env → Store → Res (List D)

/-- names by number; the fields of a class -/
structure Tn where
  nm : Nat → Str
  fl : Nat → List Nat
/-- what does not change: the written part, the module's names, the numbers of names and the fields of the classes -/
structure Gs where
  K : PySem.W.Frag
  mg : Str → Option Value
  tn : Tn
  x : Option (Addr × Value × Option Addr) := none
/-- a world: what stands fast in the heap, the addresses of the store's places -/
structure Wd where
  F : Hp
  μ : List Addr
  xs : List (Addr × Value × Option Addr)
structure Le (W W' : Wd) : Prop where
  F : ∀ a o, W.F a = some o → W'.F a = some o
  μ : W.μ <+: W'.μ
  xs : W.xs <+: W'.xs
theorem Le.refl (W : Wd) : Le W W := ⟨fun _ _ h => h, List.prefix_rfl, List.prefix_rfl⟩
theorem Le.trans {W W1 W2 : Wd} (a : Le W W1) (b : Le W1 W2) : Le W W2 := ⟨fun x o h => b.F x o (a.F x o h), a.μ.trans b.μ, a.xs.trans b.xs⟩
theorem pre_at {α : Type} {l l' : List α} (p : l <+: l') {n : Nat} {a : α} (h : l[n]? = some a) : l'[n]? = some a := by
  obtain ⟨t, e⟩ := p
  rw [← e, List.getElem?_append_left (List.getElem?_eq_some_iff.mp h).1]
  exact h
theorem Le.at {W W' : Wd} (l : Le W W') {n : Nat} {a : Addr} (h : W.μ[n]? = some a) : W'.μ[n]? = some a := by
  obtain ⟨t, e⟩ := l.μ
  rw [← e, List.getElem?_append_left (List.getElem?_eq_some_iff.mp h).1]
  exact h
theorem rd_mono {F F' : Hp} (h : ∀ a o, F a = some o → F' a = some o) {a : Addr} {u : HO} (r : Rd F a u) : Rd F' a u := by
  rcases r with r | ⟨o, r⟩
  · exact .inl (h _ _ r)
  · exact .inr ⟨o, h _ _ r⟩
theorem sqt_mono {K : PySem.W.Frag} {F F' : Hp} (h : ∀ a o, F a = some o → F' a = some o) {a : Addr} {xs : List V} (r : SqT K F a xs) : SqT K F' a xs := r.imp (rd_mono h) id
theorem sql_mono {K : PySem.W.Frag} {F F' : Hp} (h : ∀ a o, F a = some o → F' a = some o) {a : Addr} {xs : List V} (r : SqL K F a xs) : SqL K F' a xs := r.imp (rd_mono h) id

mutual
inductive RepV (G : Gs) (W : Wd) : D → V → Prop where
  | non : RepV G W .non .non
  | bl (b : Bool) : RepV G W (.bl b) (.bl b)
  | int (i : Int) : RepV G W (.int i) (.int i)
  | str (x : Str) : RepV G W (.str x) (.str x)
  | ty (n : String) : RepV G W (.ty n) (.ty n)
  | glob (x : Nat) (a : Addr) (h : G.mg (G.tn.nm x) = some (.ref a)) : RepV G W (.glob x) (.ref a)
  | tup (xs : List D) (vs : List V) (a : Addr) (h : W.F a = some (.tup vs)) (r : RepL G W xs vs) : RepV G W (.tup xs) (.ref a)
  | ins (c : Nat) (xs : List D) (a C dx : Addr) (fvs : List (Str × V)) (hc : G.mg (G.tn.nm c) = some (.ref C)) (h : W.F a = some (.ins C dx fvs)) (hk : fvs.map (·.1) = (G.tn.fl c).map G.tn.nm) (r : RepL G W xs (fvs.map (·.2))) : RepV G W (.ins c xs) (.ref a)
  | rl (xs : List D) (vs : List V) (a : Addr) (h : SqL G.K W.F a vs) (r : RepL G W xs vs) : RepV G W (.rl xs) (.ref a)
  | ref (n : Nat) (a : Addr) (h : W.μ[n]? = some a) : RepV G W (.ref n) (.ref a)
  | xv (c : Nat) (ks : List Nat) (vs : List D) (a C dd : Addr) (d : Option Addr) (fvs : List (Str × V)) (h : G.x = some (a, .ref C, d)) (hc : G.mg (G.tn.nm c) = some (.ref C)) (h0 : ks = [] → d = none)
      (h1 : ks ≠ [] → d = some dd ∧ W.F dd = some (.xd fvs)) (hk : fvs.map (·.1) = ks.map G.tn.nm) (r : RepL G W vs (fvs.map (·.2))) : RepV G W (.xv c ks vs) (.ref a)
inductive RepL (G : Gs) (W : Wd) : List D → List V → Prop where
  | nil : RepL G W [] []
  | cons {d : D} {v : V} {ds : List D} {vs : List V} (h : RepV G W d v) (t : RepL G W ds vs) : RepL G W (d :: ds) (v :: vs)
end
theorem RepV.mono {G : Gs} {W W' : Wd} (l : Le W W') {d : D} {v : V} (r : RepV G W d v) : RepV G W' d v := by
  refine RepV.rec (motive_1 := fun d v _ => RepV G W' d v) (motive_2 := fun ds vs _ => RepL G W' ds vs) .non .bl .int .str .ty .glob ?_ ?_ ?_ ?_ ?_ .nil ?_ r
  · exact fun xs vs a h _ r => .tup xs vs a (l.F _ _ h) r
  · exact fun c xs a C dx fvs hc h hk _ r => .ins c xs a C dx fvs hc (l.F _ _ h) hk r
  · exact fun xs vs a h _ r => .rl xs vs a (sql_mono l.F h) r
  · exact fun n a h => .ref n a (l.at h)
  · exact fun c ks vs a C dd d fvs h hc h0 h1 hk _ r => .xv c ks vs a C dd d fvs h hc h0 (fun z => ⟨(h1 z).1, l.F _ _ (h1 z).2⟩) hk r
  · exact fun _ _ h t => .cons h t
theorem RepL.mono {G : Gs} {W W' : Wd} (l : Le W W') : ∀ {ds : List D} {vs : List V}, RepL G W ds vs → RepL G W' ds vs
  | _, _, .nil => .nil
  | _, _, .cons h t => .cons (h.mono l) (t.mono l)
theorem RepL.length {G : Gs} {W : Wd} : ∀ {ds : List D} {vs : List V}, RepL G W ds vs → ds.length = vs.length
  | _, _, .nil => rfl
  | _, _, .cons _ t => by rw [List.length_cons, List.length_cons, t.length]
theorem RepL.append {G : Gs} {W : Wd} : ∀ {ds es : List D} {vs us : List V}, RepL G W ds vs → RepL G W es us → RepL G W (ds ++ es) (vs ++ us)
  | _, _, _, _, .nil, r => r
  | _, _, _, _, .cons h t, r => .cons h (t.append r)
theorem RepL.get {G : Gs} {W : Wd} : ∀ {ds : List D} {vs : List V} {i : Nat} {d : D}, RepL G W ds vs → ds[i]? = some d → ∃ v, vs[i]? = some v ∧ RepV G W d v
  | _, _, _, _, .nil, h => by simp at h
  | _, _, 0, _, .cons h _, e => by simp at e; subst e; exact ⟨_, rfl, h⟩
  | _, _, i + 1, d, .cons _ t, e => by
    obtain ⟨v, h1, h2⟩ := t.get (i := i) (d := d) (by simpa using e)
    exact ⟨v, by simpa using h1, h2⟩
theorem RepL.get' {G : Gs} {W : Wd} : ∀ {ds : List D} {vs : List V} {i : Nat} {v : V}, RepL G W ds vs → vs[i]? = some v → ∃ d, ds[i]? = some d ∧ RepV G W d v
  | _, _, _, _, .nil, h => by simp at h
  | _, _, 0, _, .cons h _, e => by simp at e; subst e; exact ⟨_, rfl, h⟩
  | _, _, i + 1, d, .cons _ t, e => by
    obtain ⟨v, h1, h2⟩ := t.get' (i := i) (v := d) (by simpa using e)
    exact ⟨v, by simpa using h1, h2⟩
theorem RepL.set {G : Gs} {W : Wd} {d : D} {v : V} (h : RepV G W d v) : ∀ {ds : List D} {vs : List V} (i : Nat), RepL G W ds vs → RepL G W (ds.set i d) (vs.set i v)
  | _, _, _, .nil => .nil
  | _, _, 0, .cons _ t => .cons h t
  | _, _, i + 1, .cons a t => .cons a (RepL.set h i t)
theorem RepL.take {G : Gs} {W : Wd} : ∀ {ds : List D} {vs : List V} (n : Nat), RepL G W ds vs → RepL G W (ds.take n) (vs.take n)
  | _, _, _, .nil => by simp; exact .nil
  | _, _, 0, .cons _ _ => .nil
  | _, _, i + 1, .cons a t => .cons a (RepL.take i t)
theorem RepL.drop {G : Gs} {W : Wd} : ∀ {ds : List D} {vs : List V} (n : Nat), RepL G W ds vs → RepL G W (ds.drop n) (vs.drop n)
  | _, _, _, .nil => by simp; exact .nil
  | _, _, 0, .cons a t => .cons a t
  | _, _, i + 1, .cons _ t => RepL.drop i t

/-- fields -/
def RepF (G : Gs) (W : Wd) (fs : List (Nat × D)) (fvs : List (Str × V)) : Prop := fvs.map (·.1) = fs.map (fun p => G.tn.nm p.1) ∧ RepL G W (fs.map (·.2)) (fvs.map (·.2))
theorem RepF.mono {G : Gs} {W W' : Wd} (l : Le W W') {fs : List (Nat × D)} {fvs : List (Str × V)} (r : RepF G W fs fvs) : RepF G W' fs fvs := ⟨r.1, r.2.mono l⟩
inductive RepO (G : Gs) (W : Wd) (a : Addr) : O → HO → Prop where
  | lst (xs : List D) (vs : List V) (r : RepL G W xs vs) : RepO G W a (.lst xs) (.lst vs)
  | obj (c : Nat) (fs : List (Nat × D)) (C dx : Addr) (fvs : List (Str × V)) (hc : G.mg (G.tn.nm c) = some (.ref C)) (r : RepF G W fs fvs) : RepO G W a (.obj c fs) (.ins C dx fvs)
theorem RepO.mono {G : Gs} {W W' : Wd} (l : Le W W') {a : Addr} {o : O} {ho : HO} (r : RepO G W a o ho) : RepO G W' a o ho := by
  cases r with
  | lst xs vs r => exact .lst xs vs (r.mono l)
  | obj c fs C dx fvs hc r => exact .obj c fs C dx fvs hc (r.mono l)
structure Rel (G : Gs) (W : Wd) (S : Store) (H : Hp) : Prop where
  fr : ∀ a o, W.F a = some o → H a = some o
  len : W.μ.length = S.length
  nd : W.μ.Nodup
  off : ∀ a ∈ W.μ, W.F a = none
  obj : ∀ (n : Nat) (a : Addr) (o : O), W.μ[n]? = some a → S[n]? = some o → ∃ ho, H a = some ho ∧ RepO G W a o ho

section
variable {G : Gs} {W : Wd} {S : Store} {H : Hp} {p : Addr}
theorem Rel.addr (R : Rel G W S H) {n : Nat} {o : O} (h : S[n]? = some o) : ∃ a, W.μ[n]? = some a := by
  have hn : n < W.μ.length := by rw [R.len]; exact (List.getElem?_eq_some_iff.mp h).1
  exact ⟨W.μ[n], List.getElem?_eq_getElem hn⟩
theorem Rel.at (R : Rel G W S H) {n : Nat} {a : Addr} (h : W.μ[n]? = some a) : ∃ o, S[n]? = some o := by
  have hn : n < S.length := by rw [← R.len]; exact (List.getElem?_eq_some_iff.mp h).1
  exact ⟨S[n], List.getElem?_eq_getElem hn⟩
theorem Rel.there (R : Rel G W S H) {a : Addr} (h : a ∈ W.μ) : ∃ ho, H a = some ho := by
  obtain ⟨n, hn⟩ := List.mem_iff_getElem?.mp h
  obtain ⟨o, ho⟩ := R.at hn
  obtain ⟨u, hu, _⟩ := R.obj n a o hn ho
  exact ⟨u, hu⟩
theorem Rel.notμ (R : Rel G W S H) (h : H p = none) : p ∉ W.μ := fun q => by
  obtain ⟨u, hu⟩ := R.there q
  rw [h] at hu
  cases hu
theorem Rel.notF (R : Rel G W S H) (h : H p = none) : W.F p = none := by
  cases e : W.F p with
  | none => rfl
  | some o => rw [R.fr _ _ e] at h; cases h
/-- the heap grows by an object that stands fast -/
theorem Rel.fix (R : Rel G W S H) (h : H p = none) (o : HO) : Le W ⟨upd W.F p o, W.μ, W.xs⟩ ∧ Rel G ⟨upd W.F p o, W.μ, W.xs⟩ S (upd H p o) := by
  have l : Le W ⟨upd W.F p o, W.μ, W.xs⟩ := ⟨fun a u e => by
    show upd W.F p o a = some u
    rw [upd_ne (ne_of_none (R.fr _ _ e) h)]
    exact e, List.prefix_rfl, List.prefix_rfl⟩
  refine ⟨l, ⟨fun a u e => ?_, R.len, R.nd, fun a ha => ?_, fun n a u e1 e2 => ?_⟩⟩
  · have e' : upd W.F p o a = some u := e
    by_cases hp : a = p
    · subst hp
      rw [upd_same] at e' ⊢
      exact e'
    · rw [upd_ne hp] at e' ⊢
      exact R.fr _ _ e'
  · show upd W.F p o a = none
    have ne : a ≠ p := fun q => R.notμ h (q ▸ ha)
    rw [upd_ne ne]
    exact R.off a ha
  · obtain ⟨ho, h1, h2⟩ := R.obj n a u e1 e2
    refine ⟨ho, ?_, h2.mono l⟩
    rw [upd_ne (ne_of_none h1 h)]
    exact h1
/-- the heap grows by an object that the store holds -/
theorem Rel.new (R : Rel G W S H) (h : H p = none) {o : O} {ho : HO} (r : RepO G ⟨W.F, W.μ ++ [p], W.xs⟩ p o ho) : Le W ⟨W.F, W.μ ++ [p], W.xs⟩ ∧ Rel G ⟨W.F, W.μ ++ [p], W.xs⟩ (S ++ [o]) (upd H p ho) := by
  have l : Le W ⟨W.F, W.μ ++ [p], W.xs⟩ := ⟨fun _ _ e => e, List.prefix_append _ _, List.prefix_rfl⟩
  refine ⟨l, ⟨fun a u e => ?_, ?_, ?_, fun a ha => ?_, fun n a u e1 e2 => ?_⟩⟩
  · have e' := R.fr _ _ e
    rw [upd_ne (ne_of_none e' h)]
    exact e'
  · show (W.μ ++ [p]).length = (S ++ [o]).length
    rw [List.length_append, List.length_append, R.len]; rfl
  · show (W.μ ++ [p]).Nodup
    refine List.nodup_append.mpr ⟨R.nd, by simp, fun a ha b hb => ?_⟩
    have : b = p := by simpa using hb
    subst this
    intro q
    exact R.notμ h (q ▸ ha)
  · rcases List.mem_append.mp ha with q | q
    · exact R.off a q
    · have : a = p := by simpa using q
      subst this
      exact R.notF h
  · have e1' : (W.μ ++ [p])[n]? = some a := e1
    by_cases hn : n < W.μ.length
    · rw [List.getElem?_append_left hn] at e1'
      rw [List.getElem?_append_left (by rw [← R.len]; exact hn)] at e2
      obtain ⟨v, h1, h2⟩ := R.obj n a u e1' e2
      exact ⟨v, by rw [upd_ne (ne_of_none h1 h)]; exact h1, h2.mono l⟩
    · have hl : n < (W.μ ++ [p]).length := (List.getElem?_eq_some_iff.mp e1').1
      rw [List.length_append, List.length_singleton] at hl
      have hn' : n = W.μ.length := by omega
      subst hn'
      rw [List.getElem?_append_right (Nat.le_refl _), Nat.sub_self] at e1'
      rw [R.len, List.getElem?_append_right (Nat.le_refl _), Nat.sub_self] at e2
      have a1 : p = a := by simpa using e1'
      have a2 : o = u := by simpa using e2
      subst a1 a2
      exact ⟨ho, upd_same, r⟩
/-- an object of the store is written -/
theorem Rel.put (R : Rel G W S H) {n : Nat} {a : Addr} (hn : W.μ[n]? = some a) {o : O} {ho : HO} (r : RepO G W a o ho) : Rel G W (S.set n o) (upd H a ho) := by
  have hlt : n < W.μ.length := (List.getElem?_eq_some_iff.mp hn).1
  refine ⟨fun b u e => ?_, by rw [List.length_set]; exact R.len, R.nd, R.off, fun m b u e1 e2 => ?_⟩
  · have ne : b ≠ a := fun q => by
      subst q
      rw [R.off b (List.mem_iff_getElem?.mpr ⟨n, hn⟩)] at e
      cases e
    rw [upd_ne ne]
    exact R.fr _ _ e
  · by_cases hm : m = n
    · subst hm
      rw [hn] at e1
      cases e1
      rw [List.getElem?_set_self (by rw [← R.len]; exact hlt)] at e2
      cases e2
      exact ⟨ho, upd_same, r⟩
    · rw [List.getElem?_set_ne (Ne.symm hm)] at e2
      obtain ⟨v, h1, h2⟩ := R.obj m b u e1 e2
      refine ⟨v, ?_, h2⟩
      have ne : b ≠ a := fun q => by
        subst q
        obtain ⟨h3, e3⟩ := List.getElem?_eq_some_iff.mp e1
        obtain ⟨h4, e4⟩ := List.getElem?_eq_some_iff.mp hn
        exact hm ((List.getElem_inj R.nd).mp (e3.trans e4.symm))
      rw [upd_ne ne]
      exact h1
end
end Bp


set_option Elab.async false
set_option linter.all false
set_option maxRecDepth 100000
set_option maxHeartbeats 4000000
/-! Bp1: results, their reading over the layer, expressions. -/
namespace Bp
open PySem L2 PyProof.Rows

def Res.bind {α β : Type} (r : Res α) (f : α → Store → Res β) : Res β := match r with
  | .ok a S => f a S
  | .exc e S => .exc e S
  | .bad => .bad
@[simp] theorem Res.bind_ok {α β : Type} (a : α) (S : Store) (f : α → Store → Res β) : (Res.ok a S).bind f = f a S := rfl
@[simp] theorem Res.bind_exc {α β : Type} (e : Ex) (S : Store) (f : α → Store → Res β) : (Res.exc e S).bind f = .exc e S := rfl
@[simp] theorem Res.bind_bad {α β : Type} (f : α → Store → Res β) : (Res.bad).bind f = .bad := rfl

structure RepX (G : Gs) (W : Wd) (e : Ex) (cls : Value) (d : Option Addr) : Prop where
  c : ∃ C, cls = .ref C ∧ G.mg (G.tn.nm e.c) = some (.ref C)
  h0 : e.ks = [] → d = none
  f : ∃ (dd : Addr) (fvs : List (Str × V)), (e.ks ≠ [] → d = some dd ∧ W.F dd = some (.xd fvs)) ∧ fvs.map (·.1) = e.ks.map G.tn.nm ∧ RepL G W e.vs (fvs.map (·.2))

/-- what a result asks of what follows -/
def Ev {α β : Type} (Rp : Wd → α → β → Prop) (G : Gs) (W : Wd) (r : Res α) (Q : β → Hp → Prop) (E : XK) : Prop := match r with
  | .ok a S => ∀ W' b H', Le W W' → Rel G W' S H' → Rp W' a b → Q b H'
  | .exc e S => ∀ W' cls d H', Le W W' → Rel G W' S H' → RepX G W' e cls d → E cls d H'
  | .bad => False
section
variable {α β γ δ : Type} {Rp : Wd → α → β → Prop} {Rq : Wd → γ → δ → Prop} {G : Gs} {W W' : Wd} {r : Res α} {E : XK}
theorem Ev.mono {Q : β → Hp → Prop} (h : Ev Rp G W r Q E) (l : Le W W') : Ev Rp G W' r Q E := by
  cases r with
  | ok a S => exact fun W2 b H' l2 => h W2 b H' (l.trans l2)
  | exc e S => exact fun W2 c d H' l2 => h W2 c d H' (l.trans l2)
  | bad => exact h
theorem Ev.imp {Q Q' : β → Hp → Prop} (h : Ev Rp G W r Q E) (q : ∀ b H, Q b H → Q' b H) : Ev Rp G W r Q' E := by
  cases r with
  | ok a S => exact fun W2 b H' l2 R2 r2 => q _ _ (h W2 b H' l2 R2 r2)
  | exc e S => exact h
  | bad => exact h
theorem Ev.seq {f : α → Store → Res γ} {Q : δ → Hp → Prop} (h : Ev Rq G W (r.bind f) Q E) :
    Ev Rp G W r (fun b H' => ∃ W' a S', Le W W' ∧ Rel G W' S' H' ∧ Rp W' a b ∧ Ev Rq G W' (f a S') Q E) E := by
  cases r with
  | ok a S => exact fun W2 b H' l2 R2 r2 => ⟨W2, a, S, l2, R2, r2, Ev.mono h l2⟩
  | exc e S => exact h
  | bad => exact h
end

/-- which caught exception is being handled: its place, its address, its class, its own dict -/
abbrev Xh := Option (Addr × Value × Option Addr)
/-- what a context's mirrors lean on: the classes' fields, the exception that is being handled -/
structure Pm where
  tn : Tn
  x : Xh := none
/-- the slots hold what the data say -/
structure RepE (G : Gs) (x : Xh) (W : Wd) (env : Env) (σ : L2.St) : Prop where
  hx : ∀ i, x = some i → G.x = some i
  len : env.length = σ.length
  at_ : ∀ (i : Nat) (d : D), env[i]? = some (some d) → ∃ v, σ[i]? = some (some v) ∧ RepV G W d v
theorem RepE.mono {G : Gs} {x : Xh} {W W' : Wd} {env : Env} {σ : L2.St} (r : RepE G x W env σ) (l : Le W W') : RepE G x W' env σ :=
  ⟨r.hx, r.len, fun i d h => let ⟨v, h1, h2⟩ := r.at_ i d h; ⟨v, h1, h2.mono l⟩⟩
theorem RepE.set {G : Gs} {x : Xh} {W : Wd} {env : Env} {σ : L2.St} (r : RepE G x W env σ) {d : D} {v : V} (rv : RepV G W d v) (i : Nat) : RepE G x W (env.set i (some d)) (σ.set i (some v)) := by
  refine ⟨r.hx, by rw [List.length_set, List.length_set]; exact r.len, fun j e h => ?_⟩
  by_cases hj : i = j
  · subst hj
    have hlt : i < env.length := by
      have := (List.getElem?_eq_some_iff.mp h).1
      rwa [List.length_set] at this
    rw [List.getElem?_set_self hlt] at h
    cases h
    exact ⟨v, List.getElem?_set_self (by rw [← r.len]; exact hlt), rv⟩
  · rw [List.getElem?_set_ne hj] at h
    obtain ⟨u, h1, h2⟩ := r.at_ j e h
    exact ⟨u, by rw [List.getElem?_set_ne hj]; exact h1, h2⟩
theorem RepE.unset {G : Gs} {x : Xh} {W : Wd} {env : Env} {σ : L2.St} (r : RepE G x W env σ) (i : Nat) (o : Option V) : RepE G x W (env.set i none) (σ.set i o) := by
  refine ⟨r.hx, by rw [List.length_set, List.length_set]; exact r.len, fun j e h => ?_⟩
  by_cases hj : i = j
  · subst hj
    have hlt : i < env.length := by
      have := (List.getElem?_eq_some_iff.mp h).1
      rwa [List.length_set] at this
    rw [List.getElem?_set_self hlt] at h
    cases h
  · rw [List.getElem?_set_ne hj] at h
    obtain ⟨u, h1, h2⟩ := r.at_ j e h
    exact ⟨u, by rw [List.getElem?_set_ne hj]; exact h1, h2⟩

/-- the reading of a mirror -/
def Tx {α β : Type} (Rp : Wd → α → β → Prop) (G : Gs) (x : Xh) (Wx : WX) (m : Env → Store → Res α) : L2.St → Hp → (β → Hp → Prop) → Prop :=
  fun σ H Q => ∃ W env S, Rel G W S H ∧ RepE G x W env σ ∧ Ev Rp G W (m env S) Q (fun c d H => Wx c d σ H)
abbrev RpB : Wd → Bool → Bool → Prop := fun _ a b => a = b
abbrev RpO : Wd → Option Int → Option Int → Prop := fun _ a b => a = b
abbrev T (G : Gs) (x : Xh) (Wx : WX) (m : ME) : TE := Tx (RepV G) G x Wx m
abbrev TL (G : Gs) (x : Xh) (Wx : WX) (m : MA) : TA := Tx (RepL G) G x Wx m
abbrev TB (G : Gs) (x : Xh) (Wx : WX) (m : Env → Store → Res Bool) : TT := Tx RpB G x Wx m
/-- the static facts of a context -/
abbrev gx (X : Cx) (fl : Pm) : Gs := ⟨X.K, X.mg, fl.tn, fl.x⟩
section
variable (fl : Pm) (X : Cx) (Wx : WX)
def EX (e : Expr) (m : ME) : Prop := PE X e (T (gx X fl) fl.x Wx m)
def ET (e : Expr) (m : Env → Store → Res Bool) : Prop := PT X e (TB (gx X fl) fl.x Wx m)
def EW (e : Expr) (m : Env → Store → Res Bool) : Prop := PW X e (TB (gx X fl) fl.x Wx m)
end

/-! ### mirrors -/
def mC (d : D) : ME := fun _ S => .ok d S
def mVar (i : Nat) : ME := fun env S => match env[i]? with
  | some (some d) => .ok d S
  | _ => .bad
def mBin (f : D → D → Store → Res D) (ma mb : ME) : ME := fun env S => (ma env S).bind fun a S1 => (mb env S1).bind fun b S2 => f a b S2
def mUn (f : D → Store → Res D) (ma : ME) : ME := fun env S => (ma env S).bind f
def mArgs : List ME → MA
  | [] => fun _ S => .ok [] S
  | m :: ms => fun env S => (m env S).bind fun d S1 => (mArgs ms env S1).bind fun ds S2 => .ok (d :: ds) S2
theorem mArgs_len : ∀ {ms : List ME} {env : Env} {S S' : Store} {ds : List D}, mArgs ms env S = .ok ds S' → ds.length = ms.length
  | [], env, S, S', ds, h => by
    simp only [mArgs, Res.ok.injEq] at h
    rw [← h.1]; rfl
  | m :: ms, env, S, S', ds, h => by
    simp only [mArgs] at h
    cases e : m env S with
    | ok d S1 =>
      rw [e, Res.bind_ok] at h
      cases e2 : mArgs ms env S1 with
      | ok ds' S2 =>
        rw [e2, Res.bind_ok] at h
        simp only [Res.ok.injEq] at h
        rw [← h.1, List.length_cons, List.length_cons, mArgs_len e2]
      | exc _ _ => rw [e2] at h; simp at h
      | bad => rw [e2] at h; simp at h
    | exc _ _ => rw [e] at h; simp at h
    | bad => rw [e] at h; simp at h
def mTup (ms : List ME) : ME := fun env S => (mArgs ms env S).bind fun ds S' => .ok (.tup ds) S'
def mLst (ms : List ME) : ME := fun env S => (mArgs ms env S).bind fun ds S' => .ok (.ref S'.length) (S' ++ [.lst ds])
def mIf (c : Env → Store → Res Bool) (ma mb : ME) : ME := fun env S => (c env S).bind fun k S1 => if k = true then ma env S1 else mb env S1
abbrev MT := Env → Store → Res Bool
def mAnd (a b : MT) : MT := fun env S => (a env S).bind fun k S1 => if k = true then b env S1 else .ok false S1
def mOr (a b : MT) : MT := fun env S => (a env S).bind fun k S1 => if k = true then .ok true S1 else b env S1
def mNot (a : MT) : MT := fun env S => (a env S).bind fun k S1 => .ok (!k) S1
def asB (d : D) (S : Store) : Res Bool := match d with
  | .bl b => .ok b S
  | _ => .bad
def mB (m : ME) : MT := fun env S => (m env S).bind asB
/-- and, or as values where the first is a bool -/
def mAndV (a b : ME) : ME := fun env S => (a env S).bind fun d S1 => match d with
  | .bl true => b env S1
  | .bl false => .ok (.bl false) S1
  | _ => .bad
def mOrV (a b : ME) : ME := fun env S => (a env S).bind fun d S1 => match d with
  | .bl true => .ok (.bl true) S1
  | .bl false => b env S1
  | _ => .bad
def notD (d : D) (S : Store) : Res D := match d with
  | .bl b => .ok (.bl (!b)) S
  | _ => .bad

/-! ### the rules -/
theorem PE.imp {X : Cx} {e : Expr} {t t' : TE} (h : PE X e t) (c : ∀ σ H Q, t' σ H Q → t σ H Q) : PE X e t' := ⟨fun pins s σ H Q I q => h.run pins s σ H Q I (c σ H Q q)⟩
theorem PT.imp {X : Cx} {e : Expr} {t t' : TT} (h : PT X e t) (c : ∀ σ H Q, t' σ H Q → t σ H Q) : PT X e t' := ⟨fun pins s σ H Q I q => h.run pins s σ H Q I (c σ H Q q)⟩
theorem PA.imp {X : Cx} {es : List Expr} {t t' : TA} (h : PA X es t) (c : ∀ σ H Q, t' σ H Q → t σ H Q) : PA X es t' := ⟨fun pos pins s σ H Q I q => h.run pos pins s σ H Q I (c σ H Q q)⟩
section
variable {fl : Pm} {X : Cx} {Wx : WX} {a b c e : Expr} {es rest : List Expr} {ma mb mc me : ME} {ms : List ME} {ta tb : MT} {pos : Pos}
theorem EX.run (h : EX fl X Wx e me) {pins : List (Addr × Obj)} {s : Shared} {σ : L2.St} {H : Hp} {W : Wd} {env : Env} {S : Store} {Q : VK} (I : Inv X pins σ H s) (R : Rel (gx X fl) W S H) (RE : RepE (gx X fl) fl.x W env σ)
    (q : Ev (RepV (gx X fl)) (gx X fl) W (me env S) Q (fun c d H => Wx c d σ H)) : wpAny (model X.prog X.w) X.A (eval e X.env) (EP X pins σ Q) X.xe s := PE.run h pins s σ H Q I ⟨W, env, S, R, RE, q⟩
theorem ex_c {d : D} {v : V} (h : PE X e (tC v)) (r : ∀ W, RepV (gx X fl) W d v) : EX fl X Wx e (mC d) := PE.imp h fun σ H Q ⟨W, env, S, R, RE, q⟩ => q W v H (.refl W) R (r W)
theorem ex_int {i : Int} {j : Nat} : EX fl X Wx (.Constant (.int i) j pos) (mC (.int i)) := ex_c pe_int fun _ => .int i
theorem ex_bl {k : Bool} {j : Nat} : EX fl X Wx (.Constant (.bool k) j pos) (mC (.bl k)) := ex_c pe_bl fun _ => .bl k
theorem ex_non {j : Nat} : EX fl X Wx (.Constant .none j pos) (mC .non) := ex_c pe_non fun _ => .non
theorem ex_str {x : Str} {j : Nat} : EX fl X Wx (.Constant (.str x) j pos) (mC (.str x)) := ex_c pe_str fun _ => .str x
theorem ex_glob {x : Str} {A : Addr} (n : Nat) (hn : fl.tn.nm n = x) (hg : Gl X x) (hm : X.mg x = some (.ref A)) (hd : (x == ("__debug__" : Str)) = false := by decide) : EX fl X Wx (.Name x pos) (mC (.glob n)) := ex_c (pe_glob hg hm (v := .ref A) rfl hd) fun _ => .glob n A (by show X.mg (fl.tn.nm n) = _; rw [hn]; exact hm)
theorem ex_ty {x : Str} {n : String} (hg : Gl X x) (hm : X.mg x = none) (hv : bootBuiltins x = some (.type n)) (hn : x ≠ "__name__" := by decide) (hd : (x == ("__debug__" : Str)) = false := by decide) : EX fl X Wx (.Name x pos) (mC (.ty n)) :=
  ex_c (pe_bltn hg hm hv (v := .ty n) rfl hn hd) fun _ => .ty n
theorem ex_var (i : Nat) {x : Str} (hN : X.N[i]? = some x := by rfl) (hv : Vis X.env.scope x := by first | exact Or.inl rfl | exact Or.inr (Or.inl rfl) | exact Or.inr (Or.inr rfl)) (hd : (x == ("__debug__" : Str)) = false := by decide)
    (hcd : (x == ("__classdict__" : Str)) = false := by decide) : EX fl X Wx (.Name x pos) (mVar i) := by
  refine PE.imp (pe_var hN hv hd hcd) fun σ H Q ⟨W, env, S, R, RE, q⟩ => ?_
  unfold mVar at q
  split at q
  · rename_i d hd'
    obtain ⟨v, h1, h2⟩ := RE.at_ i d hd'
    exact ⟨v, h1, q W v H (.refl W) R h2⟩
  · exact q.elim
/-- a two-place operation -/
def Bin2 (fl : Pm) (X : Cx) (Wx : WX) (f : Value → Value → Sem Value) (g : D → D → Store → Res D) : Prop :=
  ∀ (pins : List (Addr × Obj)) (s : Shared) (σ : L2.St) (H : Hp) (x y : V) (v u : Value) (W : Wd) (a b : D) (S : Store) (Q : VK), Inv X pins σ H s → RelV x v → RelV y u → Rel (gx X fl) W S H → RepV (gx X fl) W a x → RepV (gx X fl) W b y →
    Ev (RepV (gx X fl)) (gx X fl) W (g a b S) Q (fun c d H => Wx c d σ H) → wpAny (model X.prog X.w) X.A (f v u) (EP X pins σ Q) X.xe s
def Un1 (fl : Pm) (X : Cx) (Wx : WX) (f : Value → Sem Value) (g : D → Store → Res D) : Prop :=
  ∀ (pins : List (Addr × Obj)) (s : Shared) (σ : L2.St) (H : Hp) (x : V) (v : Value) (W : Wd) (a : D) (S : Store) (Q : VK), Inv X pins σ H s → RelV x v → Rel (gx X fl) W S H → RepV (gx X fl) W a x →
    Ev (RepV (gx X fl)) (gx X fl) W (g a S) Q (fun c d H => Wx c d σ H) → wpAny (model X.prog X.w) X.A (f v) (EP X pins σ Q) X.xe s
theorem bin_run {f : Value → Value → Sem Value} {g : D → D → Store → Res D} (ho : Bin2 fl X Wx f g) (ha : EX fl X Wx a ma) (hb : EX fl X Wx b mb) {pins : List (Addr × Obj)} {s : Shared} {σ : L2.St} {H : Hp} {W : Wd} {env : Env} {S : Store} {Q : VK} (I : Inv X pins σ H s) (R : Rel (gx X fl) W S H) (RE : RepE (gx X fl) fl.x W env σ)
    (q : Ev (RepV (gx X fl)) (gx X fl) W (mBin g ma mb env S) Q (fun c d H => Wx c d σ H)) :
    wpAny (model X.prog X.w) X.A (eval a X.env) (fun v s₁ => wpAny (model X.prog X.w) X.A (eval b X.env) (fun u s₂ => wpAny (model X.prog X.w) X.A (f v u) (EP X pins σ Q) X.xe s₂) X.xe s₁) X.xe s := by
  refine thn (ha.run I R RE (Ev.seq q)) fun v s1 ⟨x, H1, I1, r1, W1, d1, S1, l1, R1, ra, q1⟩ => ?_
  refine thn (hb.run I1 R1 (RE.mono l1) (Ev.seq q1)) fun u s2 ⟨y, H2, I2, r2, W2, d2, S2, l2, R2, rb, q2⟩ => ?_
  exact ho pins s2 σ H2 x y v u W2 d1 d2 S2 Q I2 r1 r2 R2 (ra.mono l2) rb q2
theorem ex_bin {op : Operator} {g : D → D → Store → Res D} (ho : Bin2 fl X Wx (binaryOp op) g) (ha : EX fl X Wx a ma) (hb : EX fl X Wx b mb) : EX fl X Wx (.BinOp a op b pos) (mBin g ma mb) :=
  ⟨fun pins s σ H Q I ⟨W, env, S, R, RE, q⟩ => wpAny_BinOp (bin_run ho ha hb I R RE q)⟩
theorem ex_cmp {op : CmpOp} {g : D → D → Store → Res D} (ho : Bin2 fl X Wx (compareOp op) g) (ha : EX fl X Wx a ma) (hb : EX fl X Wx b mb) (hm : behindInMarks op b = false) : EX fl X Wx (.Compare a [op] [b] pos) (mBin g ma mb) :=
  ⟨fun pins s σ H Q I ⟨W, env, S, R, RE, q⟩ => wpAny_Compare1 (bin_run ho ha hb I R RE q) hm⟩
theorem asB_ok {G : Gs} {W : Wd} {d : D} {S : Store} {v : V} {H : Hp} {Q : Bool → Hp → Prop} {E : XK} (r : RepV G W d v) (R : Rel G W S H) (q : Ev RpB G W (asB d S) Q E) : ∃ k, v = .bl k ∧ Q k H := by
  cases r with
  | bl b => exact ⟨b, rfl, q W b H (.refl W) R rfl⟩
  | _ => exact (show False from q).elim
theorem et_cmp {op : CmpOp} {g : D → D → Store → Res D} (ho : Bin2 fl X Wx (compareOp op) g) (ha : EX fl X Wx a ma) (hb : EX fl X Wx b mb) (hm : behindInMarks op b = false) : ET fl X Wx (.Compare a [op] [b] pos) (mB (mBin g ma mb)) := by
  refine ⟨fun pins s σ H Q I ⟨W, env, S, R, RE, q⟩ => ?_⟩
  refine wpAny_isTrue_Compare1 (thn (bin_run (Q := fun v H' => ∃ k, v = .bl k ∧ Q k H') ho ha hb I R RE (Ev.imp (Ev.seq q) fun v H' ⟨W', d, S', l, R', r, q'⟩ => asB_ok r R' q')) fun v s1 h1 => thn h1 fun u s2 h2 => thn h2 fun w' s3 h3 => ?_) hm
  obtain ⟨z, H3, I3, r3, k, rfl, q3⟩ := h3
  cases r3
  exact wpAny_truthy_bool ⟨H3, I3, q3⟩
theorem ex_un {op : UnaryOp} {g : D → Store → Res D} (ho : Un1 fl X Wx (unaryOp op) g) (ha : EX fl X Wx a ma) : EX fl X Wx (.UnaryOp op a pos) (mUn g ma) := by
  refine ⟨fun pins s σ H Q I ⟨W, env, S, R, RE, q⟩ => ?_⟩
  exact UnaryOp_ (thn (ha.run I R RE (Ev.seq q)) fun v s1 ⟨x, H1, I1, r1, W1, d1, S1, l1, R1, ra, q1⟩ => ho pins s1 σ H1 x v W1 d1 S1 Q I1 r1 R1 ra q1)
/-- arguments -/
def EA (fl : Pm) (X : Cx) (Wx : WX) (es : List Expr) (ms : List ME) : Prop := PA X es (TL (gx X fl) fl.x Wx (mArgs ms))
theorem ea_nil : EA fl X Wx [] [] := PA.imp pa_nil fun σ H Q ⟨W, env, S, R, RE, q⟩ => q W [] H (.refl W) R .nil
theorem ea_cons (ha : EX fl X Wx e me) (hr : EA fl X Wx es ms) (hs : starEach (e :: es) X.env = (false, eval e X.env) :: starEach es X.env := by rfl) : EA fl X Wx (e :: es) (me :: ms) := by
  refine PA.imp (pa_cons ha hr hs) fun σ H Q ⟨W, env, S, R, RE, q⟩ => ?_
  refine ⟨W, env, S, R, RE, Ev.imp (Ev.seq (show Ev _ _ _ ((me env S).bind _) _ _ from q)) fun v H1 ⟨W1, d, S1, l1, R1, r1, q1⟩ => ?_⟩
  refine ⟨W1, env, S1, R1, RE.mono l1, Ev.imp (Ev.seq q1) fun vs H2 ⟨W2, ds, S2, l2, R2, r2, q2⟩ => ?_⟩
  exact q2 W2 (v :: vs) H2 (.refl W2) R2 (.cons (r1.mono l2) r2)
theorem EA.run (h : EA fl X Wx es ms) {pins : List (Addr × Obj)} {s : Shared} {σ : L2.St} {H : Hp} {W : Wd} {env : Env} {S : Store} {Q : List V → Hp → Prop} (pos : Pos) (I : Inv X pins σ H s) (R : Rel (gx X fl) W S H) (RE : RepE (gx X fl) fl.x W env σ)
    (q : Ev (RepL (gx X fl)) (gx X fl) W (mArgs ms env S) Q (fun c d H => Wx c d σ H)) : wpAny (model X.prog X.w) X.A (spliced (backTo pos (starEach es X.env))) (AP X pins σ Q) X.xe s := PA.run h pos pins s σ H Q I ⟨W, env, S, R, RE, q⟩
theorem Ev.len {G : Gs} {W : Wd} {env : Env} {S : Store} {γ δ : Type} {Rq : Wd → γ → δ → Prop} {f : List D → Store → Res γ} {Q : δ → Hp → Prop} {E : XK} (h : Ev Rq G W ((mArgs ms env S).bind f) Q E) :
    Ev (RepL G) G W (mArgs ms env S) (fun b H' => ∃ W' a S', Le W W' ∧ Rel G W' S' H' ∧ RepL G W' a b ∧ b.length = ms.length ∧ Ev Rq G W' (f a S') Q E) E := by
  cases e : mArgs ms env S with
  | ok a S1 =>
    rw [e] at h
    exact fun W2 b H' l2 R2 r2 => ⟨W2, a, S1, l2, R2, r2, by rw [← r2.length]; exact mArgs_len e, Ev.mono h l2⟩
  | exc x S1 => rw [e] at h; exact h
  | bad => rw [e] at h; exact h
theorem sz1000 {n : Nat} (h : n ≤ 1000) : n ≤ sizeLine := Nat.le_trans h (by rw [sizeLine_eq]; decide)
theorem ex_tup {k : Nat} (ha : EA fl X Wx es ms) (hl : ms.length ≤ 1000 := by decide) : EX fl X Wx (.Tuple es k pos) (mTup ms) := by
  refine PE.imp (pe_tup ha) fun σ H Q ⟨W, env, S, R, RE, q⟩ => ?_
  refine ⟨W, env, S, R, RE, Ev.imp (Ev.len (show Ev _ _ _ ((mArgs ms env S).bind _) _ _ from q)) fun vs H1 ⟨W1, ds, S1, l1, R1, r1, hn, q1⟩ => ?_⟩
  refine ⟨sz1000 (by omega), fun p hp => ?_⟩
  obtain ⟨l2, R2⟩ := R1.fix hp (.tup vs)
  exact q1 _ (.ref p) _ l2 R2 (.tup ds vs p upd_same (r1.mono l2))
theorem ex_lst (ha : EA fl X Wx es ms) (hl : ms.length ≤ 1000 := by decide) : EX fl X Wx (.List es pos) (mLst ms) := by
  refine PE.imp (pe_lst ha) fun σ H Q ⟨W, env, S, R, RE, q⟩ => ?_
  refine ⟨W, env, S, R, RE, Ev.imp (Ev.len (show Ev _ _ _ ((mArgs ms env S).bind _) _ _ from q)) fun vs H1 ⟨W1, ds, S1, l1, R1, r1, hn, q1⟩ => ?_⟩
  refine ⟨sz1000 (by omega), fun p hp => ?_⟩
  have l2 : Le W1 ⟨W1.F, W1.μ ++ [p], W1.xs⟩ := ⟨fun _ _ e => e, List.prefix_append _ _, List.prefix_rfl⟩
  obtain ⟨_, R2⟩ := R1.new hp (o := .lst ds) (ho := .lst vs) (.lst ds vs (r1.mono l2))
  refine q1 _ (.ref p) _ l2 R2 (.ref _ p ?_)
  show (W1.μ ++ [p])[S1.length]? = some p
  rw [← R1.len, List.getElem?_append_right (Nat.le_refl _), Nat.sub_self]
  rfl

/-! ### tests -/
theorem et_not (ha : ET fl X Wx a ta) : ET fl X Wx (.UnaryOp .Not a pos) (mNot ta) := by
  refine PT.imp (pt_not ha) fun σ H Q ⟨W, env, S, R, RE, q⟩ => ?_
  refine ⟨W, env, S, R, RE, Ev.imp (Ev.seq (show Ev _ _ _ ((ta env S).bind _) _ _ from q)) fun k H1 ⟨W1, d, S1, l1, R1, r1, q1⟩ => ?_⟩
  cases r1
  exact q1 W1 _ H1 (.refl W1) R1 rfl
theorem EW.et (h : EW fl X Wx e ta) : ET fl X Wx e ta := ⟨h.run _⟩
theorem PW.imp {e : Expr} {t t' : TT} (h : PW X e t) (c : ∀ σ H Q, t' σ H Q → t σ H Q) : PW X e t' := ⟨fun wh pins s σ H Q I q => h.run wh pins s σ H Q I (c σ H Q q)⟩
theorem ew_and1 (ha : ET fl X Wx a ta) : EW fl X Wx (.BoolOp .And [a] pos) ta := pw_and1 ha
theorem ew_or1 (ha : ET fl X Wx a ta) : EW fl X Wx (.BoolOp .Or [a] pos) ta := pw_or1 ha
theorem ew_and (ha : ET fl X Wx a ta) (hb : EW fl X Wx (.BoolOp .And (b :: rest) pos) tb) : EW fl X Wx (.BoolOp .And (a :: b :: rest) pos) (mAnd ta tb) := by
  refine PW.imp (pw_and ha hb) fun σ H Q ⟨W, env, S, R, RE, q⟩ => ?_
  refine ⟨W, env, S, R, RE, Ev.imp (Ev.seq (show Ev _ _ _ ((ta env S).bind _) _ _ from q)) fun k H1 ⟨W1, d, S1, l1, R1, r1, q1⟩ => ?_⟩
  cases r1
  cases k with
  | true => exact ⟨W1, env, S1, R1, RE.mono l1, q1⟩
  | false => exact q1 W1 _ H1 (.refl W1) R1 rfl
theorem ew_or (ha : ET fl X Wx a ta) (hb : EW fl X Wx (.BoolOp .Or (b :: rest) pos) tb) : EW fl X Wx (.BoolOp .Or (a :: b :: rest) pos) (mOr ta tb) := by
  refine PW.imp (pw_or ha hb) fun σ H Q ⟨W, env, S, R, RE, q⟩ => ?_
  refine ⟨W, env, S, R, RE, Ev.imp (Ev.seq (show Ev _ _ _ ((ta env S).bind _) _ _ from q)) fun k H1 ⟨W1, d, S1, l1, R1, r1, q1⟩ => ?_⟩
  cases r1
  cases k with
  | true => exact q1 W1 _ H1 (.refl W1) R1 rfl
  | false => exact ⟨W1, env, S1, R1, RE.mono l1, q1⟩
/-- a value's truth -/
def truD (d : D) (S : Store) : Res Bool := match d with
  | .non => .ok false S
  | .bl b => .ok b S
  | .int i => .ok (i != 0) S
  | .str x => if x.length ≤ sizeLine then .ok ((x.length : Int) != 0) S else .bad
  | .tup xs => .ok (!xs.isEmpty) S
  | .rl xs => .ok (!xs.isEmpty) S
  | .ref n => match S[n]? with
    | some (.lst xs) => .ok (!xs.isEmpty) S
    | _ => .bad
  | _ => .bad
theorem RepL.isEmpty {G : Gs} {W : Wd} : ∀ {ds : List D} {vs : List V}, RepL G W ds vs → ds.isEmpty = vs.isEmpty
  | _, _, .nil => rfl
  | _, _, .cons _ _ => rfl
theorem truD_ok {W : Wd} {d : D} {S : Store} {v : V} {H : Hp} {Q : Bool → Hp → Prop} {E : XK} {G : Gs} (r : RepV G W d v) (R : Rel G W S H) (q : Ev RpB G W (truD d S) Q E) : ∃ k, TruV G.K v H k ∧ Q k H := by
  cases r with
  | non => exact ⟨false, rfl, q W _ H (.refl W) R rfl⟩
  | bl b => exact ⟨b, rfl, q W _ H (.refl W) R rfl⟩
  | int i => exact ⟨_, rfl, q W _ H (.refl W) R rfl⟩
  | str x =>
    unfold truD at q
    dsimp only at q
    split at q
    · rename_i hz
      exact ⟨_, ⟨hz, rfl⟩, q W _ H (.refl W) R rfl⟩
    · exact q.elim
  | tup xs vs a h rl => exact ⟨_, .inr (.inl ⟨vs, SqT.of (R.fr _ _ h), rfl⟩), by rw [← rl.isEmpty]; exact q W _ H (.refl W) R rfl⟩
  | rl xs vs a h rl => exact ⟨_, .inl ⟨vs, sql_mono R.fr h, rfl⟩, by rw [← rl.isEmpty]; exact q W _ H (.refl W) R rfl⟩
  | ref n a h =>
    unfold truD at q
    dsimp only at q
    split at q
    · rename_i xs hx
      obtain ⟨ho, h1, h2⟩ := R.obj n a _ h hx
      cases h2 with
      | lst _ vs rv => exact ⟨_, .inl ⟨vs, SqL.of h1, rfl⟩, by rw [← rv.isEmpty]; exact q W _ H (.refl W) R rfl⟩
    · exact q.elim
  | _ => exact (show False from q).elim
def mTru (m : ME) : MT := fun env S => (m env S).bind truD
/-- an expression's truth as a test -/
theorem et_val (ha : EX fl X Wx a ma) (he : ∀ whole, isTrue a X.env whole = (do let v ← whole; standAt a.pos; holding [v] (truthy v)) := by intro _; rfl) : ET fl X Wx a (mTru ma) := by
  refine PT.imp (pt_truth ha he) fun σ H Q ⟨W, env, S, R, RE, q⟩ => ?_
  exact ⟨W, env, S, R, RE, Ev.imp (Ev.seq (show Ev _ _ _ ((ma env S).bind _) _ _ from q)) fun v H1 ⟨W1, d, S1, l1, R1, r1, q1⟩ => truD_ok r1 R1 q1⟩
theorem ex_if (hc : ET fl X Wx c ta) (ha : EX fl X Wx a ma) (hb : EX fl X Wx b mb) : EX fl X Wx (.IfExp c a b pos) (mIf ta ma mb) := by
  refine PE.imp (pe_ifExp hc ha hb) fun σ H Q ⟨W, env, S, R, RE, q⟩ => ?_
  refine ⟨W, env, S, R, RE, Ev.imp (Ev.seq (show Ev _ _ _ ((ta env S).bind _) _ _ from q)) fun k H1 ⟨W1, d, S1, l1, R1, r1, q1⟩ => ?_⟩
  cases r1
  cases k with
  | true => exact ⟨W1, env, S1, R1, RE.mono l1, q1⟩
  | false => exact ⟨W1, env, S1, R1, RE.mono l1, q1⟩
/-! ### and, or, not as values -/
theorem ex_one {op : BoolOp} (h : EX fl X Wx a ma) : EX fl X Wx (.BoolOp op [a] pos) ma := pe_one h
theorem ex_and (ha : EX fl X Wx a ma) (hb : EX fl X Wx (.BoolOp .And (b :: rest) pos) mb) : EX fl X Wx (.BoolOp .And (a :: b :: rest) pos) (mAndV ma mb) := by
  refine PE.imp (pe_and ha hb) fun σ H Q ⟨W, env, S, R, RE, q⟩ => ?_
  refine ⟨W, env, S, R, RE, Ev.imp (Ev.seq (show Ev _ _ _ ((ma env S).bind _) _ _ from q)) fun v H1 ⟨W1, d, S1, l1, R1, r1, q1⟩ => ?_⟩
  cases r1 with
  | bl k =>
    refine ⟨k, rfl, ?_⟩
    cases k with
    | true => exact ⟨W1, env, S1, R1, RE.mono l1, q1⟩
    | false => exact q1 W1 _ H1 (.refl W1) R1 (.bl false)
  | _ => exact (show False from q1).elim
theorem ex_or (ha : EX fl X Wx a ma) (hb : EX fl X Wx (.BoolOp .Or (b :: rest) pos) mb) : EX fl X Wx (.BoolOp .Or (a :: b :: rest) pos) (mOrV ma mb) := by
  refine PE.imp (pe_or ha hb) fun σ H Q ⟨W, env, S, R, RE, q⟩ => ?_
  refine ⟨W, env, S, R, RE, Ev.imp (Ev.seq (show Ev _ _ _ ((ma env S).bind _) _ _ from q)) fun v H1 ⟨W1, d, S1, l1, R1, r1, q1⟩ => ?_⟩
  cases r1 with
  | bl k =>
    refine ⟨k, rfl, ?_⟩
    cases k with
    | true => exact q1 W1 _ H1 (.refl W1) R1 (.bl true)
    | false => exact ⟨W1, env, S1, R1, RE.mono l1, q1⟩
  | _ => exact (show False from q1).elim
end
end Bp


set_option Elab.async false
set_option linter.all false
set_option maxRecDepth 100000
set_option maxHeartbeats 4000000
/-! Bp2: statements, loops, defs. -/
namespace Bp
open PySem L2 PyProof.Rows

/-- how a statement ends -/
inductive RS where
  | nx (env : Env) (S : Store) | rt (d : D) (S : Store) | bk (env : Env) (S : Store) | ct (env : Env) (S : Store) | exc (e : Ex) (env : Env) (S : Store) | bad
abbrev MS := Env → Store → RS
def EvS (G : Gs) (x : Xh) (W : Wd) (r : RS) (D : Ends) (Wx : WX) : Prop := match r with
  | .nx env S => ∀ W' σ' H', Le W W' → Rel G W' S H' → RepE G x W' env σ' → D.nx σ' H'
  | .rt d S => ∀ W' v H', Le W W' → Rel G W' S H' → RepV G W' d v → D.rt v H'
  | .bk env S => ∀ W' σ' H', Le W W' → Rel G W' S H' → RepE G x W' env σ' → D.bk σ' H'
  | .ct env S => ∀ W' σ' H', Le W W' → Rel G W' S H' → RepE G x W' env σ' → D.ct σ' H'
  | .exc e env S => ∀ W' cls d σ' H', Le W W' → Rel G W' S H' → RepX G W' e cls d → RepE G x W' env σ' → Wx cls d σ' H'
  | .bad => False
theorem EvS.mono {G : Gs} {x : Xh} {W W' : Wd} {r : RS} {D : Ends} {Wx : WX} (h : EvS G x W r D Wx) (l : Le W W') : EvS G x W' r D Wx := by
  cases r with
  | nx env S => exact fun W2 a b l2 => h W2 a b (l.trans l2)
  | rt env S => exact fun W2 a b l2 => h W2 a b (l.trans l2)
  | bk env S => exact fun W2 a b l2 => h W2 a b (l.trans l2)
  | ct env S => exact fun W2 a b l2 => h W2 a b (l.trans l2)
  | exc e env S => exact fun W2 a b c d l2 => h W2 a b c d (l.trans l2)
  | bad => exact h
def TSm (G : Gs) (x : Xh) (Wx : WX) (m : MS) : TS := fun D σ H => ∃ W env S, Rel G W S H ∧ RepE G x W env σ ∧ EvS G x W (m env S) D Wx
section
variable (fl : Pm) (X : Cx) (Wx : WX)
def ES (st : Stmt) (m : MS) : Prop := PS X st (TSm (gx X fl) fl.x Wx m)
def ESs (st : List Stmt) (m : MS) : Prop := PSs X st (TSm (gx X fl) fl.x Wx m)
end
theorem PS.imp {X : Cx} {st : Stmt} {t t' : TS} (h : PS X st t) (c : ∀ D σ H, t' D σ H → t D σ H) : PS X st t' := ⟨fun pins s σ H D I q => h.run pins s σ H D I (c D σ H q)⟩
theorem PSs.imp {X : Cx} {st : List Stmt} {t t' : TS} (h : PSs X st t) (c : ∀ D σ H, t' D σ H → t D σ H) : PSs X st t' := ⟨fun pins s σ H D I q => h.run pins s σ H D I (c D σ H q)⟩

/-- from an expression's result to a statement's -/
def onR {α : Type} (r : Res α) (env : Env) (f : α → Store → RS) : RS := match r with
  | .ok a S => f a S
  | .exc e S => .exc e env S
  | .bad => .bad
@[simp] theorem onR_ok {α : Type} (a : α) (S : Store) (env : Env) (f : α → Store → RS) : onR (.ok a S) env f = f a S := rfl
@[simp] theorem onR_exc {α : Type} (e : Ex) (S : Store) (env : Env) (f : α → Store → RS) : onR (.exc e S) env f = .exc e env S := rfl
@[simp] theorem onR_bad {α : Type} (env : Env) (f : α → Store → RS) : onR .bad env f = .bad := rfl
theorem EvS.on {α β : Type} {Rp : Wd → α → β → Prop} {G : Gs} {x : Xh} {W : Wd} {r : Res α} {env : Env} {σ : L2.St} {f : α → Store → RS} {D : Ends} {Wx : WX} (RE : RepE G x W env σ) (h : EvS G x W (onR r env f) D Wx) :
    Ev Rp G W r (fun b H' => ∃ W' a S', Le W W' ∧ Rel G W' S' H' ∧ Rp W' a b ∧ EvS G x W' (f a S') D Wx) (fun c d H => Wx c d σ H) := by
  cases r with
  | ok a S => exact fun W2 b H' l2 R2 r2 => ⟨W2, a, S, l2, R2, r2, EvS.mono h l2⟩
  | exc e S => exact fun W2 c d H' l2 R2 r2 => h W2 c d σ H' l2 R2 r2 (RE.mono l2)
  | bad => exact h

def mNext : MS := fun env S => .nx env S
def mSeq (a b : MS) : MS := fun env S => match a env S with
  | .nx env' S' => b env' S'
  | r => r
def mAsg (i : Nat) (m : ME) : MS := fun env S => onR (m env S) env fun d S' => .nx (env.set i (some d)) S'
def mRet (m : ME) : MS := fun env S => onR (m env S) env fun d S' => .rt d S'
def mRetN : MS := fun _ S => .rt .non S
def mDrop (m : ME) : MS := fun env S => onR (m env S) env fun _ S' => .nx env S'
def mIfS (c : MT) (a b : MS) : MS := fun env S => onR (c env S) env fun k S' => if k = true then a env S' else b env S'
def mBrk : MS := fun env S => .bk env S
def mCnt : MS := fun env S => .ct env S
section
variable {fl : Pm} {X : Cx} {Wx : WX} {a b c e : Expr} {es rest : List Expr} {ma mb mc me : ME} {ms : List ME} {ta tb : MT} {pos : Pos} {st : Stmt} {sts sts2 : List Stmt} {m m1 m2 : MS}
theorem es_nil : ESs fl X Wx [] mNext := PSs.imp pss_nil fun D σ H ⟨W, env, S, R, RE, q⟩ => q W σ H (.refl W) R RE
theorem es_cons (h1 : ES fl X Wx st m1) (h2 : ESs fl X Wx sts m2) : ESs fl X Wx (st :: sts) (mSeq m1 m2) := by
  refine PSs.imp (pss_cons h1 h2) fun D σ H ⟨W, env, S, R, RE, q⟩ => ⟨W, env, S, R, RE, ?_⟩
  unfold mSeq at q
  cases e : m1 env S with
  | nx env' S' =>
    rw [e] at q
    exact fun W' σ' H' l R' RE' => ⟨W', env', S', R', RE', EvS.mono q l⟩
  | rt d S' => rw [e] at q; exact q
  | bk env' S' => rw [e] at q; exact q
  | ct env' S' => rw [e] at q; exact q
  | exc x env' S' => rw [e] at q; exact q
  | bad => rw [e] at q; exact q
theorem es_one (h1 : ES fl X Wx st m1) : ESs fl X Wx [st] m1 := pss_one h1
theorem es_pass : ES fl X Wx (.Pass pos) mNext := PS.imp ps_pass fun D σ H ⟨W, env, S, R, RE, q⟩ => q W σ H (.refl W) R RE
theorem es_break : ES fl X Wx (.Break pos) mBrk := PS.imp ps_break fun D σ H ⟨W, env, S, R, RE, q⟩ => q W σ H (.refl W) R RE
theorem es_continue : ES fl X Wx (.Continue pos) mCnt := PS.imp ps_continue fun D σ H ⟨W, env, S, R, RE, q⟩ => q W σ H (.refl W) R RE
theorem es_expr (he : EX fl X Wx e me) (hs : swapsWith e none pos.line X.env = pure false := by rfl) : ES fl X Wx (.Expr e pos) (mDrop me) := by
  refine PS.imp (ps_expr he hs) fun D σ H ⟨W, env, S, R, RE, q⟩ => ⟨W, env, S, R, RE, Ev.imp (EvS.on RE q) fun v H' ⟨W', d, S', l, R', r, q'⟩ => ?_⟩
  exact q' W' σ H' (.refl W') R' (RE.mono l)
theorem es_ret (he : EX fl X Wx e me) : ES fl X Wx (.Return (some e) pos) (mRet me) := by
  refine PS.imp (ps_ret he) fun D σ H ⟨W, env, S, R, RE, q⟩ => ⟨W, env, S, R, RE, Ev.imp (EvS.on RE q) fun v H' ⟨W', d, S', l, R', r, q'⟩ => ?_⟩
  exact q' W' v H' (.refl W') R' r
theorem es_retN : ES fl X Wx (.Return none pos) mRetN := PS.imp ps_retN fun D σ H ⟨W, env, S, R, RE, q⟩ => q W .non H (.refl W) R .non
theorem es_if (hc : ET fl X Wx c ta) (ha : ESs fl X Wx sts m1) (hb : ESs fl X Wx sts2 m2) : ES fl X Wx (.If c sts sts2 pos) (mIfS ta m1 m2) := by
  refine PS.imp (ps_if hc ha hb) fun D σ H ⟨W, env, S, R, RE, q⟩ => ⟨W, env, S, R, RE, Ev.imp (EvS.on RE q) fun k H' ⟨W', d, S', l, R', r, q'⟩ => ?_⟩
  cases r
  cases k with
  | true => exact ⟨W', env, S', R', RE.mono l, q'⟩
  | false => exact ⟨W', env, S', R', RE.mono l, q'⟩
/-! ### targets -/
abbrev MG := D → Env → Store → RS
/-- a target: what it does is to go on or to raise -/
def EG (fl : Pm) (X : Cx) (Wx : WX) (tg : Expr) (g : MG) : Prop :=
  ∀ (pins : List (Addr × Obj)) (s : Shared) (σ : L2.St) (H : Hp) (v : V) (u : Value) (W : Wd) (d : D) (env : Env) (S : Store) (Q : L2.St → Hp → Prop), Inv X pins σ H s → RelV v u → Rel (gx X fl) W S H → RepE (gx X fl) fl.x W env σ → RepV (gx X fl) W d v →
    EvS (gx X fl) fl.x W (g d env S) { nx := Q, rt := fun _ _ => False } Wx → wpAny (model X.prog X.w) X.A (assign tg X.env u) (fun _ s' => ∃ σ' H', Inv X pins σ' H' s' ∧ Q σ' H') X.xe s
def gNm (i : Nat) : MG := fun d env S => .nx (env.set i (some d)) S
theorem eg_name {i : Nat} {x : Str} (hN : X.N.Nodup) (hi : X.N[i]? = some x) (hx : Loc X.env.scope x) (hf : X.fn x = true ∨ X.env.scope.names.lookup x = some .local := by first | exact .inl rfl | exact .inr rfl | assumption) : EG fl X Wx (.Name x pos) (gNm i) := by
  intro pins s σ H v u W d env S Q I ru R RE rd q
  exact (pg_name hN hi hx hf).run pins s σ H v u Q I ru (q W _ H (.refl W) R (RE.set rd i))
def gTp : List MG → List D → Env → Store → RS
  | [], [], env, S => .nx env S
  | g :: gs, d :: ds, env, S => match g d env S with
    | .nx env' S' => gTp gs ds env' S'
    | r => r
  | _, _, _, _ => .bad
def gTup (gs : List MG) : MG := fun d env S => match d with
  | .tup ds => if ds.length = gs.length then gTp gs ds env S else .bad
  | _ => .bad
def EGs (fl : Pm) (X : Cx) (Wx : WX) (ts : List Expr) (g : List MG) : Prop :=
  ∀ (pins : List (Addr × Obj)) (s : Shared) (σ : L2.St) (H : Hp) (vs : List V) (us : List Value) (W : Wd) (ds : List D) (env : Env) (S : Store) (Q : L2.St → Hp → Prop), Inv X pins σ H s → Vals vs us → Rel (gx X fl) W S H → RepE (gx X fl) fl.x W env σ → RepL (gx X fl) W ds vs →
    EvS (gx X fl) fl.x W (gTp g ds env S) { nx := Q, rt := fun _ _ => False } Wx → wpAny (model X.prog X.w) X.A (assignInOrder ((assignEach ts X.env).map (·.2)) us) (fun _ s' => ∃ σ' H', Inv X pins σ' H' s' ∧ Q σ' H') X.xe s
theorem egs_nil : EGs fl X Wx [] [] := by
  intro pins s σ H vs us W ds env S Q I ru R RE rd q
  cases rd with
  | nil =>
    cases ru
    exact assignInOrder_nil ⟨σ, H, I, q W σ H (.refl W) R RE⟩
  | cons _ _ => exact (show False from q).elim
theorem egs_cons {g : MG} {gs : List MG} (h1 : EG fl X Wx e g) (h2 : EGs fl X Wx es gs)
    (hs : (assignEach (e :: es) X.env).map (·.2) = assign e X.env :: (assignEach es X.env).map (·.2) := by rfl) : EGs fl X Wx (e :: es) (g :: gs) := by
  intro pins s σ H vs us W ds env S Q I ru R RE rd q
  cases rd with
  | nil => exact (show False from q).elim
  | cons r1 rr =>
    cases ru with
    | cons u1 ur =>
      rename_i d v ds vs u us
      rw [hs]
      have q2 : EvS (gx X fl) fl.x W (g d env S) { nx := fun σ' H' => ∃ W' env' S', Le W W' ∧ Rel (gx X fl) W' S' H' ∧ RepE (gx X fl) fl.x W' env' σ' ∧ EvS (gx X fl) fl.x W' (gTp gs ds env' S') { nx := Q, rt := fun _ _ => False } Wx, rt := fun _ _ => False } Wx := by
        have q' : EvS (gx X fl) fl.x W (match g d env S with | .nx env' S' => gTp gs ds env' S' | r => r) { nx := Q, rt := fun _ _ => False } Wx := q
        cases e1 : g d env S with
        | nx env' S' =>
          rw [e1] at q'
          exact fun W' σ' H' l R' RE' => ⟨W', env', S', l, R', RE', EvS.mono q' l⟩
        | rt _ _ => rw [e1] at q'; exact q'
        | bk _ _ => rw [e1] at q'; exact q'
        | ct _ _ => rw [e1] at q'; exact q'
        | exc _ _ _ => rw [e1] at q'; exact q'
        | bad => rw [e1] at q'; exact q'
      refine assignInOrder_cons (thn (h1 pins s σ H v u W d env S _ I u1 R RE r1 q2) fun _ s1 ⟨σ1, H1, I1, W1, env1, S1, l1, R1, RE1, q1⟩ => ?_)
      exact h2 pins s1 σ1 H1 vs us W1 ds env1 S1 Q I1 ur R1 RE1 (rr.mono l1) q1
theorem eg_tup {gs : List MG} {k : Nat} (hc : X.calm = true) (h : EGs fl X Wx es gs) (hlen : es.length = gs.length := by rfl)
    (hn : (assignEach es X.env).length = es.length := by rfl) (hst : (assignEach es X.env).findIdx? (·.1) = none := by rfl) : EG fl X Wx (.Tuple es k pos) (gTup gs) := by
  intro pins s σ H v u W d env S Q I ru R RE rd q
  cases rd with
  | tup xs vs A hA rl =>
    cases ru
    have hq : SqT X.K H A vs := SqT.of (R.fr _ _ hA)
    obtain ⟨its, rv, ht, hz⟩ := I.tuple hq
    have hl : xs.length = gs.length := by
      by_cases hl : xs.length = gs.length
      · exact hl
      · exact (show False by unfold gTup at q; dsimp only at q; rw [if_neg hl] at q; exact q).elim
    have q' : EvS (gx X fl) fl.x W (gTp gs xs env S) { nx := Q, rt := fun _ _ => False } Wx := by
      unfold gTup at q; dsimp only at q; rw [if_pos hl] at q; exact q
    refine assign_Tuple_tuple (I.ok.hd hc) ht (by rw [hn, hlen, ← hl, rl.length, rv.length]; simp) hst fun h' hx => ?_
    have I1 : Inv X pins σ H { s with heap := h' } := I.kept (t' := s.toks) fun b o e => hx b o (Nat.ne_of_lt (Heap.lt_size e)) e
    exact h pins _ σ H vs _ W xs env S Q I1 (by simpa using rv) R RE rl q'
  | _ => exact (show False from q).elim
def mAsgG (g : MG) (m : ME) : MS := fun env S => onR (m env S) env fun d S' => g d env S'
theorem es_set {i : Nat} {x : Str} {pos' : Pos} (hN : X.N.Nodup) (hi : X.N[i]? = some x) (hx : Loc X.env.scope x) (he : EX fl X Wx e me) (hs : swapsWith e (some (.Name x pos')) pos.line X.env = pure false := by rfl) (hf : X.fn x = true ∨ X.env.scope.names.lookup x = some .local := by first | exact .inl rfl | exact .inr rfl | assumption) :
    ES fl X Wx (.Assign [.Name x pos'] e pos) (mAsg i me) := by
  refine PS.imp (ps_set hN hi hx he hs hf) fun D σ H ⟨W, env, S, R, RE, q⟩ => ⟨W, env, S, R, RE, Ev.imp (EvS.on RE q) fun v H' ⟨W', d, S', l, R', r, q'⟩ => ?_⟩
  exact q' W' _ H' (.refl W') R' ((RE.mono l).set r i)
/-- an end that gives no return, no break -/
theorem EvS.nxonly {G : Gs} {x : Xh} {W : Wd} {r : RS} {D D' : Ends} {Wx : WX} (h : EvS G x W r D' Wx) (hn : ∀ σ H, D'.nx σ H → D.nx σ H) (hr : ∀ v H, D'.rt v H → D.rt v H) (hb : ∀ σ H, D'.bk σ H → D.bk σ H) (hc : ∀ σ H, D'.ct σ H → D.ct σ H) : EvS G x W r D Wx := by
  cases r with
  | nx env S => exact fun W' σ' H' l R RE => hn _ _ (h W' σ' H' l R RE)
  | rt d S => exact fun W' v H' l R r => hr _ _ (h W' v H' l R r)
  | bk env S => exact fun W' σ' H' l R RE => hb _ _ (h W' σ' H' l R RE)
  | ct env S => exact fun W' σ' H' l R RE => hc _ _ (h W' σ' H' l R RE)
  | exc e env S => exact h
  | bad => exact h
/-- a target's mirror never returns or breaks -/
def RS.pl : RS → Prop
  | .rt _ _ => False
  | .bk _ _ => False
  | .ct _ _ => False
  | _ => True
def Plain (g : MG) : Prop := ∀ d env S, (g d env S).pl
theorem plain_nm (i : Nat) : Plain (gNm i) := fun _ _ _ => trivial
theorem plain_tp {gs : List MG} (h : ∀ g ∈ gs, Plain g) : ∀ ds env S, (gTp gs ds env S).pl := by
  induction gs with
  | nil => intro ds env S; cases ds <;> exact trivial
  | cons g gs ih =>
    intro ds env S
    cases ds with
    | nil => exact trivial
    | cons d ds =>
      have h1 := h g (by simp) d env S
      show (match g d env S with | .nx env' S' => gTp gs ds env' S' | r => r).pl
      cases e : g d env S with
      | nx env' S' => exact ih (fun g' hg => h g' (by simp [hg])) ds env' S'
      | rt _ _ => rw [e] at h1; exact h1
      | bk _ _ => rw [e] at h1; exact h1
      | ct _ _ => rw [e] at h1; exact h1
      | exc _ _ _ => exact trivial
      | bad => exact trivial
theorem plain_tup {gs : List MG} (h : ∀ g ∈ gs, Plain g) : Plain (gTup gs) := fun d env S => by
  cases d with
  | tup ds =>
    show (if ds.length = gs.length then gTp gs ds env S else .bad).pl
    split
    · exact plain_tp h ds env S
    · exact trivial
  | _ => exact trivial
theorem EvS.plain {G : Gs} {x : Xh} {W : Wd} {g : MG} {d : D} {env : Env} {S : Store} {D' : Ends} {Q : L2.St → Hp → Prop} {Wx : WX} (p : Plain g) (h : EvS G x W (g d env S) D' Wx) (hn : ∀ σ H, D'.nx σ H → Q σ H) : EvS G x W (g d env S) { nx := Q, rt := fun _ _ => False } Wx := by
  have p' := p d env S
  cases e : g d env S with
  | nx env' S' => rw [e] at h; exact fun W' σ' H' l R RE => hn _ _ (h W' σ' H' l R RE)
  | rt _ _ => rw [e] at p'; exact p'.elim
  | bk _ _ => rw [e] at p'; exact p'.elim
  | ct _ _ => rw [e] at p'; exact p'.elim
  | exc _ _ _ => rw [e] at h; exact h
  | bad => rw [e] at h; exact h
theorem es_asg {tg : Expr} {g : MG} (he : EX fl X Wx e me) (hg : EG fl X Wx tg g) (hp : Plain g) (hs : swapsWithSole [tg] e pos.line X.env = pure false := by rfl) (hw : swappedStores [tg] e X.env = pure none := by rfl)
    (h1 : (assignEach [tg] X.env).map (·.2) = [assign tg X.env] := by rfl) : ES fl X Wx (.Assign [tg] e pos) (mAsgG g me) := by
  refine ⟨fun pins s σ H D I ⟨W, env, S, R, RE, q⟩ => ?_⟩
  refine wpAny_Assign_stores (thn (he.run I R RE (EvS.on RE q)) fun v s1 ⟨x, H1, I1, r1, W1, d, S1, l1, R1, rd, q1⟩ => ?_) hs hw
  rw [h1]
  exact thn (hg pins s1 σ H1 x v W1 d env S1 D.nx I1 r1 R1 (RE.mono l1) rd (EvS.plain hp q1 fun _ _ h => h)) fun _ s2 q2 => q2
/-! ### while -/
def whileF (c : MT) (body : MS) : Nat → Env → Store → RS
  | 0, _, _ => .bad
  | n + 1, env, S => onR (c env S) env fun k S1 => if k = true then (match body env S1 with
      | .nx env2 S2 => whileF c body n env2 S2
      | .ct env2 S2 => whileF c body n env2 S2
      | .bk env2 S2 => .nx env2 S2
      | r => r) else .nx env S1
def mWhile (fuel : Env → Store → Nat) (c : MT) (body : MS) : MS := fun env S => whileF c body (fuel env S) env S
theorem es_while {body : List Stmt} {mb : MS} (fuel : Env → Store → Nat) (hp : PassesOwn (model X.prog X.w) X.A X.env X.xe) (hc : ET fl X Wx c ta) (hb : ESs fl X Wx body mb) : ES fl X Wx (.While c body [] pos) (mWhile fuel ta mb) := by
  refine PS.imp (ps_while hp hc hb) fun D σ H ⟨W, env, S, R, RE, q⟩ => ?_
  refine ⟨fun n σ H => ∃ W env S, Rel (gx X fl) W S H ∧ RepE (gx X fl) fl.x W env σ ∧ EvS (gx X fl) fl.x W (whileF ta mb n env S) D Wx, ⟨_, W, env, S, R, RE, q⟩, ?_⟩
  rintro n σ H ⟨W, env, S, R, RE, q⟩
  cases n with
  | zero => exact (show False from q).elim
  | succ n =>
    refine ⟨W, env, S, R, RE, Ev.imp (EvS.on RE (show EvS _ _ _ (onR (ta env S) env _) _ _ from q)) fun k H' ⟨W', d, S', l, R', r, q'⟩ => ?_⟩
    cases r
    cases k with
    | false =>
      rw [if_neg Bool.false_ne_true] at q' ⊢
      exact q' W' σ H' (.refl W') R' (RE.mono l)
    | true =>
      rw [if_pos rfl] at q' ⊢
      refine ⟨fun σ' H' => ∃ W env S, Rel (gx X fl) W S H' ∧ RepE (gx X fl) fl.x W env σ' ∧ EvS (gx X fl) fl.x W (whileF ta mb n env S) D Wx, fun σ' H' h => ⟨n, Nat.lt_succ_self n, h⟩, W', env, S', R', RE.mono l, ?_⟩
      cases e : mb env S' with
      | nx env2 S2 => rw [e] at q'; exact fun W2 σ2 H2 l2 R2 RE2 => ⟨W2, env2, S2, R2, RE2, EvS.mono q' l2⟩
      | ct env2 S2 => rw [e] at q'; exact fun W2 σ2 H2 l2 R2 RE2 => ⟨W2, env2, S2, R2, RE2, EvS.mono q' l2⟩
      | bk env2 S2 => rw [e] at q'; exact q'
      | rt _ _ => rw [e] at q'; exact q'
      | exc _ _ _ => rw [e] at q'; exact q'
      | bad => rw [e] at q'; exact q'
/-! ### for -/
/-- over items that are known ahead -/
def forL (g : MG) (body : MS) : List D → Env → Store → RS
  | [], env, S => .nx env S
  | d :: ds, env, S => match g d env S with
    | .nx env1 S1 => (match body env1 S1 with
      | .nx env2 S2 => forL g body ds env2 S2
      | .ct env2 S2 => forL g body ds env2 S2
      | .bk env2 S2 => .nx env2 S2
      | r => r)
    | r => r
/-- over a list of the store, as it stands at each turn -/
def forS (g : MG) (body : MS) (n : Nat) : Nat → Nat → Env → Store → RS
  | 0, i, env, S => (match S[n]? with
    | some (.lst xs) => if xs.length ≤ i then .nx env S else .bad
    | _ => .bad)
  | k + 1, i, env, S => match S[n]? with
    | some (.lst xs) => (match xs[i]? with
      | some d => (match g d env S with
        | .nx env1 S1 => (match body env1 S1 with
          | .nx env2 S2 => forS g body n k (i + 1) env2 S2
          | .ct env2 S2 => forS g body n k (i + 1) env2 S2
          | .bk env2 S2 => .nx env2 S2
          | r => r)
        | r => r)
      | none => .nx env S)
    | _ => .bad
/-- what a for walks: items known ahead, or a list of the store -/
inductive Wk where
  | items (xs : List D) | at_ (n : Nat)
def mForW (g : MG) (body : MS) (w : Wk) : MS := fun env S => match w with
  | .items xs => forL g body xs env S
  | .at_ n => (match S[n]? with
    | some (.lst xs) => forS g body n xs.length 0 env S
    | _ => .bad)
def mFor (it : Env → Store → Res Wk) (g : MG) (body : MS) : MS := fun env S => onR (it env S) env fun w S' => mForW g body w env S'
/-- an iterable: how the layer's iterator stands for it -/
def RepI (G : Gs) (W : Wd) : Wk → It → Prop
  | .items xs, J => ∀ (i : Nat) (W' : Wd) (S' : Store) (H' : Hp), Le W W' → Rel G W' S' H' → (∀ d, xs[i]? = some d → J.go i H' ∧ ∀ v H2, J.yld i H' v H2 → ∃ W2, Le W' W2 ∧ Rel G W2 S' H2 ∧ RepV G W2 d v) ∧ (xs[i]? = none → J.stop i H')
  | .at_ n, J => ∃ a, W.μ[n]? = some a ∧ J = Itl G.K a
/-- an iterable's rule -/
def EI (fl : Pm) (X : Cx) (Wx : WX) (tg iter : Expr) (it : Env → Store → Res Wk) : Prop :=
  PI X tg iter (fun σ H R => ∃ W env S, Rel (gx X fl) W S H ∧ RepE (gx X fl) fl.x W env σ ∧ Ev (fun W w J => RepI (gx X fl) W w J) (gx X fl) W (it env S) (fun J H' => R J H') (fun c d H => Wx c d σ H))
theorem es_for {tg iter : Expr} {it : Env → Store → Res Wk} {g : MG} {body : List Stmt} {mb : MS} (hp : PassesOwn (model X.prog X.w) X.A X.env X.xe) (hc : X.calm = true) (hi : EI fl X Wx tg iter it) (hg : EG fl X Wx tg g) (hpl : Plain g) (hb : ESs fl X Wx body mb)
    (hs : ∀ x, foldedSetIterable iter X.env x = pure x := by intro _; rfl) : ES fl X Wx (.For tg iter body [] pos) (mFor it g mb) := by
  let tg0 : TG := fun v σ H Q => ∃ W d env S, Rel (gx X fl) W S H ∧ RepE (gx X fl) fl.x W env σ ∧ RepV (gx X fl) W d v ∧ EvS (gx X fl) fl.x W (g d env S) { nx := Q, rt := fun _ _ => False } Wx
  have hg' : PG X tg tg0 := ⟨fun pins s σ H v u Q I ru ⟨W, d, env, S, R, RE, rd, q⟩ => hg pins s σ H v u W d env S Q I ru R RE rd q⟩
  refine PS.imp (ps_for hp hc hi hg' hb hs) fun D σ H ⟨W, env, S, R, RE, q⟩ => ?_
  refine ⟨W, env, S, R, RE, Ev.imp (EvS.on RE q) fun J H1 ⟨W1, w, S1, l1, R1, r1, q1⟩ => ?_⟩
  have RE1 := RE.mono l1
  -- one turn, once the item is known
  have turn : ∀ (W : Wd) (d : Bp.D) (env : Env) (S : Store) (σ : L2.St) (H : Hp) (v : V) (N : L2.St → Hp → Prop) (k : Env → Store → RS), Rel (gx X fl) W S H → RepE (gx X fl) fl.x W env σ → RepV (gx X fl) W d v →
      EvS (gx X fl) fl.x W (match g d env S with
        | .nx env1 S1 => (match mb env1 S1 with
          | .nx env2 S2 => k env2 S2
          | .ct env2 S2 => k env2 S2
          | .bk env2 S2 => .nx env2 S2
          | r => r)
        | r => r) D Wx → (∀ W' env' S' σ' H', Le W W' → Rel (gx X fl) W' S' H' → RepE (gx X fl) fl.x W' env' σ' → EvS (gx X fl) fl.x W' (k env' S') D Wx → N σ' H') →
      tg0 v σ H fun σ2 H2 => TSm (gx X fl) fl.x Wx mb { D with nx := N, ct := N, bk := D.nx } σ2 H2 := by
    intro W d env S σ H v N k R RE rd q hN
    refine ⟨W, d, env, S, R, RE, rd, ?_⟩
    have p' := hpl d env S
    cases e : g d env S with
    | nx env1 S1 =>
      rw [e] at q
      dsimp only at q
      intro W2 σ2 H2 l2 R2 RE2
      refine ⟨W2, env1, S1, R2, RE2, ?_⟩
      cases e2 : mb env1 S1 with
      | nx env2 S2 =>
        rw [e2] at q
        exact fun W3 σ3 H3 l3 R3 RE3 => hN W3 env2 S2 σ3 H3 (l2.trans l3) R3 RE3 (EvS.mono q (l2.trans l3))
      | ct env2 S2 =>
        rw [e2] at q
        exact fun W3 σ3 H3 l3 R3 RE3 => hN W3 env2 S2 σ3 H3 (l2.trans l3) R3 RE3 (EvS.mono q (l2.trans l3))
      | bk env2 S2 => rw [e2] at q; exact EvS.mono (x := fl.x) (D := D) (r := .nx env2 S2) q l2
      | rt x S2 => rw [e2] at q; exact EvS.mono (x := fl.x) (D := D) (r := .rt x S2) q l2
      | exc x en S2 => rw [e2] at q; exact EvS.mono (x := fl.x) (D := D) (r := .exc x en S2) q l2
      | bad => rw [e2] at q; exact q
    | rt _ _ => rw [e] at p'; exact p'.elim
    | bk _ _ => rw [e] at p'; exact p'.elim
    | ct _ _ => rw [e] at p'; exact p'.elim
    | exc _ _ _ => rw [e] at q; exact q
    | bad => rw [e] at q; exact q
  cases w with
  | items xs =>
    refine ⟨fun i m σ H => m = xs.length - i ∧ i ≤ xs.length ∧ ∃ W env S, Le W1 W ∧ Rel (gx X fl) W S H ∧ RepE (gx X fl) fl.x W env σ ∧ EvS (gx X fl) fl.x W (forL g mb (xs.drop i) env S) D Wx, ⟨xs.length, by simp, Nat.zero_le _, W1, env, S1, .refl W1, R1, RE1, by rw [List.drop_zero]; exact q1⟩, ?_⟩
    rintro i m σ H ⟨rfl, hi, W2, env2, S2, l2, R2, RE2, q2⟩
    obtain ⟨hgo, hstop⟩ := r1 i W2 S2 H l2 R2
    cases e : xs[i]? with
    | none =>
      have hd : xs.drop i = [] := List.drop_of_length_le (List.getElem?_eq_none_iff.mp e)
      rw [hd] at q2
      exact .inl ⟨hstop e, q2 W2 σ H (.refl W2) R2 RE2⟩
    | some d =>
      obtain ⟨hlt, e'⟩ := List.getElem?_eq_some_iff.mp e
      have hd : xs.drop i = d :: xs.drop (i + 1) := by rw [List.drop_eq_getElem_cons hlt, e']
      rw [hd] at q2
      obtain ⟨go, yl⟩ := hgo d e
      refine .inr ⟨go, fun σ' H' => ∃ W env S, Le W1 W ∧ Rel (gx X fl) W S H' ∧ RepE (gx X fl) fl.x W env σ' ∧ EvS (gx X fl) fl.x W (forL g mb (xs.drop (i + 1)) env S) D Wx, fun σ' H' h => ⟨xs.length - (i + 1), by omega, rfl, hlt, h⟩, fun v H' y => ?_⟩
      obtain ⟨W3, l3, R3, r3⟩ := yl v H' y
      exact turn W3 d env2 S2 σ H' v _ (fun en st => forL g mb (xs.drop (i + 1)) en st) R3 (RE2.mono l3) r3 (EvS.mono q2 l3) fun W' env' S' σ' H' l R RE q => ⟨W', env', S', l2.trans (l3.trans l), R, RE, q⟩
  | at_ n =>
    obtain ⟨A, hA, rfl⟩ := r1
    have q1' : EvS (gx X fl) fl.x W1 (match S1[n]? with
      | some (.lst xs) => forS g mb n xs.length 0 env S1
      | _ => .bad) D Wx := q1
    split at q1'
    · rename_i xs0 hx0
      refine ⟨fun i m σ H => ∃ W env S, Le W1 W ∧ Rel (gx X fl) W S H ∧ RepE (gx X fl) fl.x W env σ ∧ EvS (gx X fl) fl.x W (forS g mb n m i env S) D Wx, ⟨_, W1, env, S1, .refl W1, R1, RE1, q1'⟩, ?_⟩
      rintro i m σ H ⟨W2, env2, S2, l2, R2, RE2, q2⟩
      have hA2 := l2.at hA
      cases m with
      | zero =>
        unfold forS at q2
        split at q2
        · rename_i xs hx
          split at q2
          · rename_i hle
            obtain ⟨ho, h1, h2⟩ := R2.obj n A _ hA2 hx
            cases h2 with
            | lst _ vs rv => exact .inl ⟨⟨vs, SqL.of h1, by rw [← rv.length]; exact hle⟩, q2 W2 σ H (.refl W2) R2 RE2⟩
          · exact q2.elim
        · exact q2.elim
      | succ m =>
        unfold forS at q2
        split at q2
        · rename_i xs hx
          obtain ⟨ho, h1, h2⟩ := R2.obj n A _ hA2 hx
          cases h2 with
          | lst _ vs rv =>
            split at q2
            · rename_i d hd
              obtain ⟨v, hv, rdv⟩ := rv.get hd
              refine .inr ⟨⟨vs, v, SqL.of h1, hv⟩, fun σ' H' => ∃ W env S, Le W1 W ∧ Rel (gx X fl) W S H' ∧ RepE (gx X fl) fl.x W env σ' ∧ EvS (gx X fl) fl.x W (forS g mb n m (i + 1) env S) D Wx, fun σ' H' h => ⟨m, Nat.lt_succ_self m, h⟩, fun v' H' y => ?_⟩
              obtain ⟨rfl, y⟩ := y
              have : vs[i]? = some v' := y vs (SqL.of h1)
              rw [hv] at this
              cases this
              exact turn W2 d env2 S2 σ _ v _ (fun en st => forS g mb n m (i + 1) en st) R2 RE2 rdv q2 fun W' env' S' σ' H' l R RE q => ⟨W', env', S', l2.trans l, R, RE, q⟩
            · rename_i hd
              have hle : xs.length ≤ i := List.getElem?_eq_none_iff.mp hd
              exact .inl ⟨⟨vs, SqL.of h1, by rw [← rv.length]; exact hle⟩, q2 W2 σ H (.refl W2) R2 RE2⟩
        · exact q2.elim
    · exact q1'.elim
/-! ### what is walked -/
def rangeD (lo : Int) (n : Nat) : List D := (List.range n).map fun i => .int (lo + (i : Nat))
def itR1 (ds : List D) (S : Store) : Res Wk := match ds with
  | [.int j] => if -(2 ^ 62) ≤ j ∧ j < 2 ^ 62 then .ok (.items (rangeD 0 j.toNat)) S else .bad
  | _ => .bad
def itR2 (ds : List D) (S : Store) : Res Wk := match ds with
  | [.int i, .int j] => if -(2 ^ 62) ≤ i ∧ i < 2 ^ 62 ∧ -(2 ^ 62) ≤ j ∧ j < 2 ^ 62 then .ok (.items (rangeD i (j - i).toNat)) S else .bad
  | _ => .bad
def iRange1 (m : ME) : Env → Store → Res Wk := fun env S => (mArgs [m] env S).bind itR1
def iRange2 (m1 m2 : ME) : Env → Store → Res Wk := fun env S => (mArgs [m1, m2] env S).bind itR2
theorem rangeD_at (lo : Int) (n i : Nat) : (rangeD lo n)[i]? = if i < n then some (.int (lo + (i : Nat))) else none := by
  unfold rangeD
  rw [List.getElem?_map]
  by_cases h : i < n
  · rw [List.getElem?_range h, if_pos h]; rfl
  · rw [if_neg h, List.getElem?_eq_none_iff.mpr (by simp; omega)]; rfl
theorem repI_range {G : Gs} {W : Wd} (lo : Int) (n : Nat) : RepI G W (.items (rangeD lo n)) (Itr lo n) := by
  intro i W' S' H' l R
  rw [rangeD_at]
  refine ⟨fun d hd => ?_, fun hd => ?_⟩
  · split at hd
    · rename_i hlt
      refine ⟨hlt, fun v H2 y => ?_⟩
      obtain ⟨rfl, rfl⟩ := y
      cases hd
      exact ⟨W', .refl W', R, .int _⟩
    · cases hd
  · split at hd
    · cases hd
    · rename_i hlt
      show n ≤ i
      omega
theorem ei_range1 {tg : Expr} {p : Pos} (hg : Gl X "range") (hm : X.mg "range" = none) (ha : EA fl X Wx [a] [ma]) (hs : starEach [a] X.env = [(false, eval a X.env)] := by rfl) : EI fl X Wx tg (.Call (.Name "range" p) [a] [] pos) (iRange1 ma) := by
  refine ⟨fun pins s σ H R I h => (pi_range1 hg hm ha hs).run pins s σ H R I ?_⟩
  obtain ⟨W, env, S, RR, RE, q⟩ := h
  refine ⟨W, env, S, RR, RE, Ev.imp (Ev.seq (show Ev _ _ _ ((mArgs [ma] env S).bind _) _ _ from q)) fun vs H1 ⟨W1, ds, S1, l1, R1, r1, q1⟩ => ?_⟩
  unfold itR1 at q1
  split at q1
  · split at q1
    · rename_i j hj
      cases r1 with
      | cons r rr =>
        cases rr
        cases r
        exact ⟨j, rfl, hj.1, hj.2, q1 W1 _ H1 (.refl W1) R1 (repI_range 0 j.toNat)⟩
    · exact q1.elim
  · exact q1.elim
theorem ei_range2 {tg : Expr} {p : Pos} (hg : Gl X "range") (hm : X.mg "range" = none) (ha : EA fl X Wx [a, b] [ma, mb]) (hs : starEach [a, b] X.env = [(false, eval a X.env), (false, eval b X.env)] := by rfl) (hs2 : starEach [b] X.env = [(false, eval b X.env)] := by rfl) :
    EI fl X Wx tg (.Call (.Name "range" p) [a, b] [] pos) (iRange2 ma mb) := by
  refine ⟨fun pins s σ H R I h => (pi_range2 hg hm ha hs hs2).run pins s σ H R I ?_⟩
  obtain ⟨W, env, S, RR, RE, q⟩ := h
  refine ⟨W, env, S, RR, RE, Ev.imp (Ev.seq (show Ev _ _ _ ((mArgs [ma, mb] env S).bind _) _ _ from q)) fun vs H1 ⟨W1, ds, S1, l1, R1, r1, q1⟩ => ?_⟩
  unfold itR2 at q1
  split at q1
  · split at q1
    · rename_i i j hj
      cases r1 with
      | cons r rr =>
        cases rr with
        | cons r' rr =>
          cases rr
          cases r
          cases r'
          exact ⟨i, j, rfl, hj, q1 W1 _ H1 (.refl W1) R1 (repI_range i (j - i).toNat)⟩
    · exact q1.elim
  · exact q1.elim
/-- any value that is walked: a list, a tuple -/
def itD (d : D) (S : Store) : Res Wk := match d with
  | .tup xs => .ok (.items xs) S
  | .rl xs => .ok (.items xs) S
  | .ref n => (match S[n]? with
    | some (.lst _) => .ok (.at_ n) S
    | _ => .bad)
  | _ => .bad
def iVal (m : ME) : Env → Store → Res Wk := fun env S => (m env S).bind itD
theorem repI_tup {G : Gs} {W : Wd} {xs : List D} {vs : List V} {A : Addr} (h : W.F A = some (.tup vs)) (r : RepL G W xs vs) : RepI G W (.items xs) (Itt G.K A) := by
  intro i W' S' H' l R
  have hH : SqT G.K H' A vs := SqT.of (R.fr _ _ (l.F _ _ h))
  refine ⟨fun d hd => ?_, fun hd => ?_⟩
  · obtain ⟨v, hv, rv⟩ := r.get hd
    refine ⟨⟨vs, v, hH, hv⟩, fun v' H2 y => ?_⟩
    obtain ⟨rfl, y⟩ := y
    have := y vs hH
    rw [hv] at this
    cases this
    exact ⟨W', .refl W', R, rv.mono l⟩
  · exact ⟨vs, hH, by rw [← r.length]; exact List.getElem?_eq_none_iff.mp hd⟩
theorem repI_rl {G : Gs} {W : Wd} {xs : List D} {vs : List V} {A : Addr} (h : SqL G.K W.F A vs) (r : RepL G W xs vs) : RepI G W (.items xs) (Itl G.K A) := by
  intro i W' S' H' l R
  have hH : SqL G.K H' A vs := sql_mono R.fr (sql_mono l.F h)
  refine ⟨fun d hd => ?_, fun hd => ?_⟩
  · obtain ⟨v, hv, rv⟩ := r.get hd
    refine ⟨⟨vs, v, hH, hv⟩, fun v' H2 y => ?_⟩
    obtain ⟨rfl, y⟩ := y
    have := y vs hH
    rw [hv] at this
    cases this
    exact ⟨W', .refl W', R, rv.mono l⟩
  · exact ⟨vs, hH, by rw [← r.length]; exact List.getElem?_eq_none_iff.mp hd⟩
theorem ei_val {tg : Expr} (he : EX fl X Wx e me) : EI fl X Wx tg e (iVal me) := by
  refine ⟨fun pins s σ H R I ⟨W, env, S, RR, RE, q⟩ => ?_⟩
  refine thn (he.run I RR RE (Ev.seq q)) fun v s1 ⟨x, H1, I1, r1, W1, d, S1, l1, R1, rd, q1⟩ => ?_
  have lst : ∀ {A : Addr} {ws : List V}, SqL X.K H1 A ws → R (Itl X.K A) H1 → wpAny (model X.prog X.w) X.A (pyIter (.ref A)) (PIE X pins σ tg R) X.xe s1 := fun {A ws} hq q2 => by
    obtain ⟨its, rv, p, hz⟩ := I1.list hq
    refine wpAny_pyIter_list p.isList ?_
    refine ⟨s1.heap.objs.size, [s1.heap.objs.size], _, _, H1, rfl, I1.kept (t' := s1.toks) fun b o e => Heap.get?_push_of_some _ e, turn_list A _, ⟨_, Heap.get?_push_size _ rfl, rfl, rfl⟩, fun b hb => ?_, q2⟩
    have e : b = s1.heap.objs.size := by simpa using hb
    subst e
    exact I1.fpOk (Nat.le_refl _) (I1.hok.fresh (Nat.le_refl _))
  cases rd with
  | tup xs vs A hA rl =>
    cases r1
    have hq : SqT X.K H1 A vs := SqT.of (R1.fr _ _ hA)
    obtain ⟨its, rv, p, hz⟩ := I1.tuple hq
    refine wpAny_pyIter_tuple (show s1.heap.IsTuple A its.toArray from p) ?_
    refine ⟨s1.heap.objs.size, [s1.heap.objs.size], _, _, H1, rfl, I1.kept (t' := s1.toks) fun b o e => Heap.get?_push_of_some _ e, turn_tuple A _, ⟨_, Heap.get?_push_size _ rfl, rfl, rfl⟩, fun b hb => ?_, q1 W1 _ H1 (.refl W1) R1 (repI_tup hA rl)⟩
    have e : b = s1.heap.objs.size := by simpa using hb
    subst e
    exact I1.fpOk (Nat.le_refl _) (I1.hok.fresh (Nat.le_refl _))
  | rl xs vs A hA rl =>
    cases r1
    exact lst (sql_mono R1.fr hA) (q1 W1 _ H1 (.refl W1) R1 (repI_rl hA rl))
  | ref n A hA =>
    cases r1
    unfold itD at q1
    dsimp only at q1
    split at q1
    · rename_i xs hx
      obtain ⟨ho, h1, h2⟩ := R1.obj n A _ hA hx
      cases h2 with
      | lst _ vs rv => exact lst (SqL.of h1) (q1 W1 _ H1 (.refl W1) R1 ⟨A, hA, rfl⟩)
    · exact q1.elim
  | _ => exact (show False from q1).elim
end
end Bp


set_option Elab.async false
set_option linter.all false
set_option maxRecDepth 100000
set_option maxHeartbeats 4000000
/-! Bp3: defs, their promises, calls. -/
namespace Bp
open PySem L2 PyProof.Rows

/-! ### what is left behind a call is forgotten -/
mutual
def below (n : Nat) : D → Bool
  | .tup xs => belows n xs
  | .ins _ xs => belows n xs
  | .rl xs => belows n xs
  | .ref k => decide (k < n)
  | .xv _ _ vs => belows n vs
  | .non => true
  | .bl _ => true
  | .int _ => true
  | .str _ => true
  | .ty _ => true
  | .glob _ => true
def belows (n : Nat) : List D → Bool
  | [] => true
  | d :: ds => below n d && belows n ds
end
def Wd.cut (W' : Wd) (μ : List Addr) : Wd := ⟨W'.F, μ, W'.xs⟩
theorem rep_cut {G : Gs} {W' : Wd} {μ : List Addr} (hp : μ <+: W'.μ) {d : D} {v : V} (r : RepV G W' d v) : below μ.length d = true → RepV G (W'.cut μ) d v := by
  refine RepV.rec (motive_1 := fun d v _ => below μ.length d = true → RepV G (W'.cut μ) d v) (motive_2 := fun ds vs _ => belows μ.length ds = true → RepL G (W'.cut μ) ds vs) ?_ ?_ ?_ ?_ ?_ ?_ ?_ ?_ ?_ ?_ ?_ ?_ ?_ r
  · exact fun _ => .non
  · exact fun b _ => .bl b
  · exact fun b _ => .int b
  · exact fun b _ => .str b
  · exact fun b _ => .ty b
  · exact fun x a h _ => .glob x a h
  · exact fun xs vs a h _ ih hb => .tup xs vs a h (ih (by simpa [below] using hb))
  · exact fun c xs a C dx fvs hc h hk _ ih hb => .ins c xs a C dx fvs hc h hk (ih (by simpa [below] using hb))
  · exact fun xs vs a h _ ih hb => .rl xs vs a h (ih (by simpa [below] using hb))
  · intro n a h hb
    have hn : n < μ.length := by simpa [below] using hb
    refine .ref n a ?_
    show μ[n]? = some a
    obtain ⟨t, e⟩ := hp
    rw [← e, List.getElem?_append_left hn] at h
    exact h
  · exact fun c ks vs a C dd d fvs h hc h0 h1 hk _ ih hb => .xv c ks vs a C dd d fvs h hc h0 h1 hk (ih (by simpa [below] using hb))
  · exact fun _ => .nil
  · intro d v ds vs _ _ ih1 ih2 hb
    have : below μ.length d = true ∧ belows μ.length ds = true := by simpa [belows] using hb
    exact .cons (ih1 this.1) (ih2 this.2)
theorem repL_cut {G : Gs} {W' : Wd} {μ : List Addr} (hp : μ <+: W'.μ) : ∀ {ds : List D} {vs : List V}, RepL G W' ds vs → belows μ.length ds = true → RepL G (W'.cut μ) ds vs
  | _, _, .nil, _ => .nil
  | d :: ds, _, .cons h t, hb => by
    have : below μ.length d = true ∧ belows μ.length ds = true := by simpa [belows] using hb
    exact .cons (rep_cut hp h this.1) (repL_cut hp t this.2)
theorem below_of {G : Gs} {W : Wd} {d : D} {v : V} (r : RepV G W d v) : below W.μ.length d = true := by
  refine RepV.rec (motive_1 := fun d v _ => below W.μ.length d = true) (motive_2 := fun ds vs _ => belows W.μ.length ds = true) ?_ ?_ ?_ ?_ ?_ ?_ ?_ ?_ ?_ ?_ ?_ ?_ ?_ r
  · rfl
  · exact fun b => rfl
  · exact fun b => rfl
  · exact fun b => rfl
  · exact fun b => rfl
  · exact fun x a h => rfl
  · exact fun xs vs a h _ ih => by simpa [below] using ih
  · exact fun c xs a C dx fvs hc h hk _ ih => by simpa [below] using ih
  · exact fun xs vs a h _ ih => by simpa [below] using ih
  · exact fun n a h => by simpa [below] using (List.getElem?_eq_some_iff.mp h).1
  · exact fun c ks vs a C dd d fvs h hc h0 h1 hk _ ih => by simpa [below] using ih
  · rfl
  · intro d v ds vs _ _ ih1 ih2
    simp [belows, ih1, ih2]
theorem belows_of {G : Gs} {W : Wd} : ∀ {ds : List D} {vs : List V}, RepL G W ds vs → belows W.μ.length ds = true
  | _, _, .nil => rfl
  | _, _, .cons h t => by simp [belows, below_of h, belows_of t]
theorem le_cut {W W' : Wd} (l : Le W W') : Le W (W'.cut W.μ) := ⟨l.F, List.prefix_rfl, l.xs⟩
/-- the store behind a call, cut down to what stood before -/
theorem Rel.cut {G : Gs} {W W' : Wd} {S S' : Store} {H H' : Hp} (R : Rel G W S H) (R' : Rel G W' S' H') (l : Le W W') (e : S'.take S.length = S) : Rel G (W'.cut W.μ) S H' := by
  refine ⟨R'.fr, R.len, R.nd, fun a ha => ?_, fun n a o h1 h2 => ?_⟩
  · exact R'.off a (l.μ.subset ha)
  · have h1' : W'.μ[n]? = some a := l.at h1
    have hn : n < S.length := (List.getElem?_eq_some_iff.mp h2).1
    have h2' : S'[n]? = some o := by
      rw [← e] at h2
      rw [List.getElem?_take] at h2
      simpa [hn] using h2
    obtain ⟨ho, g1, g2⟩ := R'.obj n a o h1' h2'
    obtain ⟨ho0, _, g3⟩ := R.obj n a o h1 h2
    refine ⟨ho, g1, ?_⟩
    cases g2 with
    | lst xs vs r =>
      cases g3 with
      | lst _ vs0 r0 => exact .lst xs vs (repL_cut l.μ r (belows_of r0))
    | obj c fs C dx fvs hc r =>
      cases g3 with
      | obj _ _ C0 dx0 fvs0 hc0 r0 => exact .obj c fs C dx fvs hc ⟨r.1, repL_cut l.μ r.2 (belows_of r0.2)⟩
open Classical in
/-- the end of a call: what was made and is not handed on is forgotten -/
noncomputable def gc (S : Store) (r : Res D) : Res D := match r with
  | .ok d S' => if S'.take S.length = S then (if below S.length d = true then .ok d S else (match d with
    | .ref n => (match S'[n]? with
      | some (.lst xs) => if S.length ≤ n ∧ belows S.length xs = true then .ok (.ref S.length) (S ++ [.lst xs]) else r
      | _ => r)
    | _ => r)) else r
  | .exc e S' => if S'.take S.length = S ∧ belows S.length e.vs = true then .exc e S else r
  | .bad => .bad
theorem gc_ok {G : Gs} {W : Wd} {S : Store} {H : Hp} {r : Res D} {Q : VK} {E : XK} (R : Rel G W S H) (q : Ev (RepV G) G W (gc S r) Q E) : Ev (RepV G) G W r Q E := by
  cases r with
  | bad => exact q
  | exc e S' =>
    unfold gc at q
    dsimp only at q
    split at q
    · rename_i hc
      intro W' cls d H' l R' rx
      refine q (W'.cut W.μ) cls d H' (le_cut l) (R.cut R' l hc.1) ⟨rx.c, rx.h0, ?_⟩
      obtain ⟨dd, fvs, h1, h2, h3⟩ := rx.f
      refine ⟨dd, fvs, h1, h2, repL_cut l.μ h3 ?_⟩
      rw [R.len]
      exact hc.2
    · exact q
  | ok d S' =>
    unfold gc at q
    dsimp only at q
    split at q
    · rename_i hc
      split at q
      · rename_i hb
        intro W' v H' l R' rv
        exact q (W'.cut W.μ) v H' (le_cut l) (R.cut R' l hc) (rep_cut l.μ rv (by rw [R.len]; exact hb))
      · split at q
        · rename_i n hnb
          split at q
          · rename_i xs hx
            split at q
            · rename_i hn
              intro W' v H' l R' rv
              cases rv with
              | ref _ A hA =>
                have R0 := R.cut R' l hc
                have hp : W.μ <+: W'.μ := l.μ
                have hnot : A ∉ W.μ := fun hA2 => by
                  obtain ⟨m, hm⟩ := List.mem_iff_getElem?.mp hA2
                  have hm2 := l.at hm
                  have hlt : m < W.μ.length := (List.getElem?_eq_some_iff.mp hm).1
                  obtain ⟨g1, e1⟩ := List.getElem?_eq_some_iff.mp hm2
                  obtain ⟨g2, e2⟩ := List.getElem?_eq_some_iff.mp hA
                  have := (List.getElem_inj R'.nd).mp (e1.trans e2.symm)
                  have h3 := R.len
                  omega
                have l2 : Le W ⟨W'.F, W.μ ++ [A], W'.xs⟩ := ⟨l.F, List.prefix_append _ _, l.xs⟩
                have l3 : Le (W'.cut W.μ) ⟨W'.F, W.μ ++ [A], W'.xs⟩ := ⟨fun _ _ e => e, List.prefix_append _ _, List.prefix_rfl⟩
                obtain ⟨ho, g1, g2⟩ := R'.obj n A _ hA hx
                cases g2 with
                | lst _ vs r0 =>
                  have r0' : RepL G (W'.cut W.μ) xs vs := repL_cut l.μ r0 (by rw [R.len]; exact hn.2)
                  have RN : Rel G ⟨W'.F, W.μ ++ [A], W'.xs⟩ (S ++ [.lst xs]) H' := by
                    refine ⟨R0.fr, ?_, ?_, fun b hb => ?_, fun m b o e1 e2 => ?_⟩
                    · show (W.μ ++ [A]).length = (S ++ [O.lst xs]).length
                      rw [List.length_append, List.length_append, R.len]; rfl
                    · show (W.μ ++ [A]).Nodup
                      refine List.nodup_append.mpr ⟨R.nd, by simp, fun b hb c hc => ?_⟩
                      have : c = A := by simpa using hc
                      subst this
                      intro z
                      exact hnot (z ▸ hb)
                    · rcases List.mem_append.mp hb with z | z
                      · exact R0.off b z
                      · have : b = A := by simpa using z
                        subst this
                        exact R'.off b (List.mem_iff_getElem?.mpr ⟨n, hA⟩)
                    · have e1' : (W.μ ++ [A])[m]? = some b := e1
                      by_cases hm : m < W.μ.length
                      · rw [List.getElem?_append_left hm] at e1'
                        rw [List.getElem?_append_left (by rw [← R.len]; exact hm)] at e2
                        obtain ⟨u, k1, k2⟩ := R0.obj m b o e1' e2
                        exact ⟨u, k1, k2.mono l3⟩
                      · have hl : m < (W.μ ++ [A]).length := (List.getElem?_eq_some_iff.mp e1').1
                        rw [List.length_append, List.length_singleton] at hl
                        have hm' : m = W.μ.length := by omega
                        subst hm'
                        rw [List.getElem?_append_right (Nat.le_refl _), Nat.sub_self] at e1'
                        rw [R.len, List.getElem?_append_right (Nat.le_refl _), Nat.sub_self] at e2
                        have a1 : A = b := by simpa using e1'
                        have a2 : O.lst xs = o := by simpa using e2
                        subst a1 a2
                        exact ⟨_, g1, .lst xs vs (r0'.mono l3)⟩
                  refine q _ (.ref A) H' l2 RN (.ref _ A ?_)
                  show (W.μ ++ [A])[S.length]? = some A
                  rw [← R.len, List.getElem?_append_right (Nat.le_refl _), Nat.sub_self]
                  rfl
            · exact q
          · exact q
        · exact q
    · exact q
/-! ### defs -/
def finD (r : RS) : Res D := match r with
  | .nx _ S => .ok .non S
  | .rt d S => .ok d S
  | .exc e _ S => .exc e S
  | _ => .bad
noncomputable def mDef (n : Nat) (body : MS) : Fn := fun ds S => gc S (finD (body (ds.map some ++ List.replicate (n - ds.length) none) S))
/-- a def's promise by its mirror -/
def spM (G : Gs) (np : Nat) (f : Fn) : Sp := fun vs H Q E => vs.length = np ∧ ∃ W ds S, Rel G W S H ∧ RepL G W ds vs ∧ Ev (RepV G) G W (f ds S) Q E
theorem repE_start {G : Gs} {W : Wd} {ds : List D} {vs : List V} {N : List Str} (r : RepL G W ds vs) : RepE G none W (ds.map some ++ List.replicate (N.length - ds.length) none) (L2.start N vs) := by
  refine ⟨fun i e => (nomatch e), ?_, fun i d h => ?_⟩
  · unfold L2.start
    rw [List.length_append, List.length_append, List.length_map, List.length_map, List.length_replicate, List.length_replicate, r.length]
  · unfold L2.start
    by_cases hi : i < ds.length
    · rw [List.getElem?_append_left (by rw [List.length_map]; exact hi), List.getElem?_map] at h
      cases e : ds[i]? with
      | none => rw [e] at h; cases h
      | some d' =>
        rw [e] at h
        cases h
        obtain ⟨v, h1, h2⟩ := r.get e
        refine ⟨v, ?_, h2⟩
        rw [List.getElem?_append_left (by rw [List.length_map, ← r.length]; exact hi), List.getElem?_map, h1]
        rfl
    · rw [List.getElem?_append_right (by rw [List.length_map]; omega)] at h
      have := List.mem_iff_getElem?.mpr ⟨_, h⟩
      have := (List.mem_replicate.mp this).2
      cases this
section
variable {P : Program} {w : World} {K : PySem.W.Frag} {mg : Str → Option Value} {base : Heap}
abbrev cxo (P : Program) (w : World) (K : PySem.W.Frag) (mg : Str → Option Value) (base : Heap) (N : List Str) (qual : Str) (st : Stmt) (f : Addr) (cdv : Value) (A : Around) (outer : List PySem.Env) (s : Shared) (H : Hp) (E : XK) : Cx :=
  cxOf (L2.CX P w) P w K mg base N qual (defScope st) f cdv A outer s H E
/-- what a def's body may lean on -/
structure Cxt (fl : Pm) (X : Cx) (Wx : WX) (k : Nat) : Prop where
  fx : fl.x = none
  hr : Room k X.A
  tk : Takes X Wx
  po : PassesOwn (model X.prog X.w) X.A X.env X.xe
  calm : X.calm = true
  stk : X.stack = X.env :: X.outer
  frm : X.env.frame = some X.env.locals
theorem Cxt.gx {fl : Pm} {X : Cx} {Wx : WX} {k : Nat} (C : Cxt fl X Wx k) : gx X fl = ⟨X.K, X.mg, fl.tn, none⟩ := by unfold Bp.gx; rw [C.fx]
theorem gx_none {fl : Pm} {X : Cx} (h : fl.x = none) : gx X fl = ⟨X.K, X.mg, fl.tn, none⟩ := by unfold Bp.gx; rw [h]
theorem fn_run {fl : Pm} {N ps : List Str} {X : Cx} {Wx : WX} {st : Stmt} {body : MS} {vs : List V} {H : Hp} {Q : VK} {E : XK} (hfl : fl.x = none) (hW : ∀ c d σ H', Wx c d σ H' = E c d H') (h : spM ⟨X.K, X.mg, fl.tn, none⟩ ps.length (mDef N.length body) vs H Q E) :
    TSm (gx X fl) fl.x Wx body { nx := fun _ H' => Q .non H', rt := Q } (L2.start N vs) H := by
  have hG : gx X fl = ⟨X.K, X.mg, fl.tn, none⟩ := by unfold gx; rw [hfl]
  rw [← hG] at h
  obtain ⟨hl, W, ds, S, R, rl, q⟩ := h
  refine ⟨W, _, S, R, by rw [hfl]; exact repE_start (N := N) rl, ?_⟩
  unfold mDef at q
  have q' := gc_ok R q
  cases e : body (ds.map some ++ List.replicate (N.length - ds.length) none) S with
  | nx env S' => rw [e] at q'; exact fun W' σ' H' l R' RE' => q' W' .non H' l R' .non
  | rt d S' => rw [e] at q'; exact q'
  | bk _ _ => rw [e] at q'; exact (show False from q').elim
  | ct _ _ => rw [e] at q'; exact (show False from q').elim
  | exc x _ S' => rw [e] at q'; exact fun W' cls d σ' H' l R' rx _ => by rw [hW]; exact q' W' cls d H' l R' rx
  | bad => rw [e] at q'; exact q'
/-- THE RULE for a def: its body's mirror -/
theorem fn_mk {fl : Pm} {x qual : Str} {st : Stmt} {f : Addr} {fd : FuncData} {N ps : List Str} {k : Nat} {body : MS} {dvs : List V} {kws : List (Str × V)} (F : FunD K x qual (defArgs st) (defBody st) (defScope st) dvs kws f fd) (Sc : FnScope N ps (defScope st)) (hfl : fl.x = none)
    (hb : ∀ (cdv : Value) (A : Around) (outer : List PySem.Env) (s : Shared) (H : Hp) (E : XK), Cxt fl (cxo P w K mg base N qual st f cdv A outer s H E) (fun c d _ H' => E c d H') k →
      ESs fl (cxo P w K mg base N qual st f cdv A outer s H E) (fun c d _ H' => E c d H') (defBody st) body) :
    FnOk P w K mg base (L2.CX P w) (k + 1) f fd ps (spM ⟨K, mg, fl.tn, none⟩ ps.length (mDef N.length body)) :=
  F.ok Sc (fun vs H Q E h => h.1) fun cdv A outer s H vs Q E hr h =>
    ⟨_, hb cdv A outer s H E ⟨hfl, hr, takes_of rfl rfl rfl rfl, passes_of rfl, rfl, rfl, rfl⟩, fn_run (fl := fl) (ps := ps) (X := cxo P w K mg base N qual st f cdv A outer s H E) (Wx := fun c d _ H' => E c d H') (st := st) hfl (fun _ _ _ _ => rfl) h⟩
/-- a def of the module, by its name -/
structure DefOk (P : Program) (w : World) (K : PySem.W.Frag) (mg : Str → Option Value) (base : Heap) (tn : Tn) (L : Nat) (x : Str) (n : Nat) (g : Fn) : Prop where
  ex : ∃ (f : Addr) (fd : FuncData) (ps : List Str), ps.length = n ∧ FnOk P w K mg base (L2.CX P w) L f fd ps (spM ⟨K, mg, tn, none⟩ n g) ∧ mg x = some (.ref f) ∧ PySem.W.keepIn K (.ref f) = true ∧ Binds K fd ps []
theorem DefOk.mono {tn : Tn} {L L' : Nat} {x : Str} {n : Nat} {g : Fn} (h : DefOk P w K mg base tn L x n g) (l : L ≤ L') : DefOk P w K mg base tn L' x n g :=
  let ⟨f, fd, ps, h1, h2, h3⟩ := h.ex
  ⟨f, fd, ps, h1, h2.mono l, h3⟩
/-- another mirror that does the same -/
theorem DefOk.eqv {tn : Tn} {L : Nat} {x : Str} {n : Nat} {g g' : Fn} (h : DefOk P w K mg base tn L x n g) (e : ∀ ds S, g' ds S = .bad ∨ g' ds S = g ds S) : DefOk P w K mg base tn L x n g' := by
  obtain ⟨f, fd, ps, h1, h2, h3⟩ := h.ex
  refine ⟨f, fd, ps, h1, h2.imp fun vs H Q E ⟨hl, W, ds, S, R, rl, q⟩ => ⟨hl, W, ds, S, R, rl, ?_⟩, h3⟩
  rcases e ds S with z | z
  · rw [z] at q; exact q.elim
  · rw [← z]; exact q
end
/-! ### calls -/
def mCall (g : Fn) (ms : List ME) : ME := fun env S => (mArgs ms env S).bind g
section
variable {fl : Pm} {X : Cx} {Wx : WX} {e : Expr} {es : List Expr} {me : ME} {ms : List ME} {pos p : Pos} {L k n : Nat} {x : Str} {g : Fn}
theorem run_spM {f : Addr} {fd : FuncData} {ps : List Str} {pins : List (Addr × Obj)} {σ : L2.St} {H : Hp} {s : Shared} {Q : VK} {us : List Value} {vs : List V} {W : Wd} {ds : List D} {S : Store}
    (F : FnOk X.prog X.w X.K X.mg X.base (L2.CX X.prog X.w) L f fd ps (spM (gx X fl) n g)) (hr : Room L X.A) (hb : Binds X.K fd ps []) (tk : Takes X Wx) (I : Inv X pins σ H s) (r : Vals vs us) (hn : vs.length = n) (R : Rel (gx X fl) W S H) (rl : RepL (gx X fl) W ds vs)
    (q : Ev (RepV (gx X fl)) (gx X fl) W (g ds S) Q (fun c d H => Wx c d σ H)) : wpAny (model X.prog X.w) X.A (call (.ref f) us) (EP X pins σ Q) X.xe s :=
  run_fnS (E := fun σ c d H => Wx c d σ H) F hr hb (passAt tk σ) I r ⟨hn, W, ds, S, R, rl, q⟩
theorem ex_call (D0 : DefOk X.prog X.w X.K X.mg X.base fl.tn L x n g) (C : Cxt fl X Wx k) (hL : L ≤ k) (hg : Gl X x) (ha : EA fl X Wx (e :: es) (me :: ms)) (hn : (me :: ms).length = n := by rfl) (hdb : (x == ("__debug__" : Str)) = false := by decide)
    (he : starEach (e :: es) X.env = (false, eval e X.env) :: starEach es X.env := by rfl) (hpl : (backTo pos (starEach es X.env)).any (·.1) = false := by rfl) : EX fl X Wx (.Call (.Name x p) (e :: es) [] pos) (mCall g (me :: ms)) := by
  obtain ⟨f, fd, ps, h1, F, hm, hk, hb⟩ := D0.ex
  rw [← C.gx] at F
  refine PE.imp (pe_callS F (C.hr.mono hL) hg hm hk hb (fun σ => passAt C.tk σ) ha hdb he hpl) fun σ H Q ⟨W, env, S, R, RE, q⟩ => ?_
  refine ⟨W, env, S, R, RE, Ev.imp (Ev.len (show Ev _ _ _ ((mArgs (me :: ms) env S).bind g) _ _ from q)) fun vs H1 ⟨W1, ds, S1, l1, R1, r1, hlen, q1⟩ => ?_⟩
  exact ⟨by rw [hlen]; exact hn, W1, ds, S1, R1, r1, q1⟩
theorem ex_call0 (D0 : DefOk X.prog X.w X.K X.mg X.base fl.tn L x 0 g) (C : Cxt fl X Wx k) (hL : L ≤ k) (hg : Gl X x) (hdb : (x == ("__debug__" : Str)) = false := by decide) : EX fl X Wx (.Call (.Name x p) [] [] pos) (mCall g []) := by
  obtain ⟨f, fd, ps, h1, F, hm, hk, hb⟩ := D0.ex
  rw [← C.gx] at F
  refine ⟨fun pins s σ H Q I ⟨W, env, S, R, RE, q⟩ => ?_⟩
  refine wpAny_Call_Name_kw (ld_glob I hg hm ?_ hdb)
  exact PySem.W.callWith_K0 I.kIn hk (run_spM (us := []) (vs := []) (ds := []) F (C.hr.mono hL) hb C.tk I .nil rfl R .nil q)
end
end Bp


set_option Elab.async false
set_option linter.all false
set_option maxRecDepth 100000
set_option maxHeartbeats 4000000
/-! Bp4: operators of own classes beside ints, at the library's level. -/
namespace Bp
open PySem L2 PyProof.Rows
section
variable {M : Model} {A : Around} {E : Value → Shared → Prop} {s : Shared}
theorem asInt_ref {b : Addr} {o : Obj} {Q : Option Int → Shared → Prop} (hb : s.heap.get? b = some o) (hd : ∀ v, o.data ≠ .prim v) (hq : Q none s) : wpAny M A (asInt? (.ref b)) Q E s := by
  unfold asInt?
  refine wpAny_bind (wpAny_load hb ?_)
  split
  · rename_i i u q; exact absurd q (hd _)
  · exact wpAny_pure hq
theorem intBin_declines {name : String} {f : Int → Int → Sem PySem.Fin} {a : Int} {t : Tok} {b : Addr} {o : Obj} {Q : PySem.Fin → Shared → Prop} (hb : s.heap.get? b = some o) (hd : ∀ v, o.data ≠ .prim v) (hq : Q (.done (.ret .notImplemented)) s) :
    wpAny M A (Builtin.Int.intBinary name f false ⟨[.int a t, .ref b], []⟩) Q E s := by
  unfold Builtin.Int.intBinary
  obtain ⟨hp, g, d, tk, os⟩ := s
  wp_walk using asInt_ref hb hd
  split
  · rename_i i u q; exact absurd q (hd _)
  · refine wpAny_pure ?_
    exact wpAny_bind (wpAny_rule (wpAny_pure hq))
theorem exactOps_ref {a : Int} {t : Tok} {b : Addr} {o : Obj} {Q : Unit → Shared → Prop} (hb : s.heap.get? b = some o) (hd : ∀ v, o.data ≠ .prim v) (hq : Q () s) : wpAny M A (Builtin.exactOperandsForPylong false ⟨[.int a t, .ref b], []⟩) Q E s := by
  unfold Builtin.exactOperandsForPylong
  rw [if_pos (by rfl)]
  refine wpAny_bind (m := asInt? (.int a t)) (wpAny_pure ?_)
  refine wpAny_bind (asInt_ref hb hd ?_)
  exact wpAny_pure hq
end
section
variable {prog : Program} {w : World} {A : Around} {E : Value → Shared → Prop} {s : Shared}
/-- an int's own slot does not take an instance -/
structure IntDecl (prog : Program) (w : World) (nm : Str) : Prop where
  go : ∀ (A : Around) (E : Value → Shared → Prop) (s : Shared) (a : Int) (t : Tok) (b : Addr) (o : Obj) (Q : Option Value → Shared → Prop), s.heap.get? b = some o → (∀ v, o.data ≠ .prim v) → Q none s → wpAny (model prog w) A (tryMethod (.int a t) nm (.ref b)) Q E s
theorem intDecl_by {nm : Str} {id : String} {B : Builtin} (slot : Slot "int" nm id) (entry : entryFor table id = some B) (args : ∀ a b, argsOk id ⟨[a, b], []⟩)
    (hB : ∀ (A : Around) (E : Value → Shared → Prop) (s : Shared) (a : Int) (t : Tok) (b : Addr) (o : Obj) (Q : PySem.Fin → Shared → Prop), s.heap.get? b = some o → (∀ v, o.data ≠ .prim v) → Q (.done (.ret .notImplemented)) s → wpAny (model prog w) A (B ⟨[.int a t, .ref b], []⟩) Q E s) : IntDecl prog w nm where
  go := fun A E s a t b o Q hb hd hq => wpAny_tryMethod_declines (typeIs_int s a t) slot (GQ.call_here slot (typeIs_int s a t) entry (args _ _) (hB _ _ _ _ _ _ _ _ hb hd ⟨rfl, hq⟩))
theorem intDecl_of {nm : Str} {id name : String} {f : Int → Int → Sem PySem.Fin} {B : Builtin} (slot : Slot "int" nm id) (entry : entryFor table id = some B) (args : ∀ a b, argsOk id ⟨[a, b], []⟩) (hB : B = Builtin.Int.intBinary name f false) : IntDecl prog w nm :=
  intDecl_by slot entry args fun A E s a t b o Q hb hd hq => by
    rw [hB]
    exact intBin_declines hb hd hq
theorem floordiv_def : Builtin.«int.__floordiv__» = fun args => Builtin.exactOperandsForPylong false args >>= fun _ => Builtin.Int.intBinary "__floordiv__" (int_private% "intFloordiv") false args := rfl
theorem intDecl_fd : IntDecl prog w (PySem.dunder "floordiv") :=
  intDecl_by PySem.F.slot_int_floordiv PySem.F.entry_int_floordiv PySem.F.args_int_floordiv_2 fun A E s a t b o Q hb hd hq => by
    rw [floordiv_def]
    exact wpAny_bind (exactOps_ref hb hd (intBin_declines hb hd hq))
theorem intDecl_add : IntDecl prog w (PySem.dunder "add") := intDecl_of PySem.F.slot_int_add PySem.F.entry_int_add (PySem.F.args_int_add_2) rfl
theorem intDecl_sub : IntDecl prog w (PySem.dunder "sub") := intDecl_of PySem.F.slot_int_sub PySem.F.entry_int_sub (PySem.F.args_int_sub_2) rfl
theorem intDecl_mul : IntDecl prog w (PySem.dunder "mul") := intDecl_of PySem.F.slot_int_mul PySem.F.entry_int_mul (PySem.F.args_int_mul_2) rfl
theorem intDecl_mod : IntDecl prog w (PySem.dunder "mod") := intDecl_of PySem.F.slot_int_mod PySem.F.entry_int_mod (PySem.F.args_int_mod_2) rfl
theorem intDecl_eq : IntDecl prog w (cmpInfo .Eq).2.1 := intDecl_of PySem.F.slot_int_eq PySem.F.entry_int_eq (PySem.F.args_int_eq_2) rfl
theorem intDecl_ne : IntDecl prog w (cmpInfo .NotEq).2.1 := intDecl_of PySem.F.slot_int_ne PySem.F.entry_int_ne (PySem.F.args_int_ne_2) rfl
theorem intDecl_lt : IntDecl prog w (cmpInfo .Lt).2.1 := intDecl_of PySem.F.slot_int_lt PySem.F.entry_int_lt (PySem.F.args_int_lt_2) rfl
theorem intDecl_le : IntDecl prog w (cmpInfo .LtE).2.1 := intDecl_of PySem.F.slot_int_le PySem.F.entry_int_le (PySem.F.args_int_le_2) rfl
theorem intDecl_gt : IntDecl prog w (cmpInfo .Gt).2.1 := intDecl_of PySem.F.slot_int_gt PySem.F.entry_int_gt (PySem.F.args_int_gt_2) rfl
theorem intDecl_ge : IntDecl prog w (cmpInfo .GtE).2.1 := intDecl_of PySem.F.slot_int_ge PySem.F.entry_int_ge (PySem.F.args_int_ge_2) rfl
end
section
variable {prog : Program} {w : World} {A : Around} {E : Value → Shared → Prop} {s : Shared} {K : PySem.W.Frag} {x C L f g : Addr} {h₀ : Heap} {m : Str → Option Value} {ox : Obj} {od : Option Obj}
theorem mro_first {K : PySem.W.Frag} {C : Addr} (hc : PySem.W.selfFirst K C = true) : ∃ cd rest, PySem.W.clsIn K C = some cd ∧ cd.mro = .ref C :: rest := by
  obtain ⟨cd, hcd, hm⟩ := PySem.W.any_some hc
  refine ⟨cd, ?_⟩
  cases q : cd.mro with
  | nil => rw [q] at hm; cases hm
  | cons a r => exact ⟨r, hcd, by rw [q, List.head?_cons] at hm; cases (beq_iff_eq.mp hm); rfl⟩
theorem py_own {M : Model} {h : Heap} {nm : String} (X : K.In h) (hs : PySem.W.findIn K (.ref C) (PySem.dunder nm) = some (some (.ref f))) {o : Option Value} (hr : PySem.W.findIn K (.ref C) (dunderR nm) = some o) (ho : ∀ b, o ≠ some (.builtin b)) : PySem.W.Looks M h (numberSlotInPython (.ref C) nm) true := by
  intro A Q E s k q
  unfold numberSlotInPython
  refine wpAny_bind (PySem.W.looks_findIn X hs A _ E s k ?_)
  refine wpAny_bind (wpAny_pure ?_)
  refine wpAny_bind (PySem.W.looks_findIn X hr A _ E s k ?_)
  cases o with
  | none => exact wpAny_bind (wpAny_pure (wpAny_pure q))
  | some v => cases v <;> first | exact absurd rfl (ho _) | exact wpAny_bind (wpAny_pure (wpAny_pure q))
/-- an instance on the left, a value of another type on the right -/
theorem binop1_left {nm : String} {b tb : Value} {rb np : Bool} {o : Option Value} {Q : Option Value → Shared → Prop} (F : Fr h₀ L s.heap m) (X₀ : K.In h₀) (I : PySem.W.InstAt s.heap x ox C od) (hb : PySem.W.Looks (model prog w) s.heap (typeOf b) tb) (hne : (Value.ref C == tb) = false) (hc : PySem.W.selfFirst K C = true)
    (hs : PySem.W.findIn K (.ref C) (PySem.dunder nm) = some (some (.ref f))) (hf : PySem.W.isFn K (.ref f) = true) (hr : PySem.W.findIn K (.ref C) (dunderR nm) = some o) (ho : ∀ b, o ≠ some (.builtin b))
    (hsub : PySem.W.Looks (model prog w) s.heap (isSubtype tb (.ref C)) false) (hrb : PySem.W.Looks (model prog w) s.heap (fillsNumberSlot tb nm) rb) (hnp : PySem.W.Looks (model prog w) s.heap (numberSlotInPython tb nm) np)
    (htl : np = false → ∃ o, PySem.W.Looks (model prog w) s.heap (typeLookup tb (dunderR nm)) o)
    (h : wpAny (model prog w) A (call (.ref f) [.ref x, b]) (PySem.W.CmpBack fun v => Q (some v)) E s) : wpAny (model prog w) A (binaryOp1 nm (.ref x) b) Q E s := by
  have X := X₀.keeps F.keep
  obtain ⟨cd, rest, hcd, hm⟩ := mro_first hc
  unfold binaryOp1
  refine wpAny_bind (I.type.here (wpAny_bind (hb.here (wpAny_bind ((PySem.W.fills_K X hcd hm hs).here ?_)))))
  rw [hne]
  simp only [Bool.false_eq_true, if_false]
  refine wpAny_bind (hrb.here ?_)
  have fin : wpAny (model prog w) A (tryMethod (.ref x) (PySem.dunder nm) b) (fun r s' => ∃ v, r = some v ∧ Q (some v) s') E s := by
    unfold tryMethod
    refine wpAny_bind (PySem.W.special_fn X I hs (beq_iff_eq.mp hf) (wpAny_mono h (fun v s' hv => ?_) fun _ _ e => e))
    cases v <;> first | exact hv.elim | exact wpAny_pure ⟨_, rfl, hv⟩
  cases rb with
  | false =>
    simp only [Bool.and_false, Bool.false_eq_true, if_false, Bool.false_and]
    refine wpAny_bind (wpAny_pure ?_)
    rw [if_neg Bool.false_ne_true, if_pos trivial]
    refine wpAny_bind (wpAny_mono fin (fun r s' hr => ?_) fun _ _ e => e)
    obtain ⟨v, rfl, q⟩ := hr
    exact wpAny_pure q
  | true =>
    simp only [Bool.and_true, if_true]
    refine wpAny_bind (hsub.here ?_)
    simp only [Bool.false_eq_true, if_false, Bool.not_false, Bool.and_true, if_true]
    refine wpAny_bind ((py_own X hs hr ho).here ?_)
    rw [if_pos rfl]
    refine wpAny_bind (hnp.here ?_)
    cases np with
    | true =>
      rw [if_neg (by decide)]
      refine wpAny_bind (wpAny_mono fin (fun r s' hr => ?_) fun _ _ e => e)
      obtain ⟨v, rfl, q⟩ := hr
      exact wpAny_pure q
    | false =>
      rw [if_pos (by rfl)]
      obtain ⟨o', ho'⟩ := htl rfl
      refine wpAny_bind (ho'.here ?_)
      refine wpAny_bind (wpAny_mono fin (fun r s' hr => ?_) fun _ _ e => e)
      obtain ⟨v, rfl, q⟩ := hr
      exact wpAny_pure q
/-- two instances of one class -/
theorem binop1_same {nm : String} {b : Value} {Q : Option Value → Shared → Prop} (F : Fr h₀ L s.heap m) (X₀ : K.In h₀) (I : PySem.W.InstAt s.heap x ox C od) (hb : PySem.W.Looks (model prog w) s.heap (typeOf b) (.ref C)) (hc : PySem.W.selfFirst K C = true)
    (hs : PySem.W.findIn K (.ref C) (PySem.dunder nm) = some (some (.ref f))) (hf : PySem.W.isFn K (.ref f) = true)
    (h : wpAny (model prog w) A (call (.ref f) [.ref x, b]) (PySem.W.CmpBack fun v => Q (some v)) E s) : wpAny (model prog w) A (binaryOp1 nm (.ref x) b) Q E s := by
  have X := X₀.keeps F.keep
  obtain ⟨cd, rest, hcd, hm⟩ := mro_first hc
  unfold binaryOp1
  refine wpAny_bind (I.type.here (wpAny_bind (hb.here (wpAny_bind ((PySem.W.fills_K X hcd hm hs).here ?_)))))
  have fin : wpAny (model prog w) A (tryMethod (.ref x) (PySem.dunder nm) b) (fun r s' => ∃ v, r = some v ∧ Q (some v) s') E s := by
    unfold tryMethod
    refine wpAny_bind (PySem.W.special_fn X I hs (beq_iff_eq.mp hf) (wpAny_mono h (fun v s' hv => ?_) fun _ _ e => e))
    cases v <;> first | exact hv.elim | exact wpAny_pure ⟨_, rfl, hv⟩
  simp only [beq_self_eq_true, if_true]
  refine wpAny_bind (wpAny_pure ?_)
  simp only [Bool.and_false, Bool.false_eq_true, if_false, Bool.false_and]
  refine wpAny_bind (wpAny_pure ?_)
  skip
  refine wpAny_bind (wpAny_mono fin (fun r s' hr => ?_) fun _ _ e => e)
  obtain ⟨v, rfl, q⟩ := hr
  exact wpAny_pure q
/-- an int on the left, an instance on the right -/
theorem binop1_right {nm : String} {a : Int} {t : Tok} {Q : Option Value → Shared → Prop} (F : Fr h₀ L s.heap m) (X₀ : K.In h₀) (I : PySem.W.InstAt s.heap x ox C od) (hc : PySem.W.selfFirst K C = true) (hd : ∀ v, ox.data ≠ .prim v)
    (hs : PySem.W.findIn K (.ref C) (PySem.dunder nm) = some (some (.ref g))) (hr : PySem.W.findIn K (.ref C) (dunderR nm) = some (some (.ref f))) (hf : PySem.W.isFn K (.ref f) = true)
    (hsub : PySem.W.subIn K (.ref C) (.type "int") = some false) (hfi : fillsNumberSlot (.type "int") nm = pure true) (hde : IntDecl prog w (PySem.dunder nm))
    (h : wpAny (model prog w) A (call (.ref f) [.ref x, .int a t]) (PySem.W.CmpBack fun v => Q (some v)) E s) : wpAny (model prog w) A (binaryOp1 nm (.int a t) (.ref x)) Q E s := by
  have X := X₀.keeps F.keep
  obtain ⟨cd, rest, hcd, hm⟩ := mro_first hc
  unfold binaryOp1
  refine wpAny_bind (wpAny_typeOf (typeIs_int s a t) (wpAny_bind (I.type.here (wpAny_bind (wpAny_of_eq hfi ?_)))))
  rw [show (Value.type "int" == Value.ref C) = false from rfl]
  simp only [Bool.false_eq_true, if_false]
  refine wpAny_bind ((PySem.W.fills_K X hcd hm hs).here ?_)
  simp only [Bool.and_true, if_true]
  refine wpAny_bind ((PySem.W.looks_subIn X hsub).here ?_)
  simp only [Bool.false_eq_true, if_false, Bool.not_false, Bool.and_true, if_true]
  refine wpAny_bind (wpAny_of_eq (a := false) (by rfl) ?_)
  rw [if_neg Bool.false_ne_true]
  refine wpAny_bind (hde.go A E s a t x ox _ I.at_ hd ?_)
  dsimp only
  rw [if_neg Bool.false_ne_true]
  refine wpAny_bind (m := tryMethod (.ref x) _ _) ?_
  unfold tryMethod
  refine wpAny_bind (PySem.W.special_fn X I hr (beq_iff_eq.mp hf) (wpAny_mono h (fun v s' hv => ?_) fun _ _ e => e))
  cases v <;> first | exact hv.elim | exact wpAny_pure (wpAny_bind (wpAny_rule (wpAny_pure hv)))
theorem binop_of {op : Operator} {a b : Value} {Q : Value → Shared → Prop} (h : wpAny (model prog w) A (binaryOp1 op.info.2 a b) (fun r s' => ∃ v, r = some v ∧ Q v s') E s) : wpAny (model prog w) A (binaryOp op a b) Q E s := by
  unfold binaryOp
  refine wpAny_holding (wpAny_bind (wpAny_mono h (fun r s' hr => ?_) fun _ _ e => e))
  obtain ⟨v, rfl, q⟩ := hr
  exact wpAny_pure q
theorem cmp_right {op : CmpOp} {a : Int} {t : Tok} {Q : Value → Shared → Prop} (hu : A.units < cLine) (F : Fr h₀ L s.heap m) (X₀ : K.In h₀) (I : PySem.W.InstAt s.heap x ox C od) (hd : ∀ v, ox.data ≠ .prim v)
    (hs : PySem.W.findIn K (.ref C) (cmpInfo op).2.2 = some (some (.ref f))) (hf : PySem.W.isFn K (.ref f) = true) (hsub : PySem.W.subIn K (.ref C) (.type "int") = some false)
    (hde : ∀ (A : Around) (E : Value → Shared → Prop) (s : Shared) (Q : Option Value → Shared → Prop), s.heap.get? x = some ox → Q none s → wpAny (model prog w) A (tryCompare (.int a t) (cmpInfo op).2.1 (.ref x)) Q E s)
    (h : wpAny (model prog w) A (call (.ref f) [.ref x, .int a t]) (PySem.W.CmpBack Q) E s) : wpAny (model prog w) A (richCompare op (.int a t) (.ref x)) Q E s := by
  have X := X₀.keeps F.keep
  unfold richCompare
  refine wpAny_holding (wpAny_bind (wpAny_cRoomFor hu ?_))
  rw [show oneThing? op (.int a t) (.ref x) = none from rfl]
  dsimp only
  refine wpAny_bind (wpAny_typeOf (typeIs_int s a t) (wpAny_bind (I.type.here ?_)))
  rw [show (Value.type "int" != Value.ref C) = true from rfl, if_pos rfl]
  refine wpAny_bind ((PySem.W.looks_subIn X hsub).here ?_)
  simp only [Bool.false_eq_true, if_false, Bool.not_false, if_true]
  refine wpAny_bind (hde A E s _ I.at_ ?_)
  dsimp only
  refine wpAny_bind (m := tryCompare (.ref x) _ _) ?_
  unfold tryCompare
  refine wpAny_bind (PySem.W.ifBound_K X I hs hf (wpAny_mono h (fun v s' hv => ?_) fun _ _ e => e))
  cases v <;> first | exact hv.elim | exact wpAny_pure (wpAny_pure hv)
end
section
variable {prog : Program} {w : World} {A : Around} {E : Value → Shared → Prop} {s : Shared} {K : PySem.W.Frag} {x C L f g : Addr} {h₀ : Heap} {m : Str → Option Value} {ox : Obj} {od : Option Obj}
theorem unary_own {op : UnaryOp} {nm : Str} {Q : Value → Shared → Prop} (F : Fr h₀ L s.heap m) (X₀ : K.In h₀) (I : PySem.W.InstAt s.heap x ox C od) (hop : (op == .Not) = false) (hnm : (match op with
      | .Invert => ("~", ("__invert__" : Str)) | .UAdd => ("+", "__pos__") | .USub => ("-", "__neg__") | .Not => ("not", "")).2 = nm)
    (hs : PySem.W.findIn K (.ref C) nm = some (some (.ref f))) (hf : PySem.W.isFn K (.ref f) = true) (h : wpAny (model prog w) A (call (.ref f) [.ref x]) Q E s) : wpAny (model prog w) A (unaryOp op (.ref x)) Q E s := by
  have X := X₀.keeps F.keep
  unfold unaryOp
  refine wpAny_holding ?_
  subst hnm
  cases op with
  | Not => cases hop
  | Invert => exact wpAny_bind (PySem.W.special_fn X I hs (beq_iff_eq.mp hf) (wpAny_mono h (fun v s' hv => wpAny_pure hv) fun _ _ e => e))
  | UAdd => exact wpAny_bind (PySem.W.special_fn X I hs (beq_iff_eq.mp hf) (wpAny_mono h (fun v s' hv => wpAny_pure hv) fun _ _ e => e))
  | USub => exact wpAny_bind (PySem.W.special_fn X I hs (beq_iff_eq.mp hf) (wpAny_mono h (fun v s' hv => wpAny_pure hv) fun _ _ e => e))
theorem abs_own {Q : Value → Shared → Prop} (F : Fr h₀ L s.heap m) (X₀ : K.In h₀) (I : PySem.W.InstAt s.heap x ox C od) (hs : PySem.W.findIn K (.ref C) "__abs__" = some (some (.ref f))) (hf : PySem.W.isFn K (.ref f) = true)
    (h : wpAny (model prog w) A.in1 (call (.ref f) [.ref x]) Q E s) : wpAny (model prog w) A (call (.builtin "abs") [.ref x]) Q E s := by
  refine Calls.call_function_entry kind_abs plain_abs entry_abs (args_abs _) ?_
  unfold Builtin.«abs»
  refine wpAny_bind (m := oneArg "abs" _) (wpAny_pure ?_)
  refine wpAny_bind (m := callSpecial? (.ref x) (Str.ofString "__abs__")) (PySem.W.special_fn (X₀.keeps F.keep) I hs (beq_iff_eq.mp hf) (wpAny_mono h (fun r s' hr => ?_) fun _ _ y => y))
  exact wpAny_pure ⟨_, rfl, hr⟩
/-- == that the class declines, with None or a text: False -/
theorem looks_of_typeIs {T : String} {b : Value} (hT : ∀ s : Shared, s.TypeIs b T) {h : Heap} : PySem.W.Looks (model prog w) h (typeOf b) (.type T) := fun A Q E s _ q => wpAny_typeOf (hT s) q
theorem eq_ni {b : Value} {T : String} {Q : Value → Shared → Prop} (hu : A.units < cLine) (F : Fr h₀ L s.heap m) (X₀ : K.In h₀) (I : PySem.W.InstAt s.heap x ox C od) (hT : ∀ s : Shared, s.TypeIs b T) (hsub : PySem.W.subIn K (.type T) (.ref C) = some false)
    (hs : PySem.W.findIn K (.ref C) "__eq__" = some (some (.ref f))) (hf : PySem.W.isFn K (.ref f) = true)
    (h : wpAny (model prog w) A (call (.ref f) [.ref x, b]) (fun v s' => v = .notImplemented ∧ wpAny (model prog w) A (tryCompare b "__eq__" (.ref x)) (fun r s2 => r = none ∧ wpAny (model prog w) A (isSame (.ref x) b) (fun k s3 => Q (.bool k) s3) E s2) E s') E s) : wpAny (model prog w) A (richCompare .Eq (.ref x) b) Q E s := by
  have X := X₀.keeps F.keep
  unfold richCompare
  simp only [oneThing_ref]
  refine wpAny_holding (wpAny_bind (wpAny_cRoomFor hu ?_))
  rw [cmpInfo_Eq]
  dsimp only
  refine wpAny_bind (I.type.here (wpAny_bind ((looks_of_typeIs hT).here ?_)))
  rw [show (Value.ref C != Value.type T) = true from rfl, if_pos rfl]
  refine wpAny_bind ((PySem.W.looks_subIn X hsub).here ?_)
  simp only [Bool.false_eq_true, if_false, Bool.not_false, if_true]
  refine wpAny_bind (m := tryCompare (.ref x) _ _) ?_
  unfold tryCompare
  refine wpAny_bind (PySem.W.ifBound_K X I hs hf (wpAny_mono h (fun v s' hv => ?_) fun _ _ e => e))
  obtain ⟨rfl, hq⟩ := hv
  refine wpAny_pure ?_
  refine wpAny_bind (m := tryCompare b _ _) (wpAny_mono hq (fun r s2 hr => ?_) fun _ _ e => e)
  obtain ⟨rfl, hq2⟩ := hr
  refine wpAny_bind (wpAny_rule ?_)
  exact wpAny_bind (wpAny_mono hq2 (fun k s3 hk => wpAny_pure hk) fun _ _ e => e)
end
section
variable {prog : Program} {w : World} {A : Around} {E : Value → Shared → Prop} {s : Shared} {K : PySem.W.Frag} {x C L f g : Addr} {h₀ : Heap} {m : Str → Option Value} {ox : Obj} {od : Option Obj}
theorem none_eq_declines {Q : Option Value → Shared → Prop} (hq : Q none s) : wpAny (model prog w) A (tryCompare .none "__eq__" (.ref x)) Q E s := by
  refine wpAny_tryCompare_declines (T := "NoneType") (id := "NoneType.__eq__") rfl PySem.F.slot_NoneType_eq (GQ.call_here PySem.F.slot_NoneType_eq rfl PySem.F.entry_NoneType_eq (PySem.F.args_NoneType_eq_2 _ _) ?_)
  obtain ⟨hp, g, d, tk, os⟩ := s
  unfold Builtin.«NoneType.__eq__»
  wp_walk
  exact ⟨rfl, hq⟩
theorem none_ne_declines {Q : Option Value → Shared → Prop} (hq : Q none s) : wpAny (model prog w) A (tryCompare .none "__ne__" (.ref x)) Q E s := by
  refine wpAny_tryCompare_declines (T := "NoneType") (id := "NoneType.__ne__") rfl PySem.F.slot_NoneType_ne (GQ.call_here PySem.F.slot_NoneType_ne rfl PySem.F.entry_NoneType_ne (PySem.F.args_NoneType_ne_2 _ _) ?_)
  obtain ⟨hp, g, d, tk, os⟩ := s
  unfold Builtin.«NoneType.__ne__»
  wp_walk
  exact ⟨rfl, hq⟩
theorem asStr_ref {M : Model} {b : Addr} {o : Obj} {Q : Option Str → Shared → Prop} (hb : s.heap.get? b = some o) (hd : ∀ v, o.data ≠ .prim v) (hq : Q none s) : wpAny M A (asStr? (.ref b)) Q E s := by
  unfold asStr?
  refine wpAny_bind (wpAny_load hb ?_)
  split
  · rename_i i u q; exact absurd q (hd _)
  · exact wpAny_pure hq
theorem str_cmp_declines {M : Model} {nm : String} {fn : List Nat → List Nat → Bool} {y : Str} {t : Tok} {o : Obj} {Q : PySem.Fin → Shared → Prop} (hb : s.heap.get? x = some o) (hd : ∀ v, o.data ≠ .prim v) (hq : Q (.done (.ret .notImplemented)) s) :
    wpAny M A (Builtin.Str.strCompare nm fn ⟨[.str y t, .ref x], []⟩) Q E s := by
  unfold Builtin.Str.strCompare
  obtain ⟨hp, g, d, tk, os⟩ := s
  wp_walk using asStr_ref hb hd
  split
  · rename_i i u q; exact absurd q (hd _)
  · refine wpAny_pure ?_
    exact wpAny_bind (wpAny_rule (wpAny_pure hq))
theorem str_eq_declines {y : Str} {t : Tok} {o : Obj} {Q : Option Value → Shared → Prop} (hb : s.heap.get? x = some o) (hd : ∀ v, o.data ≠ .prim v) (hq : Q none s) : wpAny (model prog w) A (tryCompare (.str y t) "__eq__" (.ref x)) Q E s := by
  refine wpAny_tryCompare_declines (T := "str") (typeIs_str _ _ _) PySem.F.slot_str_eq (GQ.call_here PySem.F.slot_str_eq (typeIs_str _ _ _) PySem.F.entry_str_eq (PySem.F.args_str_eq_2 _ _) ?_)
  exact str_cmp_declines (nm := "__eq__") hb hd ⟨rfl, hq⟩
theorem str_ne_declines {y : Str} {t : Tok} {o : Obj} {Q : Option Value → Shared → Prop} (hb : s.heap.get? x = some o) (hd : ∀ v, o.data ≠ .prim v) (hq : Q none s) : wpAny (model prog w) A (tryCompare (.str y t) "__ne__" (.ref x)) Q E s := by
  refine wpAny_tryCompare_declines (T := "str") (typeIs_str _ _ _) PySem.F.slot_str_ne (GQ.call_here PySem.F.slot_str_ne (typeIs_str _ _ _) PySem.F.entry_str_ne (PySem.F.args_str_ne_2 _ _) ?_)
  exact str_cmp_declines (nm := "__ne__") hb hd ⟨rfl, hq⟩
/-- != of a class without an own __ne__ -/
theorem ne_try {b : Value} {Q : Option Value → Shared → Prop} (hu : A.units + 1 < cLine) (X : K.In s.heap) (I : PySem.W.InstAt s.heap x ox C od) (hn : PySem.W.findIn K (.ref C) "__ne__" = some (some (.builtin "object.__ne__"))) (hm : PySem.W.subIn K (.ref C) (.type "object") = some true)
    (hs : PySem.W.findIn K (.ref C) "__eq__" = some (some (.ref f))) (hf : PySem.W.isFn K (.ref f) = true)
    (h : wpAny (model prog w) A.in1 (call (.ref f) [.ref x, b]) (fun v s' => match v with
      | .notImplemented => Q none s'
      | .bool k => Q (some (.bool (!k))) s'
      | _ => False) E s) : wpAny (model prog w) A (tryCompare (.ref x) "__ne__" b) Q E s := by
  have body : wpAny (model prog w) A (call (.builtin "object.__ne__") ([.ref x] ++ [b])) (fun v s' => match v with
      | .notImplemented => Q none s'
      | v => Q (some v) s') E s := by
    refine wpAny_call (codeAny_call_builtin PySem.F.cmp_object.ne.plain PySem.F.cmpEntry_ne (PySem.W.check_slot PySem.F.cmpKind_ne PySem.F.cmpSplit_ne (I.type.andThen (PySem.W.looks_subIn X hm)) (PySem.F.cmpArgs_ne _ _) ?_))
    unfold Builtin.«object.__ne__»
    refine wpAny_bind (m := slotArgs "__ne__" 1 _) (wpAny_pure ?_)
    refine wpAny_bind (wpAny_cRoomFor hu ?_)
    refine wpAny_bind (m := callSpecialIfBound? (.ref x) "__eq__" [b]) (PySem.W.ifBound_K X I hs hf (wpAny_mono h (fun v s' hv => ?_) fun _ _ e => e))
    cases v <;> first | exact hv.elim | skip
    · refine wpAny_pure ?_
      exact hv
    · exact wpAny_bind (wpAny_truthy_bool (wpAny_pure hv))
  unfold tryCompare
  refine wpAny_bind ?_
  simp only [callSpecialIfBound?, bindSpecialIfBound?]
  refine wpAny_holding (wpAny_bind (wpAny_bind (wpAny_bind (I.type.here ((PySem.W.looks_findIn X hn).here ?_)))))
  have hbind : bindSpecial (.builtin "object.__ne__") (.ref x) = pure (.builtin "object.__ne__", [.ref x]) := PySem.F.cmp_object.ne.bind _
  have fin : wpAny (model prog w) A (call (.builtin "object.__ne__") ([.ref x] ++ [b]) >>= fun v => pure (some v)) (fun r s' => wpAny (model prog w) A (match r with
      | some .notImplemented | none => pure none
      | some v => pure (some v)) Q E s') E s := wpAny_bind (wpAny_mono body (fun v s' h' => wpAny_pure (by
        cases v <;> exact wpAny_pure h')) fun _ _ h' => h')
  refine wpAny_bind (wpAny_askSetting (wpAny_ite ?_))
  rw [hbind]
  split
  · exact wpAny_bind (wpAny_pure (wpAny_pure (by exact fin)))
  · exact wpAny_tryCatch (wpAny_bind (wpAny_pure (wpAny_pure (by exact fin))))
theorem ne_left {b tb : Value} {Q : Value → Shared → Prop} (hu : A.units + 1 < cLine) (F : Fr h₀ L s.heap m) (X₀ : K.In h₀) (I : PySem.W.InstAt s.heap x ox C od) (hb : PySem.W.Looks (model prog w) s.heap (typeOf b) tb) (hnf : PySem.W.notFirst K C tb = true)
    (hn : PySem.W.findIn K (.ref C) "__ne__" = some (some (.builtin "object.__ne__"))) (hm : PySem.W.subIn K (.ref C) (.type "object") = some true) (hs : PySem.W.findIn K (.ref C) "__eq__" = some (some (.ref f))) (hf : PySem.W.isFn K (.ref f) = true)
    (h : wpAny (model prog w) A.in1 (call (.ref f) [.ref x, b]) (fun v s' => ∃ k, v = .bool k ∧ Q (.bool (!k)) s') E s) : wpAny (model prog w) A (richCompare .NotEq (.ref x) b) Q E s := by
  have X := X₀.keeps F.keep
  have one : wpAny (model prog w) A (tryCompare (.ref x) "__ne__" b) (fun r s' => ∃ v, r = some v ∧ Q v s') E s := by
    refine ne_try hu X I hn hm hs hf (wpAny_mono h (fun v s' hv => ?_) fun _ _ e => e)
    obtain ⟨k, rfl, q⟩ := hv
    exact ⟨_, rfl, q⟩
  unfold richCompare
  simp only [oneThing_ref]
  refine wpAny_holding (wpAny_bind (wpAny_cRoomFor (Nat.lt_of_succ_lt hu) ?_))
  rw [cmpInfo_NotEq]
  dsimp only
  refine wpAny_bind (I.type.here (wpAny_bind (hb.here ?_)))
  split
  · rename_i q
    have e : PySem.W.subIn K tb (.ref C) = some false := by
      rcases Bool.or_eq_true_iff.mp hnf with e | e
      · rw [beq_iff_eq.mp e] at q; simp at q
      · exact beq_iff_eq.mp e
    refine wpAny_bind ((PySem.W.looks_subIn X e).here ?_)
    simp only [Bool.false_eq_true, if_false]
    refine wpAny_bind (wpAny_mono one (fun r s' z => ?_) fun _ _ e => e)
    obtain ⟨v, rfl, hq⟩ := z
    exact wpAny_pure hq
  · refine wpAny_bind (wpAny_pure ?_)
    simp only [Bool.false_eq_true, if_false]
    refine wpAny_bind (wpAny_mono one (fun r s' z => ?_) fun _ _ e => e)
    obtain ⟨v, rfl, hq⟩ := z
    exact wpAny_pure hq
/-- != that the class declines -/
theorem ne_ni {b : Value} {T : String} {Q : Value → Shared → Prop} (hu : A.units + 1 < cLine) (F : Fr h₀ L s.heap m) (X₀ : K.In h₀) (I : PySem.W.InstAt s.heap x ox C od) (hT : ∀ s : Shared, s.TypeIs b T) (hsub : PySem.W.subIn K (.type T) (.ref C) = some false)
    (hn : PySem.W.findIn K (.ref C) "__ne__" = some (some (.builtin "object.__ne__"))) (hm : PySem.W.subIn K (.ref C) (.type "object") = some true) (hs : PySem.W.findIn K (.ref C) "__eq__" = some (some (.ref f))) (hf : PySem.W.isFn K (.ref f) = true)
    (h : wpAny (model prog w) A.in1 (call (.ref f) [.ref x, b]) (fun v s' => v = .notImplemented ∧ wpAny (model prog w) A (tryCompare b "__ne__" (.ref x)) (fun r s2 => r = none ∧ wpAny (model prog w) A (isSame (.ref x) b) (fun k s3 => Q (.bool (!k)) s3) E s2) E s') E s) : wpAny (model prog w) A (richCompare .NotEq (.ref x) b) Q E s := by
  have X := X₀.keeps F.keep
  unfold richCompare
  simp only [oneThing_ref]
  refine wpAny_holding (wpAny_bind (wpAny_cRoomFor (Nat.lt_of_succ_lt hu) ?_))
  rw [cmpInfo_NotEq]
  dsimp only
  refine wpAny_bind (I.type.here (wpAny_bind ((looks_of_typeIs hT).here ?_)))
  rw [show (Value.ref C != Value.type T) = true from rfl, if_pos rfl]
  refine wpAny_bind ((PySem.W.looks_subIn X hsub).here ?_)
  simp only [Bool.false_eq_true, if_false, Bool.not_false, if_true]
  refine wpAny_bind (m := tryCompare (.ref x) _ _) (ne_try hu X I hn hm hs hf (wpAny_mono h (fun v s' hv => ?_) fun _ _ e => e))
  obtain ⟨rfl, hq⟩ := hv
  refine wpAny_bind (m := tryCompare b _ _) (wpAny_mono hq (fun r s2 hr => ?_) fun _ _ e => e)
  obtain ⟨rfl, hq2⟩ := hr
  refine wpAny_bind (wpAny_rule ?_)
  exact wpAny_bind (wpAny_mono hq2 (fun k s3 hk => wpAny_pure hk) fun _ _ e => e)
end
end Bp


set_option Elab.async false
set_option linter.all false
set_option maxRecDepth 100000
set_option maxHeartbeats 4000000
/-! Bp5: classes by a table; operators by data. -/
namespace Bp
open PySem L2 PyProof.Rows

/-- the numbers of the special names -/
def dnm : Nat → Str
  | 0 => "__init__" | 1 => "__add__" | 2 => "__radd__" | 3 => "__sub__" | 4 => "__rsub__" | 5 => "__mul__" | 6 => "__rmul__" | 7 => "__floordiv__" | 8 => "__rfloordiv__" | 9 => "__mod__" | 10 => "__rmod__"
  | 11 => "__pow__" | 12 => "__rpow__" | 13 => "__eq__" | 14 => "__ne__" | 15 => "__lt__" | 16 => "__le__" | 17 => "__gt__" | 18 => "__ge__" | 19 => "__neg__" | 20 => "__abs__" | 21 => "__bool__" | 22 => "__str__"
  | 23 => "__len__" | 24 => "__contains__" | 25 => "__getitem__" | 26 => "__iter__" | 27 => "__call__"
  | 28 => "__repr__" | 29 => "__hash__" | 30 => "__setitem__" | 31 => "__delitem__" | 32 => "__next__" | 33 => "__new__" | 34 => "__enter__" | 35 => "__exit__" | 36 => "__format__" | 37 => "__index__" | 38 => "__bytes__" | _ => "__or__"
/-- a type's mark: a built-in type, an own class -/
inductive Tg where
  | b (n : String) | c (n : Nat)
  deriving DecidableEq
inductive TV (mg : Str → Option Value) (tn : Tn) : Tg → Value → Prop where
  | b (n : String) : TV mg tn (.b n) (.type n)
  | c (n : Nat) (C : Addr) (h : mg (tn.nm n) = some (.ref C)) : TV mg tn (.c n) (.ref C)
/-- a class's table: a method's number of parameters (self too) and mirror; names that no class of it has; a property's mirror; constants; whether == is declined for None and texts -/
structure CT where
  tn : Tn
  kn : Nat → Bool
  meth : Nat → Nat → Option (Nat × Fn)
  no : Nat → Nat → Bool
  one : Nat → Bool
  ni : Nat → Bool
  prop : Nat → Nat → Option Fn
  isi : Tg → Tg → Option Bool
  mkr : Nat → Option (Nat × List D × Fn)
  N : Nat
  exo : Nat → Bool
  xm : Nat → Tg → Option Bool
  inp : Nat → Bool
/-- no class of the road has an in-place operator -/
def inpFree (K : PySem.W.Frag) (C : Addr) : Bool := match PySem.W.clsIn K C with
  | some cd => cd.mro.all fun m => [Operator.Add, .Sub, .Mult, .FloorDiv, .Mod, .Pow].all fun op => (match PySem.W.findIn K m (dunderI op.info.2) with
    | some none => true
    | _ => false)
  | none => false
structure ExF (K : PySem.W.Frag) (mg : Str → Option Value) (tn : Tn) (c : Nat) (C : Addr) : Prop where
  mg : mg (tn.nm c) = some (.ref C)
  kp : PySem.W.keepIn K (.ref C) = true
  rs1 : PySem.W.subIn K (.ref C) (.type "BaseException") = some true
  rs2 : PySem.W.typeIn K (.ref C) = some (.type "type")
  ec : ExcC K C
structure ClsF (K : PySem.W.Frag) (mg : Str → Option Value) (tn : Tn) (c : Nat) (C : Addr) : Prop where
  mg : mg (tn.nm c) = some (.ref C)
  cls : Cls K C
  sf : PySem.W.selfFirst K C = true
  obj : PySem.W.subIn K (.ref C) (.type "object") = some true
  nint : PySem.W.subIn K (.ref C) (.type "int") = some false
  fnd : ((tn.fl c).map tn.nm).Nodup
  ca : PySem.W.findIn K (.ref C) "__class__" = some (some (.builtin "object.__class__"))
  cn : PySem.W.specialIn K (.builtin "object.__class__") "__get__" = some (some (.builtin "getset_descriptor.__get__"))
  ct : PySem.W.takesIn K (.builtin "object.__class__") = some true
  mro : PySem.W.mroIn K C (.type "object") = some true
/-- what == with None and with texts is: declined -/
def NiOk (P : Program) (w : World) (K : PySem.W.Frag) (mg : Str → Option Value) (base : Heap) (tn : Tn) (L : Nat) (c : Nat) (f : Addr) (fd : FuncData) : Prop :=
  ∀ (A : Around) (outer : List PySem.Env) (s : Shared) (H : Hp) (args : Args) (us : List Value) (ps : List Str) (W : Wd) (S : Store) (xs : List D) (y : D) (vs : List V) (Q : Hp → Prop),
    Room L A → Env0 P w K mg base A outer s H → BindsTo s fd args ((["self", "other"] : List Str).zip us) → Vals vs us → Rel ⟨K, mg, tn, none⟩ W S H → RepL ⟨K, mg, tn, none⟩ W [.ins c xs, y] vs → (y = .non ∨ ∃ z, y = .str z) →
    (∀ W' H', Le W W' → Rel ⟨K, mg, tn, none⟩ W' S H' → Q H') →
    codeAny (model P w) A (.call (.ref f) args) (fun r s' => r = .ok (.ret .notImplemented) ∧ CE outer P w H s (fun _ H' => Q H') .none s') s
structure CT.Ok (T : CT) (P : Program) (w : World) (K : PySem.W.Frag) (mg : Str → Option Value) (base : Heap) (L : Nat) : Prop where
  dn : ∀ k, k < 40 → T.tn.nm k = dnm k
  cls : ∀ c, T.kn c = true → ∃ C, ClsF K mg T.tn c C
  meth : ∀ c m n g, T.meth c m = some (n, g) → ∀ C, ClsF K mg T.tn c C → ∃ (f : Addr) (fd : FuncData) (ps : List Str), Meth K C (T.tn.nm m) f ∧ ps.length = n ∧ FnOk P w K mg base (L2.CX P w) L f fd ps (spM ⟨K, mg, T.tn, none⟩ n g) ∧ Binds K fd ps []
  mkn : ∀ c m n g, T.meth c m = some (n, g) → T.kn c = true
  no : ∀ c m, T.no c m = true → ∀ C, ClsF K mg T.tn c C → NoAttr K C (T.tn.nm m)
  one : ∀ c, T.one c = true → ∀ C, ClsF K mg T.tn c C → PySem.W.findIn K (.ref C) "__ne__" = some (some (.builtin "object.__ne__"))
  ni : ∀ c, T.ni c = true → ∀ C, ClsF K mg T.tn c C → ∃ (f : Addr) (fd : FuncData), Meth K C "__eq__" f ∧ NiOk P w K mg base T.tn L c f fd ∧ Binds K fd ["self", "other"] []
  nik : ∀ c, T.ni c = true → T.kn c = true
  prop : ∀ c m g, T.prop c m = some g → T.kn c = true ∧ ∀ C, ClsF K mg T.tn c C → ∃ (p ga : Addr) (fd : FuncData) (ps : List Str), PropOf K C (T.tn.nm m) p ga ∧ ps.length = 1 ∧ FnOk P w K mg base (L2.CX P w) L ga fd ps (spM ⟨K, mg, T.tn, none⟩ 1 g) ∧ Binds K fd ps []
  mkr : ∀ c n dfl g, T.mkr c = some (n, dfl, g) → T.kn c = true ∧ ∀ C, ClsF K mg T.tn c C → ∃ (f : Addr) (fd : FuncData) (ps : List Str) (dvs : List V), Mk K C f ∧ ps.length = n ∧ FnOk P w K mg base (L2.CX P w) L f fd ps (spM ⟨K, mg, T.tn, none⟩ n g) ∧ (∀ W, RepL ⟨K, mg, T.tn, none⟩ W dfl dvs) ∧ ∀ j, j ≤ dfl.length → ∃ dus, Vals (dvs.drop j) dus ∧ Binds K fd ps dus
  inj : ((List.range T.N).map T.tn.nm).Nodup
  flN : ∀ c, T.kn c = true → ∀ f ∈ T.tn.fl c, f < T.N
  exo : ∀ c, T.exo c = true → ∃ (C : Addr) (B newId initId : String) (bmB : List Value), ExF K mg T.tn c C ∧ ExcBaseFacts B newId initId bmB ∧ PySem.W.excIn K C bmB newId = true
  xm : ∀ c t r, T.xm c t = some r → ∀ C tv, mg (T.tn.nm c) = some (.ref C) → TV mg T.tn t tv → PySem.W.exmOne K (.ref C) tv = some r
  inp : ∀ c, T.inp c = true → ∀ C, ClsF K mg T.tn c C → inpFree K C = true
  isi : ∀ t c r, T.isi t c = some r → ∀ tv cv, TV mg T.tn t tv → TV mg T.tn c cv → PySem.W.kitOne K tv cv = some r
theorem ClsF.uniq {K : PySem.W.Frag} {mg : Str → Option Value} {tn : Tn} {c : Nat} {C C' : Addr} (a : ClsF K mg tn c C) (b : mg (tn.nm c) = some (.ref C')) : C' = C := by
  have := a.mg.symm.trans b
  cases this
  rfl
theorem Meth.uniq {K : PySem.W.Frag} {C : Addr} {m : Str} {f g : Addr} (a : Meth K C m f) (b : Meth K C m g) : f = g := by
  have := a.at_.symm.trans b.at_
  cases this
  rfl
/-- a call of a class's method by its table -/
def dund (T : CT) (c m : Nat) : Fn := fun args S => match T.meth c m with
  | some (n, g) => if args.length = n then g args S else .bad
  | none => .bad

section
variable {fl : Pm} {X : Cx} {Wx : WX} {T : CT} {L k : Nat}
/-- a def runs below the running body -/
theorem run_spMA {f : Addr} {fd : FuncData} {ps : List Str} {n : Nat} {g : Fn} {A : Around} {pins : List (Addr × Obj)} {σ : L2.St} {H : Hp} {s : Shared} {Q : VK} {us : List Value} {vs : List V} {W : Wd} {ds : List D} {S : Store}
    (F : FnOk X.prog X.w X.K X.mg X.base (L2.CX X.prog X.w) L f fd ps (spM (gx X fl) n g)) (hr : Room L A) (hfr : A.frames = X.A.frames) (hb : Binds X.K fd ps []) (tk : Takes X Wx) (I : Inv X pins σ H s) (r : Vals vs us) (hn : vs.length = n) (hn' : ps.length = n) (R : Rel (gx X fl) W S H) (rl : RepL (gx X fl) W ds vs)
    (q : Ev (RepV (gx X fl)) (gx X fl) W (g ds S) Q (fun c d H => Wx c d σ H)) : wpAny (model X.prog X.w) A (call (.ref f) us) (EP X pins σ Q) X.xe s := by
  have hl : us.length = ps.length := by rw [← r.length, hn, hn']
  have b := hb s us I.kIn (by rw [List.append_nil]; exact hl)
  rw [List.append_nil] at b
  have e0 : Env0 X.prog X.w X.K X.mg X.base A X.stack s H := by
    have e := I.env0
    exact ⟨by rw [hfr]; exact e.frames, e.mod, e.bs, e.bsz, e.funs, e.frf, e.hok, e.bare⟩
  refine wpAny_call (codeAny_mono (F.run A X.stack s H ⟨us, []⟩ us vs Q (fun c d H => Wx c d σ H) hr e0 b r ⟨hn, W, ds, S, R, rl, q⟩) fun r s' hq => ?_)
  cases r with
  | error e => exact passAt tk σ pins H s e s' I hq
  | ok fl =>
    cases fl with
    | ret u => exact I.after hq
    | next => exact False.elim hq
    | brk => exact False.elim hq
    | cont => exact False.elim hq
/-- what the layer knows of an instance -/
theorem inst_of {c : Nat} {xs : List D} {v : V} {u : Value} {W : Wd} {S : Store} {H : Hp} {pins : List (Addr × Obj)} {σ : L2.St} {s : Shared} (I : Inv X pins σ H s) (R : Rel (gx X fl) W S H) (r : RepV (gx X fl) W (.ins c xs) v) (ru : RelV v u) :
    ∃ a C dx fvs od, v = .ref a ∧ u = .ref a ∧ X.mg (fl.tn.nm c) = some (.ref C) ∧ H a = some (.ins C dx fvs) ∧ fvs.map (·.1) = (fl.tn.fl c).map fl.tn.nm ∧ RepL (gx X fl) W xs (fvs.map (·.2)) ∧ PySem.W.InstAt s.heap a (PySem.W.instObj C dx) C (some od) := by
  cases r with
  | ins _ _ a C dx fvs hc h hk rl =>
    cases ru
    obtain ⟨mA, O, _⟩ := ins_get I.hok (R.fr _ _ h)
    obtain ⟨od, J, _⟩ := O.look
    exact ⟨a, C, dx, fvs, od, rfl, rfl, hc, R.fr _ _ h, hk, rl, J⟩
theorem inst_prim {C dx : Addr} : ∀ v, (PySem.W.instObj C dx).data ≠ .prim v := fun v h => by cases h
/-- an own method is called by the machine: self and at most one more -/
theorem run_dund {c m : Nat} {ds : List D} {vs : List V} {us : List Value} {A : Around} {pins : List (Addr × Obj)} {σ : L2.St} {H : Hp} {s : Shared} {Q : VK} {W : Wd} {S : Store} {C : Addr} (hT : T.Ok X.prog X.w X.K X.mg X.base L) (htn : T.tn = fl.tn) (hfx : fl.x = none) (hr : Room L A) (hfr : A.frames = X.A.frames) (tk : Takes X Wx)
    (I : Inv X pins σ H s) (R : Rel (gx X fl) W S H) (cf : X.mg (fl.tn.nm c) = some (.ref C)) (r : Vals vs us) (rl : RepL (gx X fl) W ds vs) (q : Ev (RepV (gx X fl)) (gx X fl) W (dund T c m ds S) Q (fun c d H => Wx c d σ H)) :
    ClsF X.K X.mg fl.tn c C ∧ ∃ f, Meth X.K C (fl.tn.nm m) f ∧ wpAny (model X.prog X.w) A (call (.ref f) us) (EP X pins σ Q) X.xe s := by
  unfold dund at q
  split at q
  · rename_i n g hm
    split at q
    · rename_i hn
      obtain ⟨C', cl⟩ := hT.cls c (hT.mkn c m n g hm)
      rw [htn] at cl
      have := cl.uniq cf
      subst this
      obtain ⟨f, fd, ps, M, h1, F, hb⟩ := hT.meth c m n g hm C (by rw [htn]; exact cl)
      rw [htn] at M F
      rw [← gx_none hfx] at F
      exact ⟨cl, f, M, run_spMA F hr hfr hb tk I r (by rw [← rl.length]; exact hn) h1 R rl q⟩
    · exact q.elim
  · exact q.elim
theorem ep_cmpback {pins : List (Addr × Obj)} {σ : L2.St} {Q : VK} {v : Value} {s' : Shared} (h : EP X pins σ Q v s') : PySem.W.CmpBack (EP X pins σ Q) v s' := by
  obtain ⟨z, H', I', r, q⟩ := h
  exact SlX.cmpback r ⟨z, H', I', r, q⟩
/-! ### ints -/
/-- what an operation on two ints gives -/
def intOp : Operator → Int → Int → Option Int
  | .Add, i, j => some (i + j)
  | .Sub, i, j => some (i - j)
  | .Mult, i, j => if i.natAbs.log2 + j.natAbs.log2 < 1000000 then some (i * j) else none
  | .FloorDiv, i, j => if j ≠ 0 ∧ j.natAbs.log2 < 9000 then some (i.fdiv j) else none
  | .Mod, i, j => if j ≠ 0 then some (i.fmod j) else none
  | .Pow, i, j => if 0 ≤ j ∧ j ≤ 1000000 ∧ i.natAbs < 2 ^ 64 then some (i ^ j.toNat) else none
  | _, _, _ => none
theorem op_fdivX : OpR X (binaryOp .FloorDiv) (rI (fun _ j => j ≠ 0 ∧ j.natAbs.log2 < 9000) fun i j => .int (i.fdiv j)) := opI fun i j _ _ _ _ _ hc q => floordiv_int hc.1 q (.inl (PyProof.noPylong_of_log2 hc.2))
theorem int_op_run {op : Operator} {i j n : Int} {v u : Value} {pins : List (Addr × Obj)} {σ : L2.St} {H : Hp} {s : Shared} {Q : VK} (I : Inv X pins σ H s) (rx : RelV (.int i) v) (ry : RelV (.int j) u) (h : intOp op i j = some n) (q : Q (.int n) H) :
    wpAny (model X.prog X.w) X.A (binaryOp op v u) (EP X pins σ Q) X.xe s := by
  cases op with
  | Add => cases h; exact op_add pins s σ H _ _ v u Q I rx ry ⟨i, j, rfl, rfl, q⟩
  | Sub => cases h; exact op_sub pins s σ H _ _ v u Q I rx ry ⟨i, j, rfl, rfl, q⟩
  | Mult =>
    have h' : (if i.natAbs.log2 + j.natAbs.log2 < 1000000 then some (i * j) else none) = some n := h
    split at h'
    · rename_i hc; cases h'; exact op_mulW pins s σ H _ _ v u Q I rx ry ⟨i, j, rfl, rfl, hc, q⟩
    · cases h'
  | FloorDiv =>
    have h' : (if j ≠ 0 ∧ j.natAbs.log2 < 9000 then some (i.fdiv j) else none) = some n := h
    split at h'
    · rename_i hc; cases h'; exact op_fdivX pins s σ H _ _ v u Q I rx ry ⟨i, j, rfl, rfl, hc, q⟩
    · cases h'
  | Mod =>
    have h' : (if j ≠ 0 then some (i.fmod j) else none) = some n := h
    split at h'
    · rename_i hc; cases h'; exact op_modN pins s σ H _ _ v u Q I rx ry ⟨i, j, rfl, rfl, hc, q⟩
    · cases h'
  | Pow =>
    have h' : (if 0 ≤ j ∧ j ≤ 1000000 ∧ i.natAbs < 2 ^ 64 then some (i ^ j.toNat) else none) = some n := h
    split at h'
    · rename_i hc; cases h'; exact op_pow pins s σ H _ _ v u Q I rx ry ⟨i, j, rfl, rfl, hc, q⟩
    · cases h'
  | _ => cases h
/-- the two special names of an operator -/
def dop : Operator → Nat
  | .Add => 1 | .Sub => 3 | .Mult => 5 | .FloorDiv => 7 | .Mod => 9 | .Pow => 11 | _ => 39
def rop : Operator → Nat
  | .Add => 2 | .Sub => 4 | .Mult => 6 | .FloorDiv => 8 | .Mod => 10 | .Pow => 12 | _ => 39
def opD (T : CT) (op : Operator) (a b : D) (S : Store) : Res D := match a, b with
  | .int i, .int j => (match intOp op i j with
    | some n => .ok (.int n) S
    | none => .bad)
  | .str x, .str y => if op = .Add ∧ x.length + y.length ≤ sizeLine then .ok (.str (x ++ y)) S else .bad
  | .ins c xs, .ins c' ys => if c = c' ∧ dop op ≠ 39 then dund T c (dop op) [.ins c xs, .ins c' ys] S else .bad
  | .ins c xs, .int j => if dop op ≠ 39 ∧ dop op ≠ 11 ∧ (T.meth c (rop op)).isSome = true then dund T c (dop op) [.ins c xs, .int j] S else if dop op = 11 ∧ T.no c 12 = true then dund T c 11 [.ins c xs, .int j] S else .bad
  | .ref n, .ref m => (match S[n]?, S[m]? with
    | some (.lst xs), some (.lst ys) => if op = .Add ∧ xs.length + ys.length ≤ sizeLine then .ok (.ref S.length) (S ++ [.lst (xs ++ ys)]) else .bad
    | _, _ => .bad)
  | .tup xs, .tup ys => if op = .Add ∧ xs ≠ [] ∧ xs.length + ys.length ≤ sizeLine then .ok (.tup (xs ++ ys)) S else .bad
  | .int i, .ins c ys => if dop op ≠ 39 ∧ dop op ≠ 11 ∧ (T.meth c (dop op)).isSome = true then dund T c (rop op) [.ins c ys, .int i] S else .bad
  | _, _ => .bad
theorem dop_nm (h : ∀ k, k < 40 → T.tn.nm k = dnm k) {op : Operator} (ho : dop op ≠ 39) : T.tn.nm (dop op) = PySem.dunder op.info.2 ∧ T.tn.nm (rop op) = dunderR op.info.2 := by
  cases op <;> first | (exact absurd rfl ho) | (constructor <;> (rw [h _ (by decide)]; decide +kernel))
theorem fills_int {op : Operator} (ho : dop op ≠ 39) : fillsNumberSlot (.type "int") op.info.2 = pure true := by
  cases op <;> first | (exact absurd rfl ho) | exact fills_int_add | exact fills_int_sub | exact PySem.F.fills_int_mul | exact PySem.F.fills_int_floordiv | exact fills_int_mod | exact PySem.F.fills_int_pow
theorem rlook_int {op : Operator} (ho : dop op ≠ 39) : ∃ o, typeLookup (.type "int") (dunderR op.info.2) = pure o := by
  cases op
  case Add => exact ⟨some (.builtin "int.__radd__"), by rw [typeLookup_type, builtinLookup_eq_fast]; kernel_rfl⟩
  case Sub => exact ⟨some (.builtin "int.__rsub__"), by rw [typeLookup_type, builtinLookup_eq_fast]; kernel_rfl⟩
  case Mult => exact ⟨some (.builtin "int.__rmul__"), by rw [typeLookup_type, builtinLookup_eq_fast]; kernel_rfl⟩
  case FloorDiv => exact ⟨some (.builtin "int.__rfloordiv__"), by rw [typeLookup_type, builtinLookup_eq_fast]; kernel_rfl⟩
  case Mod => exact ⟨some (.builtin "int.__rmod__"), by rw [typeLookup_type, builtinLookup_eq_fast]; kernel_rfl⟩
  case Pow => exact ⟨some (.builtin "int.__rpow__"), by rw [typeLookup_type, builtinLookup_eq_fast]; kernel_rfl⟩
  all_goals exact absurd rfl ho
theorem decl_int {prog : Program} {w : World} {op : Operator} (ho : dop op ≠ 39) (h11 : dop op ≠ 11) : IntDecl prog w (PySem.dunder op.info.2) := by
  cases op <;> first | (exact absurd rfl ho) | (exact absurd rfl h11) | exact intDecl_add | exact intDecl_sub | exact intDecl_mul | exact intDecl_fd | exact intDecl_mod
theorem subInt {K : PySem.W.Frag} {C : Addr} : PySem.W.subIn K (.type "int") (.ref C) = some false := by
  have e : ∃ l : List Value, PySem.fastBuiltinMro "int" = some l ∧ l.all (fun v => match v with | .type _ => true | _ => false) = true := ⟨_, rfl, by decide +kernel⟩
  obtain ⟨l, e1, e2⟩ := e
  show (PySem.fastBuiltinMro "int").map (·.contains (.ref C)) = some false
  rw [e1]
  show some (l.contains (.ref C)) = some false
  congr 1
  rw [Bool.eq_false_iff]
  intro h
  have := List.contains_iff_mem.mp h
  have := List.all_eq_true.mp e2 _ this
  cases this
theorem bin_op {op : Operator} (hT : T.Ok X.prog X.w X.K X.mg X.base L) (htn : T.tn = fl.tn) (C0 : Cxt fl X Wx k) (hL : L ≤ k) : Bin2 fl X Wx (binaryOp op) (opD T op) := by
  intro pins s σ H x y v u W a b S Q I rx ry R ra rb q
  have hr : Room L X.A := C0.hr.mono hL
  obtain ⟨mfr, hF⟩ := I.fr
  unfold opD at q
  split at q
  · rename_i i j
    cases ra; cases rb
    split at q
    · rename_i n hn
      exact int_op_run I rx ry hn (q W _ H (.refl W) R (.int n))
    · exact q.elim
  · cases ra; cases rb
    split at q
    · rename_i hc
      obtain ⟨rfl, hz⟩ := hc
      exact op_add_str pins s σ H _ _ v u Q I rx ry ⟨_, _, rfl, rfl, hz, q W _ H (.refl W) R (.str _)⟩
    · exact q.elim
  · rename_i c xs c' ys
    split at q
    · rename_i hc
      obtain ⟨rfl, ho⟩ := hc
      obtain ⟨e1, e2⟩ := dop_nm hT.dn ho
      obtain ⟨A1, C, dx, fvs, od, rfl, rfl, hm, hH, _, _, J⟩ := inst_of I R ra rx
      obtain ⟨A2, C2, dx2, fvs2, od2, rfl, rfl, hm2, hH2, _, _, J2⟩ := inst_of I R rb ry
      rw [hm] at hm2
      cases hm2
      obtain ⟨cl, f, M, run⟩ := run_dund (vs := [.ref A1, .ref A2]) (us := [.ref A1, .ref A2]) hT htn C0.fx hr rfl C0.tk I R hm (.cons rfl (.cons rfl .nil)) (.cons ra (.cons rb .nil)) q
      rw [← htn, e1] at M
      exact binop_of (binop1_same hF I.ok.mod.kin J J2.type cl.sf M.at_ M.fn (wpAny_mono run (fun v s' hv => by
        have := ep_cmpback hv
        cases v <;> first | exact this.elim | exact ⟨_, rfl, this⟩) fun _ _ e => e))
    · exact q.elim
  · rename_i c xs j
    obtain ⟨A1, C, dx, fvs, od, rfl, rfl, hm, hH, _, _, J⟩ := inst_of I R ra rx
    cases rb
    obtain ⟨t, rfl⟩ := ry
    have fin : ∀ {o : Option Value}, dop op ≠ 39 → (∀ C', ClsF X.K X.mg fl.tn c C' → PySem.W.findIn X.K (.ref C') (dunderR op.info.2) = some o) → (∀ b, o ≠ some (.builtin b)) → Ev (RepV (gx X fl)) (gx X fl) W (dund T c (dop op) [.ins c xs, .int j] S) Q (fun c d H => Wx c d σ H) →
        wpAny (model X.prog X.w) X.A (binaryOp op (.ref A1) (.int j t)) (EP X pins σ Q) X.xe s := by
      intro o ho hro hob q
      obtain ⟨e1, e2⟩ := dop_nm hT.dn ho
      obtain ⟨cl, f, M, run⟩ := run_dund (vs := [.ref A1, .int j]) (us := [.ref A1, .int j t]) hT htn C0.fx hr rfl C0.tk I R hm (.cons rfl (.cons ⟨t, rfl⟩ .nil)) (.cons ra (.cons (.int j) .nil)) q
      rw [← htn, e1] at M
      obtain ⟨o', ho'⟩ := rlook_int ho
      exact binop_of (binop1_left (tb := .type "int") (rb := true) (np := false) hF I.ok.mod.kin J (fun A' Q' E' s' _ q' => wpAny_typeOf (typeIs_int s' j t) q') rfl cl.sf M.at_ M.fn (hro C cl) hob (PySem.W.looks_subIn I.kIn subInt) (fun A' Q' E' s' _ q' => wpAny_of_eq (fills_int ho) q') (fun A' Q' E' s' _ q' => wpAny_of_eq (a := false) (by rfl) q')
        (fun _ => ⟨o', fun A' Q' E' s' _ q' => wpAny_of_eq ho' q'⟩) (wpAny_mono run (fun v s' hv => by
          have := ep_cmpback hv
          cases v <;> first | exact this.elim | exact ⟨_, rfl, this⟩) fun _ _ e => e))
    split at q
    · rename_i hc
      obtain ⟨ho, h11, hrm⟩ := hc
      obtain ⟨e1, e2⟩ := dop_nm hT.dn ho
      obtain ⟨⟨nr, gr⟩, hrm'⟩ := Option.isSome_iff_exists.mp hrm
      obtain ⟨C', cl'⟩ := hT.cls c (hT.mkn _ _ _ _ hrm')
      obtain ⟨fr, _, _, Mr, _⟩ := hT.meth c (rop op) nr gr hrm' C' cl'
      refine fin (o := some (.ref fr)) ho (fun C2 cl2 => ?_) (fun b => by simp) q
      rw [htn] at cl'
      have := cl'.uniq cl2.mg
      subst this
      rw [← e2]
      exact Mr.at_
    · split at q
      · rename_i hc
        obtain ⟨h11, hno⟩ := hc
        have ho : dop op ≠ 39 := by rw [h11]; decide
        obtain ⟨e1, e2⟩ := dop_nm hT.dn ho
        refine fin (o := none) ho (fun C2 cl2 => ?_) (fun b => by simp) (by rw [h11]; exact q)
        have z := hT.no c 12 hno C2 (by rw [htn]; exact cl2)
        have : rop op = 12 := by cases op <;> first | rfl | cases h11
        rw [← e2, this]
        exact z
      · exact q.elim
  · rename_i n m
    cases ra with
    | ref _ A hA =>
    cases rb with
    | ref _ B hB =>
      cases rx; cases ry
      split at q
      · rename_i xs ys h1 h2
        split at q
        · rename_i hc
          obtain ⟨rfl, hz⟩ := hc
          obtain ⟨ho1, g1, o1⟩ := R.obj n A _ hA h1
          obtain ⟨ho2, g2, o2⟩ := R.obj m B _ hB h2
          cases o1 with
          | lst _ vs r1 =>
          cases o2 with
          | lst _ us r2 =>
            refine op_cat pins s σ H (.ref A) (.ref B) _ _ Q I rfl rfl ⟨A, B, vs, us, rfl, rfl, g1, g2, by rw [← r1.length, ← r2.length]; exact hz, fun p hp => ?_⟩
            have lw : Le W ⟨W.F, W.μ ++ [p], W.xs⟩ := ⟨fun _ _ e => e, List.prefix_append _ _, List.prefix_rfl⟩
            obtain ⟨l2, R2⟩ := R.new hp (o := .lst (xs ++ ys)) (ho := .lst (vs ++ us)) (.lst _ _ (RepL.mono lw (r1.append r2)))
            exact q _ _ _ l2 R2 (.ref _ _ (by show (W.μ ++ [p])[S.length]? = some p; rw [← R.len]; simp))
        · exact q.elim
      · exact q.elim
  · rename_i xs ys
    cases ra with
    | tup _ vs A hA r1 =>
    cases rb with
    | tup _ us B hB r2 =>
      cases rx; cases ry
      split at q
      · rename_i hc
        obtain ⟨rfl, hne, hz⟩ := hc
        refine op_catT pins s σ H (.ref A) (.ref B) _ _ Q I rfl rfl ⟨A, B, vs, us, rfl, rfl, .inl (.inl (R.fr _ _ hA)), .inl (.inl (R.fr _ _ hB)), fun z => ?_, by rw [← r1.length, ← r2.length]; exact hz, fun z => ?_, fun z p hp => ?_⟩
        · subst z
          cases r1
          exact hne rfl
        · subst z
          cases r2
          rw [List.append_nil] at q
          exact q W _ H (.refl W) R (.tup _ _ A hA r1)
        · obtain ⟨l2, R2⟩ := R.fix hp (.tup (vs ++ us))
          exact q _ _ _ l2 R2 (.tup _ _ p upd_same ((r1.append r2).mono l2))
      · exact q.elim
  · rename_i i c ys
    split at q
    · rename_i hc
      obtain ⟨ho, h11, hdm⟩ := hc
      obtain ⟨e1, e2⟩ := dop_nm hT.dn ho
      obtain ⟨⟨nr, gr⟩, hdm'⟩ := Option.isSome_iff_exists.mp hdm
      obtain ⟨C', cl'⟩ := hT.cls c (hT.mkn _ _ _ _ hdm')
      obtain ⟨fd, _, _, Md, _⟩ := hT.meth c (dop op) nr gr hdm' C' cl'
      obtain ⟨A1, C, dx, fvs, od, rfl, rfl, hm, hH, _, _, J⟩ := inst_of I R rb ry
      rw [htn] at cl'
      have := cl'.uniq hm
      subst this
      cases ra
      obtain ⟨t, rfl⟩ := rx
      obtain ⟨cl, f, M, run⟩ := run_dund (vs := [.ref A1, .int i]) (us := [.ref A1, .int i t]) hT htn C0.fx hr rfl C0.tk I R hm (.cons rfl (.cons ⟨t, rfl⟩ .nil)) (.cons rb (.cons (.int i) .nil)) q
      rw [← htn, e2] at M
      rw [e1] at Md
      exact binop_of (binop1_right hF I.ok.mod.kin J cl.sf inst_prim Md.at_ M.at_ M.fn cl.nint (fills_int ho) (decl_int ho h11) (wpAny_mono run (fun v s' hv => by
        have := ep_cmpback hv
        cases v <;> first | exact this.elim | exact ⟨_, rfl, this⟩) fun _ _ e => e))
    · exact q.elim
  · exact q.elim
def isI : D → Bool
  | .ins _ _ => true
  | _ => false
theorem own_op1 {op : Operator} (hT : T.Ok X.prog X.w X.K X.mg X.base L) (htn : T.tn = fl.tn) (C0 : Cxt fl X Wx k) (hL : L ≤ k) {pins : List (Addr × Obj)} {s : Shared} {σ : L2.St} {H : Hp} {x y : V} {v u : Value} {W : Wd} {a b : D} {S : Store} {Q : VK} (hi : isI a = true ∨ isI b = true) (I : Inv X pins σ H s) (rx : RelV x v) (ry : RelV y u) (R : Rel (gx X fl) W S H) (ra : RepV (gx X fl) W a x) (rb : RepV (gx X fl) W b y)
    (q : Ev (RepV (gx X fl)) (gx X fl) W (opD T op a b S) Q (fun c d H => Wx c d σ H)) : wpAny (model X.prog X.w) X.A (binaryOp1 op.info.2 v u) (fun r s' => ∃ v, r = some v ∧ EP X pins σ Q v s') X.xe s := by
  have hr : Room L X.A := C0.hr.mono hL
  obtain ⟨mfr, hF⟩ := I.fr
  unfold opD at q
  split at q
  · rcases hi with z | z <;> cases z
  · rcases hi with z | z <;> cases z
  · rename_i c xs c' ys
    split at q
    · rename_i hc
      obtain ⟨rfl, ho⟩ := hc
      obtain ⟨e1, e2⟩ := dop_nm hT.dn ho
      obtain ⟨A1, C, dx, fvs, od, rfl, rfl, hm, hH, _, _, J⟩ := inst_of I R ra rx
      obtain ⟨A2, C2, dx2, fvs2, od2, rfl, rfl, hm2, hH2, _, _, J2⟩ := inst_of I R rb ry
      rw [hm] at hm2
      cases hm2
      obtain ⟨cl, f, M, run⟩ := run_dund (vs := [.ref A1, .ref A2]) (us := [.ref A1, .ref A2]) hT htn C0.fx hr rfl C0.tk I R hm (.cons rfl (.cons rfl .nil)) (.cons ra (.cons rb .nil)) q
      rw [← htn, e1] at M
      exact (binop1_same hF I.ok.mod.kin J J2.type cl.sf M.at_ M.fn (wpAny_mono run (fun v s' hv => by
        have := ep_cmpback hv
        cases v <;> first | exact this.elim | exact ⟨_, rfl, this⟩) fun _ _ e => e))
    · exact q.elim
  · rename_i c xs j
    obtain ⟨A1, C, dx, fvs, od, rfl, rfl, hm, hH, _, _, J⟩ := inst_of I R ra rx
    cases rb
    obtain ⟨t, rfl⟩ := ry
    have fin : ∀ {o : Option Value}, dop op ≠ 39 → (∀ C', ClsF X.K X.mg fl.tn c C' → PySem.W.findIn X.K (.ref C') (dunderR op.info.2) = some o) → (∀ b, o ≠ some (.builtin b)) → Ev (RepV (gx X fl)) (gx X fl) W (dund T c (dop op) [.ins c xs, .int j] S) Q (fun c d H => Wx c d σ H) →
        wpAny (model X.prog X.w) X.A (binaryOp1 op.info.2 (.ref A1) (.int j t)) (fun r s' => ∃ v, r = some v ∧ EP X pins σ Q v s') X.xe s := by
      intro o ho hro hob q
      obtain ⟨e1, e2⟩ := dop_nm hT.dn ho
      obtain ⟨cl, f, M, run⟩ := run_dund (vs := [.ref A1, .int j]) (us := [.ref A1, .int j t]) hT htn C0.fx hr rfl C0.tk I R hm (.cons rfl (.cons ⟨t, rfl⟩ .nil)) (.cons ra (.cons (.int j) .nil)) q
      rw [← htn, e1] at M
      obtain ⟨o', ho'⟩ := rlook_int ho
      exact (binop1_left (tb := .type "int") (rb := true) (np := false) hF I.ok.mod.kin J (fun A' Q' E' s' _ q' => wpAny_typeOf (typeIs_int s' j t) q') rfl cl.sf M.at_ M.fn (hro C cl) hob (PySem.W.looks_subIn I.kIn subInt) (fun A' Q' E' s' _ q' => wpAny_of_eq (fills_int ho) q') (fun A' Q' E' s' _ q' => wpAny_of_eq (a := false) (by rfl) q')
        (fun _ => ⟨o', fun A' Q' E' s' _ q' => wpAny_of_eq ho' q'⟩) (wpAny_mono run (fun v s' hv => by
          have := ep_cmpback hv
          cases v <;> first | exact this.elim | exact ⟨_, rfl, this⟩) fun _ _ e => e))
    split at q
    · rename_i hc
      obtain ⟨ho, h11, hrm⟩ := hc
      obtain ⟨e1, e2⟩ := dop_nm hT.dn ho
      obtain ⟨⟨nr, gr⟩, hrm'⟩ := Option.isSome_iff_exists.mp hrm
      obtain ⟨C', cl'⟩ := hT.cls c (hT.mkn _ _ _ _ hrm')
      obtain ⟨fr, _, _, Mr, _⟩ := hT.meth c (rop op) nr gr hrm' C' cl'
      refine fin (o := some (.ref fr)) ho (fun C2 cl2 => ?_) (fun b => by simp) q
      rw [htn] at cl'
      have := cl'.uniq cl2.mg
      subst this
      rw [← e2]
      exact Mr.at_
    · split at q
      · rename_i hc
        obtain ⟨h11, hno⟩ := hc
        have ho : dop op ≠ 39 := by rw [h11]; decide
        obtain ⟨e1, e2⟩ := dop_nm hT.dn ho
        refine fin (o := none) ho (fun C2 cl2 => ?_) (fun b => by simp) (by rw [h11]; exact q)
        have z := hT.no c 12 hno C2 (by rw [htn]; exact cl2)
        have : rop op = 12 := by cases op <;> first | rfl | cases h11
        rw [← e2, this]
        exact z
      · exact q.elim
  · rcases hi with z | z <;> cases z
  · rcases hi with z | z <;> cases z
  · rename_i i c ys
    split at q
    · rename_i hc
      obtain ⟨ho, h11, hdm⟩ := hc
      obtain ⟨e1, e2⟩ := dop_nm hT.dn ho
      obtain ⟨⟨nr, gr⟩, hdm'⟩ := Option.isSome_iff_exists.mp hdm
      obtain ⟨C', cl'⟩ := hT.cls c (hT.mkn _ _ _ _ hdm')
      obtain ⟨fd, _, _, Md, _⟩ := hT.meth c (dop op) nr gr hdm' C' cl'
      obtain ⟨A1, C, dx, fvs, od, rfl, rfl, hm, hH, _, _, J⟩ := inst_of I R rb ry
      rw [htn] at cl'
      have := cl'.uniq hm
      subst this
      cases ra
      obtain ⟨t, rfl⟩ := rx
      obtain ⟨cl, f, M, run⟩ := run_dund (vs := [.ref A1, .int i]) (us := [.ref A1, .int i t]) hT htn C0.fx hr rfl C0.tk I R hm (.cons rfl (.cons ⟨t, rfl⟩ .nil)) (.cons rb (.cons (.int i) .nil)) q
      rw [← htn, e2] at M
      rw [e1] at Md
      exact (binop1_right hF I.ok.mod.kin J cl.sf inst_prim Md.at_ M.at_ M.fn cl.nint (fills_int ho) (decl_int ho h11) (wpAny_mono run (fun v s' hv => by
        have := ep_cmpback hv
        cases v <;> first | exact this.elim | exact ⟨_, rfl, this⟩) fun _ _ e => e))
    · exact q.elim
  · exact q.elim
/-! ### in place -/
theorem anyM_none {M : Model} {A : Around} {E : Value → Shared → Prop} {f : Value → Sem Bool} {Q : Bool → Shared → Prop} {s : Shared} : ∀ {ms : List Value}, (∀ m ∈ ms, ∀ Q' : Bool → Shared → Prop, Q' false s → wpAny M A (f m) Q' E s) → Q false s → wpAny M A (ms.anyM f) Q E s
  | [], _, q => wpAny_pure q
  | m :: ms, h, q => by
    rw [List.anyM_cons]
    refine wpAny_bind (h m List.mem_cons_self _ ?_)
    exact anyM_none (fun m' hm => h m' (List.mem_cons_of_mem _ hm)) q
theorem fills_free {M : Model} {h : Heap} {K : PySem.W.Frag} {C : Addr} {op : Operator} {add : Bool} (X : K.In h) (hf : inpFree K C = true) (ho : dop op ≠ 39) : PySem.W.Looks M h (fillsInplaceSlot (.ref C) op.info.2 add) false := by
  intro A Q E s k q
  unfold inpFree at hf
  split at hf
  · rename_i cd hc
    have Lm : PySem.W.Looks M h (mroOf (.ref C)) cd.mro := (PySem.W.looks_clsIn X hc).andThen (f := fun cd => pure cd.mro) .now
    have Lm' := Lm.keeps k
    obtain ⟨hh, g, d, tt, os⟩ := s
    have X' : K.In hh := X.keeps k
    unfold fillsInplaceSlot
    refine wpAny_bind (Lm'.at ?_)
    refine anyM_none (fun m hm Q' q' => ?_) q
    have h1 : PySem.W.findIn K m (dunderI op.info.2) = some none := by
      have z := List.all_eq_true.mp (List.all_eq_true.mp hf m hm) op (by cases op <;> first | (exact absurd rfl ho) | decide)
      cases e : PySem.W.findIn K m (dunderI op.info.2) with
      | none => rw [e] at z; cases z
      | some o =>
        cases o with
        | none => rfl
        | some w => rw [e] at z; cases z
    refine wpAny_bind ((PySem.W.looks_findIn X' h1).at ?_)
    exact wpAny_pure q'
  · cases hf
theorem inp_of {op : Operator} {a b ta : Value} {Q : Value → Shared → Prop} {M : Model} {A : Around} {E : Value → Shared → Prop} {s : Shared} (h1 : PySem.W.Looks M s.heap (typeOf a) ta) (h2 : PySem.W.Looks M s.heap (fillsInplaceSlot ta op.info.2 (op == .Add)) false)
    (h : wpAny M A (binaryOp1 op.info.2 a b) (fun r s' => ∃ v, r = some v ∧ Q v s') E s) : wpAny M A (inplaceOp op a b) Q E s := by
  obtain ⟨hh, g, d, tt, os⟩ := s
  unfold inplaceOp
  refine wpAny_holding (wpAny_bind (h1.at (wpAny_bind (h2.at ?_))))
  rw [if_neg (by decide)]
  refine wpAny_bind (wpAny_mono h (fun r s' hr => ?_) fun _ _ e => e)
  obtain ⟨v, rfl, q⟩ := hr
  exact wpAny_pure q
theorem fills_inp_int {op : Operator} (ho : dop op ≠ 39) (add : Bool) : fillsInplaceSlot (.type "int") op.info.2 add = pure false := by
  have e : ∀ n : Str, typeLookup (.type "int") n = pure none → (do let fi ← typeLookup (.type "int") n; return fi.isSome && !isSeqSlot fi : Sem Bool) = pure false := fun n h => by rw [h]; rfl
  unfold fillsInplaceSlot
  cases op <;> first | (exact absurd rfl ho) | (refine e _ ?_; rw [typeLookup_type, builtinLookup_eq_fast]; kernel_rfl)
def ipD (T : CT) (op : Operator) (a b : D) (S : Store) : Res D := match a, b with
  | .int i, .int j => (match op with
    | .Add => .ok (.int (i + j)) S
    | .Sub => .ok (.int (i - j)) S
    | _ => .bad)
  | .ins c xs, b => if T.inp c = true ∧ T.kn c = true ∧ dop op ≠ 39 then opD T op (.ins c xs) b S else .bad
  | .int i, .ins c ys => if dop op ≠ 39 then opD T op (.int i) (.ins c ys) S else .bad
  | _, _ => .bad
theorem bin_ip {op : Operator} (hT : T.Ok X.prog X.w X.K X.mg X.base L) (htn : T.tn = fl.tn) (C0 : Cxt fl X Wx k) (hL : L ≤ k) : Bin2 fl X Wx (inplaceOp op) (ipD T op) := by
  intro pins s σ H x y v u W a b S Q I rx ry R ra rb q
  unfold ipD at q
  split at q
  · rename_i i j
    cases ra; cases rb
    split at q
    · exact ip_add pins s σ H _ _ v u Q I rx ry ⟨i, j, rfl, rfl, q W _ H (.refl W) R (.int _)⟩
    · exact ip_sub pins s σ H _ _ v u Q I rx ry ⟨i, j, rfl, rfl, q W _ H (.refl W) R (.int _)⟩
    · exact q.elim
  · rename_i c xs
    split at q
    · rename_i hc
      obtain ⟨hin, hkn, ho⟩ := hc
      obtain ⟨A1, C, dx, fvs, od, rfl, rfl, hm, hH, _, _, J⟩ := inst_of I R ra rx
      obtain ⟨C', cl⟩ := hT.cls c hkn
      have hf := hT.inp c hin C' cl
      rw [htn] at cl
      have := cl.uniq hm
      subst this
      exact inp_of J.type (fills_free I.kIn hf ho) (own_op1 hT htn C0 hL (a := .ins c xs) (.inl rfl) I (show RelV (.ref A1) (.ref A1) from rfl) ry R ra rb q)
    · exact q.elim
  · rename_i i c ys
    split at q
    · rename_i ho
      have rx' := rx
      have ra' := ra
      cases ra
      obtain ⟨t, rfl⟩ := rx
      exact inp_of (fun A' Q' E' s' _ q' => wpAny_typeOf (typeIs_int s' i t) q') (fun A' Q' E' s' _ q' => wpAny_of_eq (fills_inp_int ho _) q') (own_op1 hT htn C0 hL (b := .ins c ys) (.inr rfl) I rx' ry R ra' rb q)
    · exact q.elim
  · exact q.elim
end
end Bp


set_option Elab.async false
set_option linter.all false
set_option maxRecDepth 100000
set_option maxHeartbeats 4000000
/-! Bp6: comparisons, truth, attributes, isinstance, subscripts, built-ins. -/
namespace Bp
open PySem L2 PyProof.Rows

/-- == of plain values -/
def eqS : D → D → Option Bool
  | .non, .non => some true | .non, .int _ => some false | .int _, .non => some false | .non, .bl _ => some false | .bl _, .non => some false | .non, .str _ => some false | .str _, .non => some false
  | .int i, .int j => some (decide (i = j)) | .bl i, .bl j => some (decide (i = j)) | .str i, .str j => some (decide (i = j))
  | .int _, .str _ => some false | .str _, .int _ => some false | .bl _, .str _ => some false | .str _, .bl _ => some false
  | _, _ => none
/-- the numbers of a comparison's special names -/
def cop : CmpOp → Nat
  | .Eq => 13 | .NotEq => 14 | .Lt => 15 | .LtE => 16 | .Gt => 17 | .GtE => 18 | _ => 39
def copR : CmpOp → Nat
  | .Eq => 13 | .NotEq => 14 | .Lt => 17 | .LtE => 18 | .Gt => 15 | .GtE => 16 | _ => 39
def intCmp : CmpOp → Int → Int → Option Bool
  | .Lt, i, j => some (decide (i < j)) | .LtE, i, j => some (decide (i ≤ j)) | .Gt, i, j => some (decide (j < i)) | .GtE, i, j => some (decide (j ≤ i))
  | .Eq, i, j => some (decide (i = j)) | .NotEq, i, j => some (!decide (i = j))
  | _, _, _ => none
def notR (r : Res D) : Res D := r.bind fun d S => match d with
  | .bl b => .ok (.bl (!b)) S
  | _ => .bad
/-- one own method of two, where the other side is an int or an instance of the class -/
def cmpD (T : CT) (op : CmpOp) (a b : D) (S : Store) : Res D := match a, b with
  | .int i, .int j => (match intCmp op i j with
    | some k => .ok (.bl k) S
    | none => .bad)
  | .ins c xs, .ins c' ys => if c = c' then (match op with
    | .NotEq => if T.one c = true then notR (dund T c 13 [.ins c xs, .ins c' ys] S) else .bad
    | _ => if cop op ≠ 39 then dund T c (cop op) [.ins c xs, .ins c' ys] S else .bad) else .bad
  | .ins c xs, .int j => (match op with
    | .NotEq => if T.one c = true then notR (dund T c 13 [.ins c xs, .int j] S) else .bad
    | _ => if cop op ≠ 39 then dund T c (cop op) [.ins c xs, .int j] S else .bad)
  | .int i, .ins c ys => (match op with
    | .NotEq => if T.one c = true then notR (dund T c 13 [.ins c ys, .int i] S) else .bad
    | _ => if cop op ≠ 39 then dund T c (copR op) [.ins c ys, .int i] S else .bad)
  | .ins c xs, .non => (match op with
    | .Eq => if T.ni c = true then .ok (.bl false) S else .bad
    | .NotEq => if T.ni c = true ∧ T.one c = true then .ok (.bl true) S else .bad
    | _ => .bad)
  | .ins c xs, .str y => (match op with
    | .Eq => if T.ni c = true then .ok (.bl false) S else .bad
    | .NotEq => if T.ni c = true ∧ T.one c = true then .ok (.bl true) S else .bad
    | _ => .bad)
  | .str x, .str y => (match op with
    | .Eq => .ok (.bl (decide (x = y))) S
    | .NotEq => .ok (.bl (!decide (x = y))) S
    | .Lt => .ok (.bl (decide (x.cps.toList < y.cps.toList))) S
    | _ => .bad)
  | a, b => (match op with
    | .Eq => (match eqS a b with
      | some k => .ok (.bl k) S
      | none => .bad)
    | .NotEq => (match eqS a b with
      | some k => .ok (.bl (!k)) S
      | none => .bad)
    | _ => .bad)
section
variable {fl : Pm} {X : Cx} {Wx : WX} {T : CT} {L k : Nat}
theorem cop_nm (h : ∀ k, k < 40 → T.tn.nm k = dnm k) {op : CmpOp} (ho : cop op ≠ 39) : T.tn.nm (cop op) = (cmpInfo op).2.1 ∧ T.tn.nm (copR op) = (cmpInfo op).2.2 := by
  cases op <;> first | (exact absurd rfl ho) | (constructor <;> (rw [h _ (by decide)]; decide +kernel))
theorem int_cmp_run {op : CmpOp} {i j : Int} {n : Bool} {v u : Value} {pins : List (Addr × Obj)} {σ : L2.St} {H : Hp} {s : Shared} {Q : VK} (I : Inv X pins σ H s) (rx : RelV (.int i) v) (ry : RelV (.int j) u) (h : intCmp op i j = some n) (q : Q (.bl n) H) :
    wpAny (model X.prog X.w) X.A (compareOp op v u) (EP X pins σ Q) X.xe s := by
  cases op with
  | Lt => cases h; exact op_lt pins s σ H _ _ v u Q I rx ry ⟨i, j, rfl, rfl, q⟩
  | LtE => cases h; exact op_le pins s σ H _ _ v u Q I rx ry ⟨i, j, rfl, rfl, q⟩
  | Gt => cases h; exact op_gt pins s σ H _ _ v u Q I rx ry ⟨i, j, rfl, rfl, q⟩
  | GtE => cases h; exact op_ge pins s σ H _ _ v u Q I rx ry ⟨i, j, rfl, rfl, q⟩
  | Eq => cases h; exact op_eq pins s σ H _ _ v u Q I rx ry ⟨rfl, by rw [show decide (V.int i = V.int j) = decide (i = j) by simp]; exact q⟩
  | NotEq => cases h; exact op_ne pins s σ H _ _ v u Q I rx ry ⟨rfl, by rw [show decide (V.int i = V.int j) = decide (i = j) by simp]; exact q⟩
  | _ => cases h
theorem eqS_ok {G : Gs} {W : Wd} {a b : D} {x y : V} {r : Bool} (ra : RepV G W a x) (rb : RepV G W b y) (h : eqS a b = some r) : scal x y = true ∧ decide (x = y) = r := by
  cases ra <;> cases rb <;> first | (cases h; done) | (cases h; exact ⟨rfl, by simp⟩)
theorem tryCmp_int {prog : Program} {w : World} {op : CmpOp} (ho : cop op ≠ 39) {i : Int} {t : Tok} {b : Addr} {o : Obj} (hd : ∀ v, o.data ≠ .prim v) (A : Around) (E : Value → Shared → Prop) (s : Shared) (Q : Option Value → Shared → Prop) (hb : s.heap.get? b = some o) (hq : Q none s) :
    wpAny (model prog w) A (tryCompare (.int i t) (cmpInfo op).2.1 (.ref b)) Q E s := by
  have go : ∀ {nm : Str} {id name : String} {f : Int → Int → Sem PySem.Fin} {B : Builtin}, Slot "int" nm id → entryFor table id = some B → (∀ a b, argsOk id ⟨[a, b], []⟩) → B = Builtin.Int.intBinary name f false → wpAny (model prog w) A (tryCompare (.int i t) nm (.ref b)) Q E s := by
    intro nm id name f B slot entry args hB
    refine wpAny_tryCompare_declines (typeIs_int _ _ _) slot (GQ.call_here slot (typeIs_int _ _ _) entry (args _ _) ?_)
    rw [hB]
    exact intBin_declines hb hd ⟨rfl, hq⟩
  cases op with
  | Eq => exact go PySem.F.slot_int_eq PySem.F.entry_int_eq PySem.F.args_int_eq_2 rfl
  | NotEq => exact go PySem.F.slot_int_ne PySem.F.entry_int_ne PySem.F.args_int_ne_2 rfl
  | Lt => exact go PySem.F.slot_int_lt PySem.F.entry_int_lt PySem.F.args_int_lt_2 rfl
  | LtE => exact go PySem.F.slot_int_le PySem.F.entry_int_le PySem.F.args_int_le_2 rfl
  | Gt => exact go PySem.F.slot_int_gt PySem.F.entry_int_gt PySem.F.args_int_gt_2 rfl
  | GtE => exact go PySem.F.slot_int_ge PySem.F.entry_int_ge PySem.F.args_int_ge_2 rfl
  | _ => exact absurd rfl ho
theorem cmpOp_rich {op : CmpOp} (ho : cop op ≠ 39) (a b : Value) : compareOp op a b = richCompare op a b := by
  cases op <;> first | rfl | exact absurd rfl ho
theorem ep_notb {pins : List (Addr × Obj)} {σ : L2.St} {Q : VK} {v : Value} {s' : Shared} {W : Wd} (h : EP X pins σ (fun z H' => ∃ W' d S', Le W W' ∧ Rel (gx X fl) W' S' H' ∧ RepV (gx X fl) W' d z ∧ Ev (RepV (gx X fl)) (gx X fl) W' ((match d with | .bl b => .ok (.bl (!b)) S' | _ => .bad : Res D)) Q (fun c d H => Wx c d σ H)) v s') :
    ∃ kk, v = .bool kk ∧ EP X pins σ Q (.bool (!kk)) s' := by
  obtain ⟨z, H', I', r, W', d, S', l, R', rd, q⟩ := h
  cases rd with
  | bl b =>
    cases r
    exact ⟨b, rfl, .bl (!b), H', I', rfl, q W' _ H' (.refl W') R' (.bl (!b))⟩
  | _ => exact (show False from q).elim
theorem subTy {K : PySem.W.Frag} {C : Addr} {n : String} (h : (PySem.fastBuiltinMro n).any (fun l => l.all (fun v => match v with | .type _ => true | _ => false)) = true) : PySem.W.subIn K (.type n) (.ref C) = some false := by
  obtain ⟨l, e1, e2⟩ := PySem.W.any_some h
  show (PySem.fastBuiltinMro n).map (·.contains (.ref C)) = some false
  rw [e1]
  show some (l.contains (.ref C)) = some false
  congr 1
  rw [Bool.eq_false_iff]
  intro h
  have := List.contains_iff_mem.mp h
  have := List.all_eq_true.mp e2 _ this
  cases this
/-- != of an int and an instance of a class without an own __ne__ -/
theorem ne_right {prog : Program} {w : World} {A : Around} {E : Value → Shared → Prop} {s : Shared} {K : PySem.W.Frag} {x C L f : Addr} {h₀ : Heap} {m : Str → Option Value} {ox : Obj} {od : Option Obj} {a : Int} {t : Tok} {Q : Value → Shared → Prop} (hu : A.units + 1 < cLine) (F : Fr h₀ L s.heap m) (X₀ : K.In h₀) (I : PySem.W.InstAt s.heap x ox C od) (hd : ∀ v, ox.data ≠ .prim v)
    (hn : PySem.W.findIn K (.ref C) "__ne__" = some (some (.builtin "object.__ne__"))) (hm : PySem.W.subIn K (.ref C) (.type "object") = some true) (hs : PySem.W.findIn K (.ref C) "__eq__" = some (some (.ref f))) (hf : PySem.W.isFn K (.ref f) = true) (hsub : PySem.W.subIn K (.ref C) (.type "int") = some false)
    (h : wpAny (model prog w) A.in1 (call (.ref f) [.ref x, .int a t]) (fun v s' => ∃ k, v = .bool k ∧ Q (.bool (!k)) s') E s) : wpAny (model prog w) A (richCompare .NotEq (.int a t) (.ref x)) Q E s := by
  have X := X₀.keeps F.keep
  unfold richCompare
  refine wpAny_holding (wpAny_bind (wpAny_cRoomFor (Nat.lt_of_succ_lt hu) ?_))
  rw [show oneThing? .NotEq (.int a t) (.ref x) = none from rfl]
  dsimp only
  refine wpAny_bind (wpAny_typeOf (typeIs_int s a t) (wpAny_bind (I.type.here ?_)))
  rw [show (Value.type "int" != Value.ref C) = true from rfl, if_pos rfl]
  refine wpAny_bind ((PySem.W.looks_subIn X hsub).here ?_)
  simp only [Bool.false_eq_true, if_false, Bool.not_false, if_true]
  refine wpAny_bind (tryCmp_int (op := .NotEq) (by decide) hd A E s _ I.at_ ?_)
  dsimp only
  refine wpAny_bind (m := tryCompare (.ref x) _ _) ?_
  rw [cmpInfo_NotEq]
  dsimp only
  refine ne_try hu X I hn hm hs hf (wpAny_mono h (fun v s' hv => ?_) fun _ _ e => e)
  obtain ⟨k, rfl, q⟩ := hv
  exact wpAny_pure q
theorem ni_run {c : Nat} {xs : List D} {y : D} {yv : V} {u : Value} {A1 C : Addr} {A : Around} {pins : List (Addr × Obj)} {σ : L2.St} {H : Hp} {s : Shared} {W : Wd} {S : Store} {R' : Value → Shared → Prop} (hT : T.Ok X.prog X.w X.K X.mg X.base L) (htn : T.tn = fl.tn) (hfx : fl.x = none) (hni : T.ni c = true) (hr : Room L A) (hfr : A.frames = X.A.frames) (I : Inv X pins σ H s) (R : Rel (gx X fl) W S H)
    (ra : RepV (gx X fl) W (.ins c xs) (.ref A1)) (rb : RepV (gx X fl) W y yv) (ry : RelV yv u) (hy : y = .non ∨ ∃ z, y = .str z) (hm : X.mg (fl.tn.nm c) = some (.ref C))
    (hq : ∀ s' H', Inv X pins σ H' s' → (∃ W', Le W W' ∧ Rel (gx X fl) W' S H') → R' .notImplemented s') :
    ∃ cl : ClsF X.K X.mg fl.tn c C, ∃ f, Meth X.K C "__eq__" f ∧ wpAny (model X.prog X.w) A (call (.ref f) [.ref A1, u]) R' X.xe s := by
  have hkn : T.kn c = true := hT.nik c hni
  obtain ⟨C', cl⟩ := hT.cls c hkn
  rw [htn] at cl
  have := cl.uniq hm
  subst this
  obtain ⟨f, fd, M, N, hb⟩ := hT.ni c hni C (by rw [htn]; exact cl)
  rw [htn] at N
  unfold NiOk at N
  rw [← gx_none hfx] at N
  refine ⟨cl, f, M, ?_⟩
  have b := hb s [.ref A1, u] I.kIn rfl
  rw [List.append_nil] at b
  have e0 : Env0 X.prog X.w X.K X.mg X.base A X.stack s H := by
    have e := I.env0
    exact ⟨by rw [hfr]; exact e.frames, e.mod, e.bs, e.bsz, e.funs, e.frf, e.hok, e.bare⟩
  refine wpAny_call (codeAny_mono (N A X.stack s H ⟨[.ref A1, u], []⟩ [.ref A1, u] [] W S xs y [.ref A1, yv] (fun H' => ∃ W', Le W W' ∧ Rel (gx X fl) W' S H') hr e0 b (.cons rfl (.cons ry .nil)) R (.cons ra (.cons rb .nil)) hy fun W' H' l R => ⟨W', l, R⟩) fun r s' hq' => ?_)
  obtain ⟨rfl, ce⟩ := hq'
  obtain ⟨z, H', I', rz, q⟩ := I.after ce
  exact hq s' H' I' q
theorem bin_cmp {op : CmpOp} (hT : T.Ok X.prog X.w X.K X.mg X.base L) (htn : T.tn = fl.tn) (C0 : Cxt fl X Wx k) (hL : L + 1 ≤ k) : Bin2 fl X Wx (compareOp op) (cmpD T op) := by
  intro pins s σ H x y v u W a b S Q I rx ry R ra rb q
  have hr : Room L X.A := C0.hr.mono (by omega)
  have hr1 : Room L X.A.in1 := (C0.hr.mono hL).in1
  have hu : X.A.units < cLine := hr.units0
  have hu1 : X.A.units + 1 < cLine := hu_of hr
  obtain ⟨mfr, hF⟩ := I.fr
  -- an own instance on the left
  have left : ∀ {c : Nat} {xs : List D} {A1 C dx : Addr} {od : Obj} {b : D} {y : V} {u : Value} {tb : Value}, op ≠ .NotEq → cop op ≠ 39 → RepV (gx X fl) W (.ins c xs) (.ref A1) → PySem.W.InstAt s.heap A1 (PySem.W.instObj C dx) C (some od) → X.mg (fl.tn.nm c) = some (.ref C) → RelV y u → RepV (gx X fl) W b y →
      PySem.W.Looks (model X.prog X.w) s.heap (typeOf u) tb → (tb = .ref C ∨ tb = .type "int") → Ev (RepV (gx X fl)) (gx X fl) W (dund T c (cop op) [.ins c xs, b] S) Q (fun c d H => Wx c d σ H) → wpAny (model X.prog X.w) X.A (compareOp op (.ref A1) u) (EP X pins σ Q) X.xe s := by
    intro c xs A1 C dx od b y u tb hne ho ra J hm ry rb hb htb q
    obtain ⟨e1, e2⟩ := cop_nm hT.dn ho
    obtain ⟨cl, f, M, run⟩ := run_dund (vs := [.ref A1, y]) (us := [.ref A1, u]) hT htn C0.fx hr rfl C0.tk I R hm (.cons rfl (.cons ry .nil)) (.cons ra (.cons rb .nil)) q
    rw [← htn, e1] at M
    rw [cmpOp_rich ho]
    refine PySem.W.cmp_K (tb := tb) hu hF I.ok.mod.kin J hb ?_ M.at_ M.fn (wpAny_mono run (fun v s' hv => ep_cmpback hv) fun _ _ e => e)
    rcases htb with rfl | rfl
    · simp [PySem.W.notFirst]
    · simp [PySem.W.notFirst, subInt]
  have leftNe : ∀ {c : Nat} {xs : List D} {A1 C dx : Addr} {od : Obj} {b : D} {y : V} {u : Value} {tb : Value}, T.one c = true → RepV (gx X fl) W (.ins c xs) (.ref A1) → PySem.W.InstAt s.heap A1 (PySem.W.instObj C dx) C (some od) → X.mg (fl.tn.nm c) = some (.ref C) → RelV y u → RepV (gx X fl) W b y →
      PySem.W.Looks (model X.prog X.w) s.heap (typeOf u) tb → (tb = .ref C ∨ tb = .type "int") → Ev (RepV (gx X fl)) (gx X fl) W (notR (dund T c 13 [.ins c xs, b] S)) Q (fun c d H => Wx c d σ H) → wpAny (model X.prog X.w) X.A (compareOp .NotEq (.ref A1) u) (EP X pins σ Q) X.xe s := by
    intro c xs A1 C dx od b y u tb h1 ra J hm ry rb hb htb q
    obtain ⟨e1, e2⟩ := cop_nm (T := T) hT.dn (op := .Eq) (by decide)
    obtain ⟨cl, f, M, run⟩ := run_dund (vs := [.ref A1, y]) (us := [.ref A1, u]) hT htn C0.fx hr1 rfl C0.tk I R hm (.cons rfl (.cons ry .nil)) (.cons ra (.cons rb .nil)) (Ev.seq q)
    rw [← htn, show (13 : Nat) = cop .Eq from rfl, e1] at M
    show wpAny (model X.prog X.w) X.A (richCompare .NotEq (.ref A1) u) (EP X pins σ Q) X.xe s
    refine ne_left (tb := tb) hu1 hF I.ok.mod.kin J hb ?_ (hT.one c h1 C (by rw [htn]; exact cl)) cl.obj M.at_ M.fn (wpAny_mono run (fun v s' hv => ep_notb hv) fun _ _ e => e)
    rcases htb with rfl | rfl
    · simp [PySem.W.notFirst]
    · simp [PySem.W.notFirst, subInt]
  have li : ∀ {j : Int} {t : Tok}, PySem.W.Looks (model X.prog X.w) s.heap (typeOf (.int j t)) (.type "int") := fun {j t} A' Q' E' s' _ q' => wpAny_typeOf (typeIs_int s' j t) q'
  unfold cmpD at q
  split at q
  · rename_i i j
    cases ra; cases rb
    split at q
    · rename_i n hn
      exact int_cmp_run I rx ry hn (q W _ H (.refl W) R (.bl n))
    · exact q.elim
  · rename_i c xs c' ys
    split at q
    · rename_i hc
      subst hc
      obtain ⟨A1, C, dx, fvs, od, rfl, rfl, hm, hH, _, _, J⟩ := inst_of I R ra rx
      obtain ⟨A2, C2, dx2, fvs2, od2, rfl, rfl, hm2, hH2, _, _, J2⟩ := inst_of I R rb ry
      rw [hm] at hm2
      cases hm2
      split at q
      · split at q
        · rename_i h1
          exact leftNe h1 ra J hm (show RelV (.ref A2) (.ref A2) from rfl) rb J2.type (.inl rfl) q
        · exact q.elim
      · rename_i hne
        split at q
        · rename_i ho
          exact left (fun e => hne e) ho ra J hm (show RelV (.ref A2) (.ref A2) from rfl) rb J2.type (.inl rfl) q
        · exact q.elim
    · exact q.elim
  · rename_i c xs j
    obtain ⟨A1, C, dx, fvs, od, rfl, rfl, hm, hH, _, _, J⟩ := inst_of I R ra rx
    have rb' := rb
    cases rb
    have ry' := ry
    obtain ⟨t, rfl⟩ := ry
    split at q
    · split at q
      · rename_i h1
        exact leftNe h1 ra J hm ry' rb' li (.inr rfl) q
      · exact q.elim
    · rename_i hne
      split at q
      · rename_i ho
        exact left (fun e => hne e) ho ra J hm ry' rb' li (.inr rfl) q
      · exact q.elim
  · rename_i i c ys
    obtain ⟨A1, C, dx, fvs, od, rfl, rfl, hm, hH, _, _, J⟩ := inst_of I R rb ry
    have ra' := ra
    cases ra
    have rx' := rx
    obtain ⟨t, rfl⟩ := rx
    split at q
    · split at q
      · rename_i h1
        obtain ⟨e1, e2⟩ := cop_nm (T := T) hT.dn (op := .Eq) (by decide)
        obtain ⟨cl, f, M, run⟩ := run_dund (vs := [.ref A1, .int i]) (us := [.ref A1, .int i t]) hT htn C0.fx hr1 rfl C0.tk I R hm (.cons rfl (.cons rx' .nil)) (.cons rb (.cons ra' .nil)) (Ev.seq q)
        rw [← htn, show (13 : Nat) = cop .Eq from rfl, e1] at M
        exact ne_right hu1 hF I.ok.mod.kin J inst_prim (hT.one c h1 C (by rw [htn]; exact cl)) cl.obj M.at_ M.fn cl.nint (wpAny_mono run (fun v s' hv => ep_notb hv) fun _ _ e => e)
      · exact q.elim
    · split at q
      · rename_i ho
        obtain ⟨e1, e2⟩ := cop_nm hT.dn ho
        obtain ⟨cl, f, M, run⟩ := run_dund (vs := [.ref A1, .int i]) (us := [.ref A1, .int i t]) hT htn C0.fx hr rfl C0.tk I R hm (.cons rfl (.cons rx' .nil)) (.cons rb (.cons ra' .nil)) q
        rw [← htn, e2] at M
        rw [cmpOp_rich ho]
        exact cmp_right hu hF I.ok.mod.kin J inst_prim M.at_ M.fn cl.nint (fun A' E' s' Q' hb hq => tryCmp_int ho inst_prim A' E' s' Q' hb hq) (wpAny_mono run (fun v s' hv => ep_cmpback hv) fun _ _ e => e)
      · exact q.elim
  · rename_i c xs
    obtain ⟨A1, C, dx, fvs, od, rfl, rfl, hm, hH, _, _, J⟩ := inst_of I R ra rx
    have rb' := rb
    cases rb
    cases ry
    split at q
    · split at q
      · rename_i hni
        obtain ⟨cl, f, M, run⟩ := ni_run (u := .none) (R' := fun v s' => v = .notImplemented ∧ wpAny (model X.prog X.w) X.A (tryCompare .none "__eq__" (.ref A1)) (fun r s2 => r = none ∧ wpAny (model X.prog X.w) X.A (isSame (.ref A1) .none) (fun k s3 => EP X pins σ Q (.bool k) s3) X.xe s2) X.xe s') hT htn C0.fx hni hr rfl I R ra rb' rfl (.inl rfl) hm
          (fun s' H' I' ⟨W', l, R'⟩ => ⟨rfl, none_eq_declines ⟨rfl, wpAny_of_eq (isSame_none _) ⟨.bl false, H', I', rfl, q W' _ H' l R' (.bl false)⟩⟩⟩)
        exact eq_ni (T := "NoneType") hu hF I.ok.mod.kin J (fun _ => rfl) (subTy (by decide +kernel)) M.at_ M.fn run
      · exact q.elim
    · split at q
      · rename_i h2
        obtain ⟨hni, h1⟩ := h2
        obtain ⟨cl, f, M, run⟩ := ni_run (u := .none) (R' := fun v s' => v = .notImplemented ∧ wpAny (model X.prog X.w) X.A (tryCompare .none "__ne__" (.ref A1)) (fun r s2 => r = none ∧ wpAny (model X.prog X.w) X.A (isSame (.ref A1) .none) (fun k s3 => EP X pins σ Q (.bool (!k)) s3) X.xe s2) X.xe s') hT htn C0.fx hni hr1 rfl I R ra rb' rfl (.inl rfl) hm
          (fun s' H' I' ⟨W', l, R'⟩ => ⟨rfl, none_ne_declines ⟨rfl, wpAny_of_eq (isSame_none _) ⟨.bl true, H', I', rfl, q W' _ H' l R' (.bl true)⟩⟩⟩)
        exact ne_ni (T := "NoneType") hu1 hF I.ok.mod.kin J (fun _ => rfl) (subTy (by decide +kernel)) (hT.one c h1 C (by rw [htn]; exact cl)) cl.obj M.at_ M.fn run
      · exact q.elim
    · exact q.elim
  · rename_i c xs z
    obtain ⟨A1, C, dx, fvs, od, rfl, rfl, hm, hH, _, _, J⟩ := inst_of I R ra rx
    have rb' := rb
    cases rb
    have ry' := ry
    obtain ⟨t, rfl⟩ := ry
    have there : ∀ s' H', Inv X pins σ H' s' → (∃ W', Le W W' ∧ Rel (gx X fl) W' S H') → ∃ ox, s'.heap.get? A1 = some ox ∧ ∀ v, ox.data ≠ .prim v := fun s' H' I' ⟨W', l, R'⟩ => by
      obtain ⟨A2, C2, dx2, fvs2, od2, e1, _, _, _, _, _, J2⟩ := inst_of I' R' (ra.mono l) (show RelV (.ref A1) (.ref A1) from rfl)
      cases e1
      exact ⟨_, J2.at_, inst_prim⟩
    split at q
    · split at q
      · rename_i hni
        obtain ⟨cl, f, M, run⟩ := ni_run (u := .str z t) (R' := fun v s' => v = .notImplemented ∧ wpAny (model X.prog X.w) X.A (tryCompare (.str z t) "__eq__" (.ref A1)) (fun r s2 => r = none ∧ wpAny (model X.prog X.w) X.A (isSame (.ref A1) (.str z t)) (fun k s3 => EP X pins σ Q (.bool k) s3) X.xe s2) X.xe s') hT htn C0.fx hni hr rfl I R ra rb' ry' (.inr ⟨z, rfl⟩) hm
          (fun s' H' I' hw => by
            obtain ⟨ox, h1, h2⟩ := there s' H' I' hw
            obtain ⟨W', l, R'⟩ := hw
            exact ⟨rfl, str_eq_declines h1 h2 ⟨rfl, wpAny_of_eq (a := false) rfl ⟨.bl false, H', I', rfl, q W' _ H' l R' (.bl false)⟩⟩⟩)
        exact eq_ni (T := "str") hu hF I.ok.mod.kin J (fun _ => typeIs_str _ _ _) (subTy (by decide +kernel)) M.at_ M.fn run
      · exact q.elim
    · split at q
      · rename_i h2
        obtain ⟨hni, h1⟩ := h2
        obtain ⟨cl, f, M, run⟩ := ni_run (u := .str z t) (R' := fun v s' => v = .notImplemented ∧ wpAny (model X.prog X.w) X.A (tryCompare (.str z t) "__ne__" (.ref A1)) (fun r s2 => r = none ∧ wpAny (model X.prog X.w) X.A (isSame (.ref A1) (.str z t)) (fun k s3 => EP X pins σ Q (.bool (!k)) s3) X.xe s2) X.xe s') hT htn C0.fx hni hr1 rfl I R ra rb' ry' (.inr ⟨z, rfl⟩) hm
          (fun s' H' I' hw => by
            obtain ⟨ox, h1, h2⟩ := there s' H' I' hw
            obtain ⟨W', l, R'⟩ := hw
            exact ⟨rfl, str_ne_declines h1 h2 ⟨rfl, wpAny_of_eq (a := false) rfl ⟨.bl true, H', I', rfl, q W' _ H' l R' (.bl true)⟩⟩⟩)
        exact ne_ni (T := "str") hu1 hF I.ok.mod.kin J (fun _ => typeIs_str _ _ _) (subTy (by decide +kernel)) (hT.one c h1 C (by rw [htn]; exact cl)) cl.obj M.at_ M.fn run
      · exact q.elim
    · exact q.elim
  · rename_i z1 z2
    cases ra; cases rb
    split at q
    · exact op_eq pins s σ H _ _ v u Q I rx ry ⟨rfl, by rw [show decide (V.str z1 = V.str z2) = decide (z1 = z2) by simp]; exact q W _ H (.refl W) R (.bl _)⟩
    · exact op_ne pins s σ H _ _ v u Q I rx ry ⟨rfl, by rw [show decide (V.str z1 = V.str z2) = decide (z1 = z2) by simp]; exact q W _ H (.refl W) R (.bl _)⟩
    · exact op_lt_str pins s σ H _ _ v u Q I rx ry ⟨z1, z2, rfl, rfl, q W _ H (.refl W) R (.bl _)⟩
    · exact q.elim
  · split at q
    · split at q
      · rename_i kk hk
        obtain ⟨h1, h2⟩ := eqS_ok ra rb hk
        exact op_eq pins s σ H _ _ v u Q I rx ry ⟨h1, by rw [h2]; exact q W _ H (.refl W) R (.bl _)⟩
      · exact q.elim
    · split at q
      · rename_i kk hk
        obtain ⟨h1, h2⟩ := eqS_ok ra rb hk
        exact op_ne pins s σ H _ _ v u Q I rx ry ⟨h1, by rw [h2]; exact q W _ H (.refl W) R (.bl _)⟩
      · exact q.elim
    · exact q.elim
end
end Bp


set_option Elab.async false
set_option linter.all false
set_option maxRecDepth 100000
set_option maxHeartbeats 4000000
/-! Bp7: fields, methods, instances made. -/
namespace Bp
open PySem L2 PyProof.Rows
section
variable {fl : Pm} {X : Cx} {Wx : WX} {T : CT} {L k : Nat} {P : Program} {w : World} {K : PySem.W.Frag} {mg : Str → Option Value} {base : Heap}
theorem CT.Ok.injN (h : T.Ok P w K mg base L) {a b : Nat} (ha : a < T.N) (hb : b < T.N) (e : T.tn.nm a = T.tn.nm b) : a = b := by
  have h1 : ((List.range T.N).map T.tn.nm)[a]? = some (T.tn.nm a) := by rw [List.getElem?_map, List.getElem?_range ha]; rfl
  have h2 : ((List.range T.N).map T.tn.nm)[b]? = some (T.tn.nm b) := by rw [List.getElem?_map, List.getElem?_range hb]; rfl
  exact nodup_ix h.inj (by rw [h1, e]) h2
theorem lookup_at {κ : Type} [BEq κ] [LawfulBEq κ] {β : Type} : ∀ {l : List (κ × β)} {i : Nat} {x : κ} {v : β}, (l.map (·.1)).Nodup → (l.map (·.1))[i]? = some x → (l.map (·.2))[i]? = some v → l.lookup x = some v
  | [], i, x, v, _, h, _ => by simp at h
  | (y, u) :: l, 0, x, v, _, h, h2 => by
    simp at h h2
    subst h h2
    simp [List.lookup]
  | (y, u) :: l, i + 1, x, v, hn, h, h2 => by
    have hn' : y ∉ l.map (·.1) ∧ (l.map (·.1)).Nodup := by simpa using hn
    have h' : (l.map (·.1))[i]? = some x := by simpa using h
    have h2' : (l.map (·.2))[i]? = some v := by simpa using h2
    have ne : (x == y) = false := by
      rw [beq_eq_false_iff_ne]
      intro e
      exact hn'.1 (e ▸ List.mem_iff_getElem?.mpr ⟨i, h'⟩)
    simp only [List.lookup, ne]
    exact lookup_at hn'.2 h' h2'
theorem lookup_out {κ : Type} [BEq κ] [LawfulBEq κ] {β : Type} : ∀ {l : List (κ × β)} {x : κ}, x ∉ l.map (·.1) → l.lookup x = none
  | [], x, _ => rfl
  | (y, u) :: l, x, h => by
    have h' : ¬ x = y ∧ x ∉ l.map (·.1) := by simpa using h
    have ne : (x == y) = false := by rw [beq_eq_false_iff_ne]; exact h'.1
    simp only [List.lookup, ne]
    exact lookup_out h'.2
/-- a field's place in a class -/
def fix (T : CT) (c f : Nat) : Nat := (T.tn.fl c).idxOf f
def attrD (T : CT) (f : Nat) (d : D) (S : Store) : Res D := match d with
  | .ins c xs => if T.no c f = true ∧ T.kn c = true then (match (T.tn.fl c).idxOf? f with
      | some i => (match xs[i]? with
        | some v => .ok v S
        | none => .bad)
      | none => .bad)
    else (match T.prop c f with
      | some g => (match g [.ins c xs] S with
        | .ok v S' => .ok v S'
        | _ => .bad)
      | none => .bad)
  | .ref n => (match S[n]? with
    | some (.obj c fs) => if T.no c f = true ∧ T.kn c = true ∧ f < T.N ∧ fs.all (fun p => decide (p.1 < T.N)) = true ∧ (fs.map (·.1)).Nodup then (match (fs.map (·.1)).idxOf? f with
      | some i => (match (fs.map (·.2))[i]? with
        | some v => .ok v S
        | none => .bad)
      | none => .bad) else .bad
    | _ => .bad)
  | _ => .bad
theorem idxOf_at {l : List Nat} {f i : Nat} (h : l.idxOf? f = some i) : l[i]? = some f := by
  have h' : l.findIdx? (· == f) = some i := h
  rw [List.findIdx?_eq_some_iff_getElem] at h'
  obtain ⟨hi, h1, _⟩ := h'
  rw [List.getElem?_eq_getElem hi]
  exact congrArg some (beq_iff_eq.mp h1)
theorem map_nodup_of {T : CT} (hT : T.Ok P w K mg base L) : ∀ {l : List Nat}, (∀ a ∈ l, a < T.N) → l.Nodup → (l.map T.tn.nm).Nodup
  | [], _, _ => List.nodup_nil
  | a :: l, h, hn => by
    obtain ⟨h1, h2⟩ := List.nodup_cons.mp hn
    refine List.nodup_cons.mpr ⟨fun hm => ?_, map_nodup_of hT (fun b hb => h b (List.mem_cons_of_mem _ hb)) h2⟩
    obtain ⟨b, hb, e⟩ := List.mem_map.mp hm
    have := hT.injN (h b (List.mem_cons_of_mem _ hb)) (h a List.mem_cons_self) e
    exact h1 (this ▸ hb)
theorem un_attr {f : Nat} {b : Bool} (hT : T.Ok X.prog X.w X.K X.mg X.base L) (htn : T.tn = fl.tn) (C0 : Cxt fl X Wx k) (hL : L + 1 ≤ k) : Un1 fl X Wx (fun o => getAttr o (fl.tn.nm f) b) (attrD T f) := by
  intro pins s σ H x v W a S Q I rx R ra q
  unfold attrD at q
  split at q
  · rename_i c xs
    obtain ⟨A1, C, dx, fvs, od, rfl, rfl, hm, hH, hk, rl, J⟩ := inst_of I R ra rx
    split at q
    · rename_i hc
      obtain ⟨hno, hkn⟩ := hc
      obtain ⟨C', cl⟩ := hT.cls c hkn
      rw [htn] at cl
      have := cl.uniq hm
      subst this
      split at q
      · rename_i i hi
        split at q
        · rename_i d hd
          obtain ⟨v, hv, rv⟩ := rl.get hd
          have hf : (T.tn.fl c)[i]? = some f := idxOf_at hi
          rw [htn] at hf
          have lk : fvs.lookup (fl.tn.nm f) = some v := lookup_at (by rw [hk]; exact cl.fnd) (by rw [hk, List.getElem?_map, hf]; rfl) hv
          have na := hT.no c f hno C (by rw [htn]; exact cl)
          rw [htn] at na
          exact getattr_ok I hH cl.cls na lk fun u' s2 I2 ru => ⟨v, H, I2, ru, q W v H (.refl W) R rv⟩
        · exact q.elim
      · exact q.elim
    · split at q
      · rename_i g hg
        obtain ⟨hkn, hp⟩ := hT.prop c f g hg
        obtain ⟨C', cl⟩ := hT.cls c hkn
        have cl' := cl
        rw [htn] at cl'
        have := cl'.uniq hm
        subst this
        obtain ⟨p, ga, fd, ps, hpo, hpl, F, hb⟩ := hp C cl
        rw [htn] at hpo F
        rw [← C0.gx] at F
        split at q
        · rename_i d S' hg'
          refine getprop_ok (CX := L2.CX X.prog X.w) (E := E0) I hH cl'.cls hpo F (C0.hr.mono hL) hb .nil passL ?_
          refine ⟨rfl, W, [.ins c xs], S, R, .cons ra .nil, ?_⟩
          rw [hg']
          exact q
        · exact q.elim
      · exact q.elim
  · rename_i n
    cases ra with
    | ref _ A1 hA =>
      cases rx
      split at q
      · rename_i c fs hS
        obtain ⟨ho, hH, ro⟩ := R.obj n A1 _ hA hS
        cases ro with
        | obj _ _ C dx fvs hm rf =>
          split at q
          · rename_i hc
            obtain ⟨hno, hkn, hfN, hall, hnd⟩ := hc
            obtain ⟨C', cl⟩ := hT.cls c hkn
            rw [htn] at cl
            have := cl.uniq hm
            subst this
            split at q
            · rename_i i hi
              split at q
              · rename_i d hd
                obtain ⟨v, hv, rv⟩ := rf.2.get hd
                have hf : (fs.map (·.1))[i]? = some f := idxOf_at hi
                have hnd2 : ((fs.map (·.1)).map T.tn.nm).Nodup := map_nodup_of hT (fun a ha => by
                  obtain ⟨p, hp, rfl⟩ := List.mem_map.mp ha
                  exact of_decide_eq_true (List.all_eq_true.mp hall p hp)) hnd
                have hkeys : fvs.map (·.1) = (fs.map (·.1)).map fl.tn.nm := by rw [rf.1, List.map_map]; rfl
                have lk : fvs.lookup (fl.tn.nm f) = some v := lookup_at (by rw [hkeys, ← htn]; exact hnd2) (by rw [hkeys, List.getElem?_map, hf]; rfl) hv
                have na := hT.no c f hno C (by rw [htn]; exact cl)
                rw [htn] at na
                exact getattr_ok I hH cl.cls na lk fun u' s2 I2 ru => ⟨v, H, I2, ru, q W v H (.refl W) R rv⟩
              · exact q.elim
            · exact q.elim
          · exact q.elim
      · exact q.elim
  · exact q.elim
def mAttr (T : CT) (f : Nat) (m : ME) : ME := mUn (attrD T f) m
theorem ex_attr {e : Expr} {me : ME} {x : Str} {pos : Pos} (f : Nat) (hf : fl.tn.nm f = x) (hT : T.Ok X.prog X.w X.K X.mg X.base L) (htn : T.tn = fl.tn) (C0 : Cxt fl X Wx k) (hL : L + 1 ≤ k) (he : EX fl X Wx e me) (hb : attributeBase e x X.env (eval e X.env) = eval e X.env := by rfl) : EX fl X Wx (.Attribute e x pos) (mAttr T f me) := by
  subst hf
  refine ⟨fun pins s σ H Q I ⟨W, env, S, R, RE, q⟩ => ?_⟩
  refine attr_of hb (thn (he.run I R RE (Ev.seq q)) fun v s1 ⟨x, H1, I1, r1, W1, d1, S1, l1, R1, ra, q1⟩ => ?_)
  exact un_attr (b := true) hT htn C0 hL pins s1 σ H1 x v W1 d1 S1 Q I1 r1 R1 ra q1
/-! ### a field stored -/
def putD (f : Nat) (v : D) : List (Nat × D) → List (Nat × D)
  | [] => [(f, v)]
  | (g, x) :: r => if g = f then (g, v) :: r else (g, x) :: putD f v r
theorem putD_rep {G : Gs} {W : Wd} {f : Nat} {d : D} {v : V} (rv : RepV G W d v) : ∀ {fs : List (Nat × D)} {fvs : List (Str × V)}, RepF G W fs fvs → (∀ p ∈ fs, G.tn.nm p.1 = G.tn.nm f → p.1 = f) → RepF G W (putD f d fs) (putF (G.tn.nm f) v fvs)
  | [], fvs, h, _ => by
    have : fvs = [] := by simpa using h.1
    subst this
    exact ⟨rfl, .cons rv .nil⟩
  | (g, x) :: fs, [], h, _ => by simpa using h.1
  | (g, x) :: fs, (y, u) :: fvs, h, hi => by
    have h1 : y = G.tn.nm g ∧ fvs.map (·.1) = fs.map (fun p => G.tn.nm p.1) := by simpa using h.1
    obtain ⟨rfl, h1⟩ := h1
    have h2 := h.2
    cases h2 with
    | cons r1 rr =>
      show RepF G W (if g = f then (g, d) :: fs else (g, x) :: putD f d fs) (if G.tn.nm g = G.tn.nm f then (G.tn.nm g, v) :: fvs else (G.tn.nm g, u) :: putF (G.tn.nm f) v fvs)
      by_cases hg : g = f
      · rw [if_pos hg, if_pos (by rw [hg])]
        exact ⟨by simp [h1], .cons rv rr⟩
      · rw [if_neg hg, if_neg (fun e => hg (hi _ List.mem_cons_self e))]
        have ih := putD_rep rv (fs := fs) (fvs := fvs) ⟨h1, rr⟩ fun p hp => hi p (List.mem_cons_of_mem _ hp)
        exact ⟨by simp [ih.1], .cons r1 ih.2⟩
def setD (T : CT) (f : Nat) (o v : D) (env : Env) (S : Store) : RS := match o with
  | .ref n => (match S[n]? with
    | some (.obj c fs) => if T.no c f = true ∧ T.kn c = true ∧ f < T.N ∧ fs.all (fun p => decide (p.1 < T.N)) = true ∧ fs.length < 900 then .nx env (S.set n (.obj c (putD f v fs))) else .bad
    | _ => .bad)
  | _ => .bad
def mSetA (T : CT) (f : Nat) (mo mv : ME) : MS := fun env S => onR (mv env S) env fun v S1 => onR (mo env S1) env fun o S2 => setD T f o v env S2
theorem es_seta {o value : Expr} {mo mv : ME} {x : Str} {pos pos' : Pos} (f : Nat) (hf : fl.tn.nm f = x) (hT : T.Ok X.prog X.w X.K X.mg X.base L) (htn : T.tn = fl.tn) (ha : EX fl X Wx o mo) (hv : EX fl X Wx value mv) (hs : swapsWith value (some (.Attribute o x pos')) pos.line X.env = pure false := by rfl) :
    ES fl X Wx (.Assign [.Attribute o x pos'] value pos) (mSetA T f mo mv) := by
  subst hf
  refine PS.imp (ps_fld ha hv hs) fun D σ H ⟨W, env, S, R, RE, q⟩ => ⟨W, env, S, R, RE, Ev.imp (EvS.on RE q) fun y H1 ⟨W1, d, S1, l1, R1, rd, q1⟩ => ?_⟩
  refine ⟨W1, env, S1, R1, RE.mono l1, Ev.imp (EvS.on (RE.mono l1) q1) fun z H2 ⟨W2, od, S2, l2, R2, ro, q2⟩ => ?_⟩
  unfold setD at q2
  split at q2
  · rename_i n
    cases ro with
    | ref _ A1 hA =>
      split at q2
      · rename_i c fs hS
        obtain ⟨ho, hH, ro⟩ := R2.obj n A1 _ hA hS
        cases ro with
        | obj _ _ C dx fvs hm rf =>
          split at q2
          · rename_i hc
            obtain ⟨hno, hkn, hfN, hall, hlen⟩ := hc
            obtain ⟨C', cl⟩ := hT.cls c hkn
            rw [htn] at cl
            have := cl.uniq hm
            subst this
            have na := hT.no c f hno C (by rw [htn]; exact cl)
            rw [htn] at na
            have hll : fvs.length = fs.length := by
              have := congrArg List.length rf.1
              simpa using this
            refine ⟨A1, C, dx, fvs, rfl, hH, cl.cls, na, by omega, ?_⟩
            have rf' := putD_rep (f := f) (rd.mono l2) rf fun p hp e => by
              have e' : T.tn.nm p.1 = T.tn.nm f := by rw [htn]; exact e
              exact hT.injN (of_decide_eq_true (List.all_eq_true.mp hall p hp)) hfN e'
            exact q2 W2 σ _ (.refl W2) (R2.put hA (o := .obj c (putD f d fs)) (.obj c _ C dx _ hm rf')) (RE.mono (l1.trans l2))
          · exact q2.elim
      · exact q2.elim
  · exact q2.elim
end
end Bp


set_option Elab.async false
set_option linter.all false
set_option maxRecDepth 100000
set_option maxHeartbeats 4000000
/-! Bp8: instances made, own methods, built-ins called. -/
namespace Bp
open PySem L2 PyProof.Rows
/-- an object of the heap stands fast from here on -/
theorem Rel.frz {G : Gs} {W : Wd} {S : Store} {H : Hp} (R : Rel G W S H) {x : Addr} {o : HO} (hx : H x = some o) (hn : x ∉ W.μ) (hF : W.F x = none) : Le W ⟨upd W.F x o, W.μ, W.xs⟩ ∧ Rel G ⟨upd W.F x o, W.μ, W.xs⟩ S H := by
  have l : Le W ⟨upd W.F x o, W.μ, W.xs⟩ := ⟨fun a u e => by
    show upd W.F x o a = some u
    have ne : a ≠ x := fun q => by subst q; rw [hF] at e; cases e
    rw [upd_ne ne]
    exact e, List.prefix_rfl, List.prefix_rfl⟩
  refine ⟨l, ⟨fun a u e => ?_, R.len, R.nd, fun a ha => ?_, fun n a u e1 e2 => ?_⟩⟩
  · have e' : upd W.F x o a = some u := e
    by_cases hp : a = x
    · subst hp
      rw [upd_same] at e'
      cases e'
      exact hx
    · rw [upd_ne hp] at e'
      exact R.fr _ _ e'
  · show upd W.F x o a = none
    rw [upd_ne (fun q : a = x => hn (q ▸ ha))]
    exact R.off a ha
  · obtain ⟨ho, h1, h2⟩ := R.obj n a u e1 e2
    exact ⟨ho, h1, h2.mono l⟩
theorem vals_drop : ∀ {vs : List V} {us : List Value} (j : Nat), Vals vs us → Vals (vs.drop j) (us.drop j)
  | _, _, 0, r => r
  | _, _, j + 1, .nil => by simp; exact .nil
  | _, _, j + 1, .cons _ t => vals_drop j t
open Classical in
noncomputable def newFin (T : CT) (c : Nat) (S : Store) (r : Res D) : Res D := match r with
  | .ok .non S' => (match S'[S.length]? with
    | some (.obj c' fs) => if c' = c ∧ S'.take S.length = S ∧ fs.map (·.1) = T.tn.fl c ∧ belows S.length (fs.map (·.2)) = true then .ok (.ins c (fs.map (·.2))) S else .bad
    | _ => .bad)
  | .exc e S' => if S'.take S.length = S ∧ belows S.length e.vs = true then .exc e S else .bad
  | _ => .bad
/-- C(..): the instance, as it stands when it is made -/
noncomputable def newD (T : CT) (c : Nat) : Fn := fun args S => match T.mkr c with
  | none => .bad
  | some (n, dfl, g) => if args.length + 1 ≤ n ∧ n ≤ args.length + 1 + dfl.length then newFin T c S (g (.ref S.length :: (args ++ dfl.drop (args.length + 1 + dfl.length - n))) (S ++ [.obj c []])) else .bad
section
variable {fl : Pm} {X : Cx} {Wx : WX} {T : CT} {L k : Nat}
theorem newFin_ok {G : Gs} {W : Wd} {S : Store} {H : Hp} {c : Nat} {r : Res D} {x C : Addr} {Q : VK} {E : XK} (htn : T.tn = G.tn) (R : Rel G W S H) (hx : H x = none) (cm : G.mg (G.tn.nm c) = some (.ref C)) {W2 : Wd} (l : Le W W2) (e2 : W2.μ = W.μ ++ [x])
    (q : Ev (RepV G) G W (newFin T c S r) Q E) : Ev (RepV G) G W2 r (fun v H2 => v = .non ∧ Q (.ref x) H2) E := by
  cases r with
  | bad => exact q.elim
  | exc e S' =>
    unfold newFin at q
    dsimp only at q
    split at q
    · rename_i hc
      intro W' cls d H' l' R' rx
      refine q (W'.cut W.μ) cls d H' (le_cut (l.trans l')) (R.cut R' (l.trans l') hc.1) ⟨rx.c, rx.h0, ?_⟩
      obtain ⟨dd, fvs, h1, h2, h3⟩ := rx.f
      exact ⟨dd, fvs, h1, h2, repL_cut (l.trans l').μ h3 (by rw [R.len]; exact hc.2)⟩
    · exact q.elim
  | ok d S' =>
    unfold newFin at q
    split at q
    · rename_i S0 heq
      cases heq
      split at q
      · rename_i c' fs hS
        split at q
        · rename_i hc
          obtain ⟨rfl, h1, h2, h3⟩ := hc
          intro W' v H' l' R' rv
          cases rv
          refine ⟨rfl, ?_⟩
          have ll := l.trans l'
          have R0 := R.cut R' ll h1
          have hxm : W'.μ[S.length]? = some x := by
            refine l'.at ?_
            rw [e2, ← R.len]
            simp
          obtain ⟨ho, g1, g2⟩ := R'.obj _ x _ hxm hS
          have hnx : x ∉ W.μ := R.notμ hx
          have hFx : W'.F x = none := R'.off x (List.mem_iff_getElem?.mpr ⟨_, hxm⟩)
          cases g2 with
          | obj _ _ C2 dx2 fvs hc2 rf =>
            obtain ⟨l3, R3⟩ := Rel.frz R0 g1 hnx hFx
            refine q _ (.ref x) H' ((le_cut ll).trans l3) R3 (.ins _ _ x C2 dx2 fvs hc2 upd_same ?_ ?_)
            · rw [rf.1, ← htn, ← h2, List.map_map]; rfl
            · exact (repL_cut ll.μ rf.2 (by rw [R.len]; exact h3)).mono l3
        · exact q.elim
      · exact q.elim
    · rename_i heq
      cases heq
    · exact q.elim
theorem run_newD {c : Nat} {ds : List D} {vs : List V} {us : List Value} {pins : List (Addr × Obj)} {σ : L2.St} {H : Hp} {s : Shared} {Q : VK} {W : Wd} {S : Store} {C : Addr} (hT : T.Ok X.prog X.w X.K X.mg X.base L) (htn : T.tn = fl.tn) (C0 : Cxt fl X Wx k) (hL : L + 1 ≤ k)
    (I : Inv X pins σ H s) (R : Rel (gx X fl) W S H) (cm : X.mg (fl.tn.nm c) = some (.ref C)) (r : Vals vs us) (rl : RepL (gx X fl) W ds vs) (q : Ev (RepV (gx X fl)) (gx X fl) W (newD T c ds S) Q (fun c d H => Wx c d σ H)) :
    wpAny (model X.prog X.w) X.A (call (.ref C) us) (EP X pins σ Q) X.xe s := by
  unfold newD at q
  split at q
  · exact q.elim
  · rename_i n dfl g hm
    split at q
    · rename_i hn
      obtain ⟨hkn, hmk⟩ := hT.mkr c n dfl g hm
      obtain ⟨C', cl⟩ := hT.cls c hkn
      have cl' := cl
      rw [htn] at cl'
      have := cl'.uniq cm
      subst this
      obtain ⟨f, fd, ps, dvs, M, hps, F, rdl, hb⟩ := hmk C cl
      rw [htn] at F rdl
      rw [← C0.gx] at F rdl
      obtain ⟨dus, rdv, hb⟩ := hb (ds.length + 1 + dfl.length - n) (by omega)
      have fx : H (s.heap.objs.size + 1) = none := I.hok.fresh (Nat.le_succ _)
      have fdx : H s.heap.objs.size = none := I.hok.fresh (Nat.le_refl _)
      have I2 := Inv.made (C := C) I
      obtain ⟨l1, R1⟩ := R.fix fdx (.own (s.heap.objs.size + 1))
      have fx1 : upd H s.heap.objs.size (.own (s.heap.objs.size + 1)) (s.heap.objs.size + 1) = none := by rw [upd_ne (Nat.ne_of_gt (Nat.lt_succ_self _))]; exact fx
      obtain ⟨l2, R2⟩ := R1.new fx1 (o := .obj c []) (ho := .ins C s.heap.objs.size []) (.obj c [] C _ [] cm ⟨rfl, .nil⟩)
      have dl : dfl.length = dvs.length := (rdl W).length
      have rds := RepL.cons (RepV.ref (G := gx X fl) (W := ⟨upd W.F s.heap.objs.size (.own (s.heap.objs.size + 1)), W.μ ++ [s.heap.objs.size + 1], W.xs⟩) S.length (s.heap.objs.size + 1) (by show (W.μ ++ [s.heap.objs.size + 1])[S.length]? = some _; rw [← R.len]; simp)) ((rl.mono (l1.trans l2)).append ((rdl _).drop (ds.length + 1 + dfl.length - n)))
      have rvals : Vals (V.ref (s.heap.objs.size + 1) :: (vs ++ dvs.drop (ds.length + 1 + dfl.length - n))) (Value.ref (s.heap.objs.size + 1) :: (us ++ dus)) := .cons rfl (r.append rdv)
      have hlen : (V.ref (s.heap.objs.size + 1) :: (vs ++ dvs.drop (ds.length + 1 + dfl.length - n))).length = n := by
        have := rl.length
        simp only [List.length_cons, List.length_append, List.length_drop]
        omega
      have hlu : ((Value.ref (s.heap.objs.size + 1) :: us) ++ dus).length = ps.length := by
        rw [hps]
        exact rvals.length.symm.trans hlen
      refine wpAny_call (make_map (f := f) I.kIn M.makes M.init (beq_iff_eq.mp M.fn) (codeAny_mono (F.run _ X.stack _ _ ⟨Value.ref (s.heap.objs.size + 1) :: us, []⟩ (Value.ref (s.heap.objs.size + 1) :: (us ++ dus)) _ (fun v H2 => v = .non ∧ Q (.ref (s.heap.objs.size + 1)) H2) (fun c d H => Wx c d σ H) ((C0.hr.mono hL).make C us [])
        (I2.env0.make C us []) (hb _ (Value.ref (s.heap.objs.size + 1) :: us) I2.kIn hlu) rvals ⟨hlen, _, _, _, R2, rds, newFin_ok (G := gx X fl) htn R fx cm (l1.trans l2) rfl q⟩) fun r s' hq' => ?_))
      cases r with
      | error e => exact passAt C0.tk σ pins _ _ e s' I2 hq'
      | ok fl =>
        cases fl with
        | ret u =>
          obtain ⟨v, H', I3, rv, ev, q3⟩ := I2.after hq'
          subst ev
          exact ⟨rv, ⟨V.ref (s.heap.objs.size + 1), H', I3, rfl, q3⟩⟩
        | next => exact False.elim hq'
        | brk => exact False.elim hq'
        | cont => exact False.elim hq'
    · exact q.elim
noncomputable def mNew (T : CT) (c : Nat) (ms : List ME) : ME := mCall (newD T c) ms
variable {e : Expr} {es : List Expr} {me : ME} {ms : List ME} {pos p : Pos} {x : Str}
theorem ex_new (c : Nat) (hc : fl.tn.nm c = x) (hT : T.Ok X.prog X.w X.K X.mg X.base L) (htn : T.tn = fl.tn) (C0 : Cxt fl X Wx k) (hL : L + 1 ≤ k) (hm : (T.mkr c).isSome = true) (hg : Gl X x) (ha : EA fl X Wx (e :: es) (me :: ms)) (hdb : (x == ("__debug__" : Str)) = false := by decide)
    (he : starEach (e :: es) X.env = (false, eval e X.env) :: starEach es X.env := by rfl) (hpl : (backTo pos (starEach es X.env)).any (·.1) = false := by rfl) : EX fl X Wx (.Call (.Name x p) (e :: es) [] pos) (mNew T c (me :: ms)) := by
  subst hc
  obtain ⟨⟨n, dfl, g⟩, hm'⟩ := Option.isSome_iff_exists.mp hm
  obtain ⟨hkn, hmk⟩ := hT.mkr c n dfl g hm'
  obtain ⟨C, cl⟩ := hT.cls c hkn
  obtain ⟨f, fd, ps, dvs, M, _⟩ := hmk C cl
  rw [htn] at cl
  refine ⟨fun pins s σ H Q I ⟨W, env, S, R, RE, q⟩ => ?_⟩
  refine wpAny_Call_Name_kw (ld_glob I hg cl.mg ?_ hdb)
  refine PySem.W.callWith_K (h₀ := X.base) I.ok.mod.kin M.kp (thn (ha.run pos I R RE (Ev.seq q)) fun us s1 ⟨vs, H1, I1, r, W1, ds, S1, l1, R1, rl, q1⟩ => ⟨I1.kIn, ?_⟩) he hpl
  exact run_newD hT htn C0 hL I1 R1 cl.mg r rl q1
theorem ex_new0 (c : Nat) (hc : fl.tn.nm c = x) (hT : T.Ok X.prog X.w X.K X.mg X.base L) (htn : T.tn = fl.tn) (C0 : Cxt fl X Wx k) (hL : L + 1 ≤ k) (hm : (T.mkr c).isSome = true) (hg : Gl X x) (hdb : (x == ("__debug__" : Str)) = false := by decide) : EX fl X Wx (.Call (.Name x p) [] [] pos) (mNew T c []) := by
  subst hc
  obtain ⟨⟨n, dfl, g⟩, hm'⟩ := Option.isSome_iff_exists.mp hm
  obtain ⟨hkn, hmk⟩ := hT.mkr c n dfl g hm'
  obtain ⟨C, cl⟩ := hT.cls c hkn
  obtain ⟨f, fd, ps, dvs, M, _⟩ := hmk C cl
  rw [htn] at cl
  refine ⟨fun pins s σ H Q I ⟨W, env, S, R, RE, q⟩ => ?_⟩
  refine wpAny_Call_Name_kw (ld_glob I hg cl.mg ?_ hdb)
  exact PySem.W.callWith_K0 I.kIn M.kp (run_newD (us := []) (vs := []) (ds := []) hT htn C0 hL I R cl.mg .nil .nil q)
/-! ### own methods -/
/-- has this value the method as an own one? -/
def hasM (T : CT) (m : Nat) (d : D) (S : Store) : Bool := match d with
  | .ins c _ => T.kn c && (T.meth c m).isSome && decide (m < T.N) && !(T.tn.fl c).contains m
  | .ref n => (match S[n]? with
    | some (.obj c fs) => T.kn c && (T.meth c m).isSome && decide (m < T.N) && fs.all (fun p => decide (p.1 < T.N)) && !(fs.map (·.1)).contains m
    | _ => false)
  | _ => false
def clsOf (d : D) (S : Store) : Nat := match d with
  | .ins c _ => c
  | .ref n => (match S[n]? with
    | some (.obj c _) => c
    | _ => 0)
  | _ => 0
def mMeth (T : CT) (m : Nat) (mo : ME) (ms : List ME) : ME := fun env S => (mo env S).bind fun o S1 => if hasM T m o S1 = true then (mArgs ms env S1).bind fun vs S2 => dund T (clsOf o S1) m (o :: vs) S2 else .bad
theorem hasM_ok {m : Nat} {d : D} {S : Store} {v : V} {u : Value} {W : Wd} {H : Hp} {pins : List (Addr × Obj)} {σ : L2.St} {s : Shared} (hT : T.Ok X.prog X.w X.K X.mg X.base L) (htn : T.tn = fl.tn) (I : Inv X pins σ H s) (R : Rel (gx X fl) W S H) (ra : RepV (gx X fl) W d v) (rx : RelV v u) (h : hasM T m d S = true) :
    ∃ a C dx fvs f, v = .ref a ∧ u = .ref a ∧ X.mg (fl.tn.nm (clsOf d S)) = some (.ref C) ∧ H a = some (.ins C dx fvs) ∧ Cls X.K C ∧ Meth X.K C (fl.tn.nm m) f ∧ fvs.lookup (fl.tn.nm m) = none := by
  unfold hasM at h
  split at h
  · rename_i c xs
    simp only [Bool.and_eq_true, Bool.not_eq_true', decide_eq_true_eq] at h
    obtain ⟨⟨⟨hkn, hm⟩, hN⟩, hnf⟩ := h
    obtain ⟨a, C, dx, fvs, od, rfl, rfl, hmg, hH, hk, rl, J⟩ := inst_of I R ra rx
    obtain ⟨C', cl⟩ := hT.cls c hkn
    obtain ⟨⟨n, g⟩, hm'⟩ := Option.isSome_iff_exists.mp hm
    obtain ⟨f, fd, ps, M, _⟩ := hT.meth c m n g hm' C' cl
    rw [htn] at cl M
    have := cl.uniq hmg
    subst this
    refine ⟨a, C, dx, fvs, f, rfl, rfl, hmg, hH, cl.cls, M, lookup_out ?_⟩
    rw [hk]
    intro hh
    obtain ⟨b, hb, e⟩ := List.mem_map.mp hh
    rw [← htn] at hb e
    have := hT.injN (hT.flN c hkn b hb) hN e
    subst this
    rw [List.contains_iff_mem.mpr hb] at hnf
    cases hnf
  · rename_i n
    split at h
    · rename_i c fs hS
      simp only [Bool.and_eq_true, Bool.not_eq_true', decide_eq_true_eq] at h
      obtain ⟨⟨⟨⟨hkn, hm⟩, hN⟩, hall⟩, hnf⟩ := h
      cases ra with
      | ref _ A1 hA =>
        cases rx
        obtain ⟨ho, hH, ro⟩ := R.obj n A1 _ hA hS
        cases ro with
        | obj _ _ C dx fvs hmg rf =>
          obtain ⟨C', cl⟩ := hT.cls c hkn
          obtain ⟨⟨n', g⟩, hm'⟩ := Option.isSome_iff_exists.mp hm
          obtain ⟨f, fd, ps, M, _⟩ := hT.meth c m n' g hm' C' cl
          rw [htn] at cl M
          have := cl.uniq hmg
          subst this
          refine ⟨A1, C, dx, fvs, f, rfl, rfl, by simpa [clsOf, hS] using hmg, hH, cl.cls, M, lookup_out ?_⟩
          rw [rf.1]
          intro hh
          obtain ⟨b, hb, e⟩ := List.mem_map.mp hh
          have e' : T.tn.nm b.1 = T.tn.nm m := by rw [htn]; exact e
          have := hT.injN (of_decide_eq_true (List.all_eq_true.mp hall b hb)) hN e'
          have hb2 : m ∈ fs.map (·.1) := this ▸ List.mem_map_of_mem hb
          rw [List.contains_iff_mem.mpr hb2] at hnf
          cases hnf
    · cases h
  · cases h
variable {o : Expr} {mo : ME} {apos : Pos}
theorem ex_meth {pl : Sem Bool} (m : Nat) (hx : fl.tn.nm m = x) (hT : T.Ok X.prog X.w X.K X.mg X.base L) (htn : T.tn = fl.tn) (C0 : Cxt fl X Wx k) (hL : L ≤ k) (he : EX fl X Wx o mo) (ha : EA fl X Wx (e :: es) (me :: ms))
    (hst : starEach (e :: es) X.env = (false, eval e X.env) :: starEach es X.env := by rfl) (hpl : (backTo pos (starEach es X.env)).any (·.1) = false := by rfl)
    (ht : eval (.Call (.Attribute o x apos) (e :: es) [] pos) X.env = (do
      let ov ← eval o X.env
      standAt apos.atName
      let (f, first) ← holding [ov] (getMethod ov x pl)
      callWith pos f first (backTo pos (starEach (e :: es) X.env)) (backToKw pos (keywordEach [] X.env))) := by rfl) :
    EX fl X Wx (.Call (.Attribute o x apos) (e :: es) [] pos) (mMeth T m mo (me :: ms)) := by
  subst hx
  refine ⟨fun pins s σ H Q I ⟨W, env, S, R, RE, q⟩ => ?_⟩
  refine PySem.W.methodCall_KW (pl := pl) (thn (he.run I R RE (Ev.seq q)) fun u s1 ⟨x, H1, I1, rx, W1, d, S1, l1, R1, ra, q1⟩ => ?_) ht
  split at q1
  · rename_i hh
    obtain ⟨a, C, dx, fvs, f, rfl, rfl, hmg, hH, cl, M, lk⟩ := hasM_ok hT htn I1 R1 ra rx hh
    refine getmeth_ok I1 hH cl M lk ?_
    refine PySem.W.callWith_K (first := [.ref a]) (h₀ := X.base) I.ok.mod.kin M.kp (thn (ha.run pos I1 R1 (RE.mono l1) (Ev.seq q1)) fun us s2 ⟨vs, H2, I2, r, W2, ds, S2, l2, R2, rl, q2⟩ => ⟨I2.kIn, ?_⟩) hst hpl
    obtain ⟨_, f', M', run⟩ := run_dund (vs := .ref a :: vs) (us := .ref a :: us) hT htn C0.fx (C0.hr.mono hL) rfl C0.tk I2 R2 hmg (.cons rfl r) (.cons (ra.mono l2) rl) q2
    rw [Meth.uniq M M']
    exact run
  · exact q1.elim
theorem ex_meth0 {pl : Sem Bool} (m : Nat) (hx : fl.tn.nm m = x) (hT : T.Ok X.prog X.w X.K X.mg X.base L) (htn : T.tn = fl.tn) (C0 : Cxt fl X Wx k) (hL : L ≤ k) (he : EX fl X Wx o mo)
    (ht : eval (.Call (.Attribute o x apos) [] [] pos) X.env = (do
      let ov ← eval o X.env
      standAt apos.atName
      let (f, first) ← holding [ov] (getMethod ov x pl)
      callWith pos f first (backTo pos (starEach [] X.env)) (backToKw pos (keywordEach [] X.env))) := by rfl) :
    EX fl X Wx (.Call (.Attribute o x apos) [] [] pos) (mMeth T m mo []) := by
  subst hx
  refine ⟨fun pins s σ H Q I ⟨W, env, S, R, RE, q⟩ => ?_⟩
  refine PySem.W.methodCall_KW (pl := pl) (thn (he.run I R RE (Ev.seq q)) fun u s1 ⟨x, H1, I1, rx, W1, d, S1, l1, R1, ra, q1⟩ => ?_) ht
  split at q1
  · rename_i hh
    obtain ⟨a, C, dx, fvs, f, rfl, rfl, hmg, hH, cl, M, lk⟩ := hasM_ok hT htn I1 R1 ra rx hh
    refine getmeth_ok I1 hH cl M lk ?_
    have q2 : Ev (RepV (gx X fl)) (gx X fl) W1 (dund T (clsOf d S1) m [d] S1) Q (fun c d H => Wx c d σ H) := q1
    obtain ⟨_, f', M', run⟩ := run_dund (vs := [.ref a]) (us := [.ref a]) hT htn C0.fx (C0.hr.mono hL) rfl C0.tk I1 R1 hmg (.cons rfl .nil) (.cons ra .nil) q2
    rw [Meth.uniq M M']
    exact PySem.W.callWith_K0 (first := [.ref a]) I1.kIn M'.kp run
  · exact q1.elim
end
end Bp


set_option Elab.async false
set_option linter.all false
set_option maxRecDepth 100000
set_option maxHeartbeats 4000000
/-! Bp9: exceptions raised and caught. -/
namespace Bp
open PySem L2 PyProof.Rows
mutual
/-- nothing of an exception in it -/
def noX : D → Bool
  | .tup xs => noXs xs
  | .ins _ xs => noXs xs
  | .rl xs => noXs xs
  | .xv _ _ _ => false
  | .ref _ => true
  | .non => true
  | .bl _ => true
  | .int _ => true
  | .str _ => true
  | .ty _ => true
  | .glob _ => true
def noXs : List D → Bool
  | [] => true
  | d :: ds => noX d && noXs ds
end
def noXO : O → Bool
  | .lst xs => noXs xs
  | .obj _ fs => noXs (fs.map (·.2))
section
variable {K : PySem.W.Frag} {mg : Str → Option Value} {tn : Tn} {W : Wd}
theorem noX_of {d : D} {v : V} (r : RepV ⟨K, mg, tn, none⟩ W d v) : noX d = true := by
  refine RepV.rec (motive_1 := fun d v _ => noX d = true) (motive_2 := fun ds vs _ => noXs ds = true) ?_ ?_ ?_ ?_ ?_ ?_ ?_ ?_ ?_ ?_ ?_ ?_ ?_ r
  · rfl
  · exact fun b => rfl
  · exact fun b => rfl
  · exact fun b => rfl
  · exact fun b => rfl
  · exact fun x a h => rfl
  · exact fun xs vs a h _ ih => by simpa [noX] using ih
  · exact fun c xs a C dx fvs hc h hk _ ih => by simpa [noX] using ih
  · exact fun xs vs a h _ ih => by simpa [noX] using ih
  · exact fun n a h => rfl
  · exact fun c ks vs a C dd d fvs h hc h0 h1 hk _ ih => by cases h
  · rfl
  · intro d v ds vs _ _ ih1 ih2
    simp [noXs, ih1, ih2]
theorem noXs_of : ∀ {ds : List D} {vs : List V}, RepL ⟨K, mg, tn, none⟩ W ds vs → noXs ds = true
  | _, _, .nil => rfl
  | _, _, .cons h t => by simp [noXs, noX_of h, noXs_of t]
/-- from one frame to another -/
theorem rep_x {x y : Option (Addr × Value × Option Addr)} {d : D} {v : V} (r : RepV ⟨K, mg, tn, x⟩ W d v) : noX d = true → RepV ⟨K, mg, tn, y⟩ W d v := by
  refine RepV.rec (motive_1 := fun d v _ => noX d = true → RepV ⟨K, mg, tn, y⟩ W d v) (motive_2 := fun ds vs _ => noXs ds = true → RepL ⟨K, mg, tn, y⟩ W ds vs) ?_ ?_ ?_ ?_ ?_ ?_ ?_ ?_ ?_ ?_ ?_ ?_ ?_ r
  · exact fun _ => .non
  · exact fun b _ => .bl b
  · exact fun b _ => .int b
  · exact fun b _ => .str b
  · exact fun b _ => .ty b
  · exact fun x a h _ => .glob x a h
  · exact fun xs vs a h _ ih hb => .tup xs vs a h (ih (by simpa [noX] using hb))
  · exact fun c xs a C dx fvs hc h hk _ ih hb => .ins c xs a C dx fvs hc h hk (ih (by simpa [noX] using hb))
  · exact fun xs vs a h _ ih hb => .rl xs vs a h (ih (by simpa [noX] using hb))
  · exact fun n a h _ => .ref n a h
  · exact fun c ks vs a C dd d fvs h hc h0 h1 hk _ ih hb => by cases hb
  · exact fun _ => .nil
  · intro d v ds vs _ _ ih1 ih2 hb
    have : noX d = true ∧ noXs ds = true := by simpa [noXs] using hb
    exact .cons (ih1 this.1) (ih2 this.2)
theorem repL_x {x y : Option (Addr × Value × Option Addr)} : ∀ {ds : List D} {vs : List V}, RepL ⟨K, mg, tn, x⟩ W ds vs → noXs ds = true → RepL ⟨K, mg, tn, y⟩ W ds vs
  | _, _, .nil, _ => .nil
  | d :: ds, _, .cons h t, hb => by
    have : noX d = true ∧ noXs ds = true := by simpa [noXs] using hb
    exact .cons (rep_x h this.1) (repL_x t this.2)
theorem repO_x {x y : Option (Addr × Value × Option Addr)} {a : Addr} {o : O} {ho : HO} (r : RepO ⟨K, mg, tn, x⟩ W a o ho) (h : noXO o = true) : RepO ⟨K, mg, tn, y⟩ W a o ho := by
  cases r with
  | lst xs vs r => exact .lst xs vs (repL_x r h)
  | obj c fs C dx fvs hc r => exact .obj c fs C dx fvs hc ⟨r.1, repL_x r.2 h⟩
theorem noXO_of {a : Addr} {o : O} {ho : HO} (r : RepO ⟨K, mg, tn, none⟩ W a o ho) : noXO o = true := by
  cases r with
  | lst xs vs r => exact noXs_of r
  | obj c fs C dx fvs hc r => exact noXs_of r.2
theorem Rel.noX {S : Store} {H : Hp} (R : Rel ⟨K, mg, tn, none⟩ W S H) : ∀ o ∈ S, noXO o = true := fun o ho => by
  obtain ⟨n, hn⟩ := List.mem_iff_getElem?.mp ho
  obtain ⟨a, ha⟩ := R.addr hn
  obtain ⟨u, _, r⟩ := R.obj n a o ha hn
  exact noXO_of r
theorem Rel.x {x y : Option (Addr × Value × Option Addr)} {S : Store} {H : Hp} (R : Rel ⟨K, mg, tn, x⟩ W S H) (h : ∀ o ∈ S, noXO o = true) : Rel ⟨K, mg, tn, y⟩ W S H :=
  ⟨R.fr, R.len, R.nd, R.off, fun n a o e1 e2 => let ⟨ho, h1, h2⟩ := R.obj n a o e1 e2; ⟨ho, h1, repO_x h2 (h o (List.mem_iff_getElem?.mpr ⟨n, e2⟩))⟩⟩
end
def okE (i : Nat) (env env' : Env) : Prop := ∀ j d, env'[j]? = some (some d) → j = i ∨ env[j]? = some (some d) ∨ noX d = true
def okS (S S' : Store) : Prop := S' = S ∨ ∀ o ∈ S', noXO o = true
open Classical in
noncomputable def sufFin (i : Nat) (env : Env) (S : Store) (r : RS) : RS := match r with
  | .nx env' S' => if okE i env env' ∧ okS S S' then .nx (env'.set i none) S' else .bad
  | .rt d S' => if noX d = true ∧ okS S S' then .rt d S' else .bad
  | .bk env' S' => if okE i env env' ∧ okS S S' then .bk (env'.set i none) S' else .bad
  | .ct env' S' => if okE i env env' ∧ okS S S' then .ct (env'.set i none) S' else .bad
  | _ => .bad
/-- try: mb, except tg as the slot i: ms -/
noncomputable def mTryAs (T : CT) (i : Nat) (tg : Tg) (mb ms : MS) : MS := fun env S => match mb env S with
  | .exc e env1 S1 => (match T.xm e.c tg with
    | some true => sufFin i env1 S1 (ms (env1.set i (some (.xv e.c e.ks e.vs))) S1)
    | some false => .exc e env1 S1
    | none => .bad)
  | r => r
theorem sufFin_ok {K : PySem.W.Frag} {mg : Str → Option Value} {tn : Tn} {x : Option (Addr × Value × Option Addr)} {i : Nat} {env : Env} {S : Store} {r : RS} {D : Ends} {Wx : WX} {W W1 : Wd} (l : Le W W1) (nS : ∀ o ∈ S, noXO o = true) (nE : ∀ (j : Nat) (d : Bp.D), env[j]? = some (some d) → noX d = true)
    (q : EvS ⟨K, mg, tn, none⟩ none W (sufFin i env S r) D Wx) :
    EvS ⟨K, mg, tn, x⟩ x W1 r { nx := fun σ' H' => D.nx (σ'.set i none) H', rt := D.rt, bk := fun σ' H' => D.bk (σ'.set i none) H', ct := fun σ' H' => D.ct (σ'.set i none) H' } (fun _ _ _ _ => False) := by
  have dS : ∀ {S' : Store}, okS S S' → ∀ o ∈ S', noXO o = true := fun h o ho => by
    rcases h with rfl | h
    · exact nS o ho
    · exact h o ho
  have dE : ∀ {W2 : Wd} {env' : Env} {σ' : L2.St}, okE i env env' → RepE ⟨K, mg, tn, x⟩ x W2 env' σ' → RepE ⟨K, mg, tn, none⟩ none W2 (env'.set i none) (σ'.set i none) := fun {W2 env' σ'} ho RE => by
    have RE' := RE.unset i none
    refine ⟨fun _ e => (nomatch e), RE'.len, fun j d h => ?_⟩
    obtain ⟨v, h1, h2⟩ := RE'.at_ j d h
    refine ⟨v, h1, rep_x h2 ?_⟩
    by_cases hj : j = i
    · subst hj
      have hlt : j < (env'.set j none).length := (List.getElem?_eq_some_iff.mp h).1
      rw [List.length_set] at hlt
      rw [List.getElem?_set_self hlt] at h
      cases h
    · rw [List.getElem?_set_ne (Ne.symm hj)] at h
      rcases ho j d h with z | z | z
      · exact absurd z hj
      · exact nE j d z
      · exact z
  unfold sufFin at q
  cases r with
  | nx env' S' =>
    dsimp only at q
    split at q
    · rename_i hc
      exact fun W2 σ' H' l2 R2 RE2 => q W2 _ H' (l.trans l2) (R2.x (dS hc.2)) (dE hc.1 RE2)
    · exact q.elim
  | rt d S' =>
    dsimp only at q
    split at q
    · rename_i hc
      exact fun W2 v H' l2 R2 rv => q W2 v H' (l.trans l2) (R2.x (dS hc.2)) (rep_x rv hc.1)
    · exact q.elim
  | bk env' S' =>
    dsimp only at q
    split at q
    · rename_i hc
      exact fun W2 σ' H' l2 R2 RE2 => q W2 _ H' (l.trans l2) (R2.x (dS hc.2)) (dE hc.1 RE2)
    · exact q.elim
  | ct env' S' =>
    dsimp only at q
    split at q
    · rename_i hc
      exact fun W2 σ' H' l2 R2 RE2 => q W2 _ H' (l.trans l2) (R2.x (dS hc.2)) (dE hc.1 RE2)
    · exact q.elim
  | exc _ _ _ => exact q.elim
  | bad => exact q.elim
def mRaise0 (T : CT) (c : Nat) : MS := fun env S => if T.exo c = true then .exc ⟨c, [], []⟩ env S else .bad
section
variable {fl : Pm} {X : Cx} {Wx : WX} {T : CT} {L k : Nat} {x : Str} {p pos pos' np : Pos}
theorem pmk_own0 {C : Addr} {bmB : List Value} {B newId initId : String} (F : ExcBaseFacts B newId initId bmB) (q : PySem.W.excIn X.K C bmB newId = true) (gC : X.mg x = some (.ref C)) (kC : PySem.W.keepIn X.K (.ref C) = true) (r : Raises X (.ref C)) (hg : Gl X x)
    (hdb : (x == ("__debug__" : Str)) = false := by decide) : PMk X (.Call (.Name x p) [] [] pos) (fun _ H Q => Q (.ref C) none H) := by
  intro pins s σ H Q I h
  refine wpAny_Call_Name_kw (ld_glob I hg gC ?_ hdb)
  refine PySem.W.callWith_K0 I.kIn kC ?_
  obtain ⟨bm, N, nm, qn, bs, hdct, sn, sub, ab, col, dd, k0, k1, k2, k3, k5, mN, hC, hN, hni, T⟩ := exc_obj I.kIn q
  obtain ⟨hp1, g1, d1, tk1, os1⟩ := s
  refine wpAny_call_exc_subT F T hC hN hni (fun h' e hm => ?_) (Nat.zero_le _)
  exact mk_of I hm r h (I.hok.gone hm.new)
theorem es_raise0 (c : Nat) (hc : fl.tn.nm c = x) (hT : T.Ok X.prog X.w X.K X.mg X.base L) (htn : T.tn = fl.tn) (C0 : Cxt fl X Wx k) (hg : Gl X x) (hm : T.exo c = true) (hdb : (x == ("__debug__" : Str)) = false := by decide) : ES fl X Wx (.Raise (some (.Call (.Name x p) [] [] pos)) none pos') (mRaise0 T c) := by
  subst hc
  obtain ⟨C, B, nI, iI, bm, E, F, q⟩ := hT.exo c hm
  rw [htn] at E
  refine PS.imp (ps_raise C0.calm C0.tk (pmk_own0 F q E.mg E.kp (raises_own E.rs1 E.rs2) hg hdb)) fun D σ H ⟨W, env, S, R, RE, h⟩ => ?_
  unfold mRaise0 at h
  rw [if_pos hm] at h
  exact h W (.ref C) none σ H (.refl W) R ⟨⟨C, rfl, E.mg⟩, fun _ => rfl, 0, [], fun z => absurd rfl z, rfl, .nil⟩ RE
theorem es_try_as {body suite : List Stmt} {b₀ : Stmt} {n cn : Str} {mb ms : MS} {cv : Value} (i : Nat) (tg : Tg) (hT : T.Ok X.prog X.w X.K X.mg X.base L) (htn : T.tn = fl.tn) (C0 : Cxt fl X Wx k) (hN : X.N.Nodup) (hi : X.N[i]? = some n) (hln : X.env.kindOf n = some .local) (hc : Names X cn cv) (htv : TV X.mg fl.tn tg cv)
    (hb : ∀ (W : WX) (pn : List (Addr × Obj)) (xe : Value → Shared → Prop), Cxt fl (X.tr pn xe) W k → ESs fl (X.tr pn xe) W body mb)
    (hsu : ∀ (a C : Addr) (oe : Obj) (d : Option Addr) (pn : List (Addr × Obj)), Zc (.ref C) d oe → (∃ vs, oe.data = .fields vs) → ESs ⟨fl.tn, some (a, .ref C, d)⟩ (X.suite a ((a, oe) :: pn)) (fun _ _ _ _ => False) (b₀ :: suite) ms) :
    ES fl X Wx (.Try body [.ExceptHandler (some (.Name cn np)) (some n) (b₀ :: suite) pos'] [] [] pos) (mTryAs T i tg mb ms) := by
  refine PS.imp (ps_try_as (tb := fun W => TSm (gx X fl) fl.x W mb) (ts := fun a cls d D σ H => ∃ C, cls = .ref C ∧ TSm ⟨X.K, X.mg, fl.tn, some (a, cls, d)⟩ (some (a, cls, d)) (fun _ _ _ _ => False) ms D σ H) (Wout := Wx) C0.stk C0.frm hN hi hln hc C0.tk
    (fun W pn xe tk po => hb W pn xe ⟨C0.fx, C0.hr, tk, po, C0.calm, C0.stk, C0.frm⟩)
    (fun a oe cls d pn hz hf => ⟨fun pins s σ H D I ⟨C, ec, h⟩ => by subst ec; exact (hsu a C oe d pn hz hf).run pins s σ H D I h⟩)) fun D σ H ⟨W, env, S, R, RE, q⟩ => ⟨W, env, S, R, RE, ?_⟩
  have hG := C0.gx
  unfold mTryAs at q
  cases e : mb env S with
  | nx _ _ => rw [e] at q; exact q
  | rt _ _ => rw [e] at q; exact q
  | bk _ _ => rw [e] at q; exact q
  | ct _ _ => rw [e] at q; exact q
  | bad => rw [e] at q; exact q
  | exc ex env1 S1 =>
    rw [e] at q
    intro W1 cls d0 σ1 H1 l1 R1 rx RE1
    obtain ⟨C, rfl, hmg⟩ := rx.c
    dsimp only at q
    cases hx : T.xm ex.c tg with
    | none => rw [hx] at q; exact q.elim
    | some b =>
      rw [hx] at q
      have hxm := hT.xm ex.c tg b hx C cv (by rw [htn]; exact hmg) (by rw [htn]; exact htv)
      refine ⟨b, hxm, fun hb1 a ha => ?_, fun hb0 => ?_⟩
      · subst hb1
        refine ⟨C, rfl, ?_⟩
        rw [hG] at R1 RE1 rx
        have nS := R1.noX
        have RE2 : RepE ⟨X.K, X.mg, fl.tn, some (a, .ref C, d0)⟩ (some (a, .ref C, d0)) W1 env1 σ1 := ⟨fun i e => e, RE1.len, fun i d h => let ⟨v, h1, h2⟩ := RE1.at_ i d h; ⟨v, h1, rep_x h2 (noX_of h2)⟩⟩
        obtain ⟨dd, fvs, g1, g2, g3⟩ := rx.f
        have rv : RepV ⟨X.K, X.mg, fl.tn, some (a, .ref C, d0)⟩ W1 (.xv ex.c ex.ks ex.vs) (.ref a) := .xv _ _ _ a C dd d0 fvs rfl hmg rx.h0 g1 g2 (repL_x g3 (noXs_of g3))
        refine ⟨W1, _, S1, R1.x nS, RE2.set rv i, ?_⟩
        refine sufFin_ok l1 nS (fun j d h => ?_) (by rw [hG, C0.fx] at q; exact q)
        obtain ⟨v, _, h2⟩ := RE1.at_ j d h
        exact noX_of h2
      · subst hb0
        exact q W1 _ d0 σ1 H1 l1 R1 rx RE1
end
end Bp


set_option Elab.async false
set_option linter.all false
set_option maxRecDepth 100000
set_option maxHeartbeats 4000000
/-! Bp10: built-ins by data. -/
namespace PySem.W
open PySem PySem.Builtin
theorem bp_bool_tree (x : Value) : Builtin.«bool.__new__» ⟨[.type "bool", x], []⟩ = (do
  if !(← isSubtype (.type "bool") (.type "bool")) then
    rule "bool.__new__.no-subtype"; raiseError "TypeError" s!"bool.__new__({← typeName (.type "bool")}): {← typeName (.type "bool")} is not a subtype of bool"
  ret (.bool (← truthy x))) := by
  rfl
open Builtin in
theorem bp_bool_own {prog : Program} {w : World} {A : Around} {E : Value → Shared → Prop} {s : Shared} {K : Frag} {x C f : Addr} {ox : Obj} {od : Option Obj} {Q : Value → Shared → Prop} (X : K.In s.heap) (I : InstAt s.heap x ox C od)
    (hs : findIn K (.ref C) "__bool__" = some (some (.ref f))) (hf : isFn K (.ref f) = true)
    (h : wpAny (model prog w) A.in1.in1 (call (.ref f) [.ref x]) (BoolBack fun b s' => Q (.bool b) s') E s) : wpAny (model prog w) A (call (.type "bool") [.ref x]) Q E s := by
  refine callType_codes (T := "bool") (Bi := Builtin.«object.__init__») (Q₁ := fun r s₁ => ∃ b, r = .bool b ∧ Q r s₁) PySem.F.called_bool (PySem.F.typeCall_bool_1 _) PySem.F.entry_object_init ?_ ?_
  · refine codeAny_of_tree ?_
    show wpAny _ A.in1.in1 (do checkBuiltinCall "bool.__new__" ⟨[.type "bool", .ref x], []⟩; again (.builtin "bool.__new__" ⟨[.type "bool", .ref x], []⟩)) _ _ s
    refine wpAny_bind (wpAny_of_eq (PySem.F.newCall_bool_1 _) (wpAny_pure ⟨plainId_quiet (by decide +kernel) _, codeAny_builtin PySem.F.entry_bool_new ?_⟩))
    rw [Around.under_plainId (by decide +kernel) _]
    rw [bp_bool_tree]
    refine wpAny_bind (wpAny_of_eq PySem.F.conv_sub_bool ?_)
    rw [if_neg (by decide)]
    refine wpAny_bind (m := callSpecial? (.ref x) (Str.ofString "__bool__") >>= _) ?_
    refine wpAny_bind (m := callSpecial? (.ref x) (Str.ofString "__bool__")) (special_fn X I hs (beq_iff_eq.mp hf) (wpAny_mono h (fun r s' hr => ?_) fun _ _ y => y))
    cases r <;> first | exact hr.elim | exact wpAny_pure (wpAny_pure ⟨_, rfl, hr⟩)
  · rintro obj s₁ ⟨b, rfl, hq⟩
    exact ⟨typeIs_bool _ _, PySem.F.args_object_init_2 _ _, object_init_meets PySem.F.called_bool.init.lookup PySem.F.called_bool.made (by decide) prog w A.in1 _ s₁ ⟨typeIs_bool _ _, rfl, hq⟩⟩
end PySem.W
namespace Bp
open PySem L2 PyProof.Rows
section
variable {fl : Pm} {X : Cx} {Wx : WX} {T : CT} {L k : Nat} {x : Str} {p pos apos : Pos} {e o : Expr} {es : List Expr} {me mo : ME} {ms : List ME} {id : String} {g : Fn}
/-- a built-in called -/
def Blt (fl : Pm) (X : Cx) (Wx : WX) (f : Value) (g : Fn) : Prop :=
  ∀ (pins : List (Addr × Obj)) (s : Shared) (σ : L2.St) (H : Hp) (vs : List V) (us : List Value) (W : Wd) (ds : List D) (S : Store) (Q : VK), Inv X pins σ H s → Vals vs us → Rel (gx X fl) W S H → RepL (gx X fl) W ds vs →
    Ev (RepV (gx X fl)) (gx X fl) W (g ds S) Q (fun c d H => Wx c d σ H) → wpAny (model X.prog X.w) X.A (call f us) (EP X pins σ Q) X.xe s
theorem ex_callB (hc : Blt fl X Wx (.builtin id) g) (hg : Gl X x) (hm : X.mg x = none) (hv : bootBuiltins x = some (.builtin id)) (ha : EA fl X Wx (e :: es) (me :: ms)) (hn : x ≠ "__name__" := by decide) (hdb : (x == ("__debug__" : Str)) = false := by decide)
    (he : starEach (e :: es) X.env = (false, eval e X.env) :: starEach es X.env := by rfl) (hpl : (backTo pos (starEach es X.env)).any (·.1) = false := by rfl) : EX fl X Wx (.Call (.Name x p) (e :: es) [] pos) (mCall g (me :: ms)) := by
  refine ⟨fun pins s σ H Q I ⟨W, env, S, R, RE, q⟩ => ?_⟩
  refine wpAny_Call_Name_kw (ld_blt I hg hm hv ?_ hn hdb)
  exact PyProof.Rows.callWith_builtin1 (thn (ha.run pos I R RE (Ev.seq q)) fun us s1 ⟨vs, H1, I1, r1, W1, ds, S1, l1, R1, rl, q1⟩ => hc pins s1 σ H1 vs us W1 ds S1 Q I1 r1 R1 rl q1) he hpl
theorem ex_callF (hc : Blt fl X Wx (.builtin id) g) (hg : Gl X x) (hm : X.mg x = some (.builtin id)) (ha : EA fl X Wx (e :: es) (me :: ms)) (hdb : (x == ("__debug__" : Str)) = false := by decide)
    (he : starEach (e :: es) X.env = (false, eval e X.env) :: starEach es X.env := by rfl) (hpl : (backTo pos (starEach es X.env)).any (·.1) = false := by rfl) : EX fl X Wx (.Call (.Name x p) (e :: es) [] pos) (mCall g (me :: ms)) := by
  refine ⟨fun pins s σ H Q I ⟨W, env, S, R, RE, q⟩ => ?_⟩
  refine wpAny_Call_Name_kw (ld_glob I hg hm ?_ hdb)
  exact PyProof.Rows.callWith_builtin1 (thn (ha.run pos I R RE (Ev.seq q)) fun us s1 ⟨vs, H1, I1, r1, W1, ds, S1, l1, R1, rl, q1⟩ => hc pins s1 σ H1 vs us W1 ds S1 Q I1 r1 R1 rl q1) he hpl
theorem ex_callTy (hc : Blt fl X Wx (.type id) g) (hg : Gl X x) (hm : X.mg x = none) (hv : bootBuiltins x = some (.type id)) (ha : EA fl X Wx (e :: es) (me :: ms)) (hn : x ≠ "__name__" := by decide) (hdb : (x == ("__debug__" : Str)) = false := by decide)
    (he : starEach (e :: es) X.env = (false, eval e X.env) :: starEach es X.env := by rfl) (hpl : (backTo pos (starEach es X.env)).any (·.1) = false := by rfl) : EX fl X Wx (.Call (.Name x p) (e :: es) [] pos) (mCall g (me :: ms)) := by
  refine ⟨fun pins s σ H Q I ⟨W, env, S, R, RE, q⟩ => ?_⟩
  refine wpAny_Call_Name_kw (ld_blt I hg hm hv ?_ hn hdb)
  exact PyProof.Rows.callWith_type1 (thn (ha.run pos I R RE (Ev.seq q)) fun us s1 ⟨vs, H1, I1, r1, W1, ds, S1, l1, R1, rl, q1⟩ => hc pins s1 σ H1 vs us W1 ds S1 Q I1 r1 R1 rl q1) he hpl
theorem ex_callTy0 (hc : Blt fl X Wx (.type id) g) (hg : Gl X x) (hm : X.mg x = none) (hv : bootBuiltins x = some (.type id)) (hn : x ≠ "__name__" := by decide) (hdb : (x == ("__debug__" : Str)) = false := by decide) : EX fl X Wx (.Call (.Name x p) [] [] pos) (mCall g []) := by
  refine ⟨fun pins s σ H Q I ⟨W, env, S, R, RE, q⟩ => ?_⟩
  refine wpAny_Call_Name_kw (ld_blt I hg hm hv ?_ hn hdb)
  exact PyProof.Rows.callWith_type0 (hc pins s σ H [] [] W [] S Q I .nil R .nil q)
/-! ### isinstance -/
def tagD (T : CT) (d : D) (S : Store) : Option Tg := match d with
  | .non => some (.b "NoneType")
  | .bl _ => some (.b "bool")
  | .int _ => some (.b "int")
  | .str _ => some (.b "str")
  | .tup _ => some (.b "tuple")
  | .rl _ => some (.b "list")
  | .ins c _ => if T.kn c = true then some (.c c) else none
  | .ref n => (match S[n]? with
    | some (.lst _) => some (.b "list")
    | some (.obj c _) => if T.kn c = true then some (.c c) else none
    | none => none)
  | _ => none
theorem tag_ok {d : D} {S : Store} {v : V} {W : Wd} {H : Hp} {t : Tg} (hT : T.Ok X.prog X.w X.K X.mg X.base L) (htn : T.tn = fl.tn) (R : Rel (gx X fl) W S H) (r : RepV (gx X fl) W d v) (h : tagD T d S = some t) : ∃ tv, TV X.mg fl.tn t tv ∧ TyX X.K H v tv := by
  cases r with
  | non => cases h; exact ⟨_, .b _, .base .non⟩
  | bl b => cases h; exact ⟨_, .b _, .base (.bl b)⟩
  | int b => cases h; exact ⟨_, .b _, .base (.int b)⟩
  | str b => cases h; exact ⟨_, .b _, .base (.str b)⟩
  | ty _ => cases h
  | glob _ _ _ => cases h
  | tup xs vs a ha _ => cases h; exact ⟨_, .b _, .base (.tup (R.fr _ _ ha))⟩
  | rl xs vs a hs _ =>
    cases h
    refine ⟨_, .b _, ?_⟩
    rcases hs with hs | ⟨o, its, n, h1, h2, _⟩
    · rcases hs with hs | ⟨o, hs⟩
      · exact .base (.lst (R.fr _ _ hs))
      · exact .base (.frz (R.fr _ _ hs))
    · exact .kList h1 h2
  | ins c xs a C dx fvs hc hF hk _ =>
    have h' : (if T.kn c = true then some (Tg.c c) else none) = some t := h
    split at h'
    · rename_i hkn
      cases h'
      obtain ⟨C', cl⟩ := hT.cls c hkn
      rw [htn] at cl
      have := cl.uniq hc
      subst this
      exact ⟨_, .c c C hc, .base (.ins (R.fr _ _ hF) cl.cls cl.ca cl.cn cl.ct cl.mro)⟩
    · cases h'
  | ref n a ha =>
    obtain ⟨o, ho⟩ := R.at ha
    obtain ⟨u, hu, ro⟩ := R.obj n a o ha ho
    unfold tagD at h
    simp only [ho] at h
    cases ro with
    | lst xs vs _ => cases h; exact ⟨_, .b _, .base (.lst hu)⟩
    | obj c fs C dx fvs hc _ =>
      dsimp only at h
      split at h
      · rename_i hkn
        cases h
        obtain ⟨C', cl⟩ := hT.cls c hkn
        rw [htn] at cl
        have := cl.uniq hc
        subst this
        exact ⟨_, .c c C hc, .base (.ins hu cl.cls cl.ca cl.cn cl.ct cl.mro)⟩
      · cases h
  | xv _ _ _ _ _ _ _ _ _ _ _ _ _ _ => cases h
def clsTg : D → Option Tg
  | .ty n => some (.b n)
  | .glob c => some (.c c)
  | _ => none
theorem cls_ok {d : D} {v : V} {W : Wd} {t : Tg} (r : RepV (gx X fl) W d v) (h : clsTg d = some t) : ∃ tv, TV X.mg fl.tn t tv ∧ ClsV v tv := by
  cases r with
  | ty n => cases h; exact ⟨_, .b n, .ty n⟩
  | glob c a ha => cases h; exact ⟨_, .c c a ha, .own a⟩
  | _ => cases h
def isiAny (T : CT) (t : Tg) : List D → Option Bool
  | [] => some false
  | d :: ds => (clsTg d).bind fun c => (T.isi t c).bind fun a => (isiAny T t ds).bind fun b => some (a || b)
theorem kitAny_or {K : PySem.W.Frag} {t c : Value} {cs : List Value} {a b : Bool} (h1 : PySem.W.kitOne K t c = some a) (h2 : PySem.W.kitAny K t cs = some b) : PySem.W.kitAny K t (c :: cs) = some (a || b) := by
  unfold PySem.W.kitAny
  rw [h1]
  cases a
  · simpa using h2
  · rfl
theorem any_ok {ds : List D} {vs : List V} {W : Wd} {t : Tg} {tv : Value} {b : Bool} (hT : T.Ok X.prog X.w X.K X.mg X.base L) (htn : T.tn = fl.tn) (r : RepL (gx X fl) W ds vs) (ht : TV X.mg fl.tn t tv) (h : isiAny T t ds = some b) :
    ∃ us, Paired ClsV vs us ∧ PySem.W.kitAny X.K tv us = some b := by
  induction ds generalizing vs b with
  | nil => cases r; cases h; exact ⟨[], .nil, rfl⟩
  | cons d ds ih =>
    cases r with
    | cons r1 rr =>
      unfold isiAny at h
      cases hc : clsTg d with
      | none => rw [hc] at h; cases h
      | some c =>
        rw [hc] at h
        obtain ⟨cv, tc, kc⟩ := cls_ok r1 hc
        have h' : ((T.isi t c).bind fun a => (isiAny T t ds).bind fun b => some (a || b)) = some b := h
        cases ha : T.isi t c with
        | none => rw [ha] at h'; cases h'
        | some a =>
          rw [ha] at h'
          cases hb : isiAny T t ds with
          | none => rw [hb] at h'; cases h'
          | some b' =>
            rw [hb] at h'
            cases h'
            obtain ⟨us, p, e⟩ := ih rr hb
            exact ⟨_, .cons kc p, kitAny_or (hT.isi t c a ha _ _ (by rw [htn]; exact ht) (by rw [htn]; exact tc)) e⟩
def isiD (T : CT) : Fn := fun ds S => match ds with
  | [x, c] => (match tagD T x S with
    | some t => (match c with
      | .tup cs => (match isiAny T t cs with
        | some b => .ok (.bl b) S
        | none => .bad)
      | c => (match (clsTg c).bind (T.isi t) with
        | some b => .ok (.bl b) S
        | none => .bad))
    | none => .bad)
  | _ => .bad
theorem bl_isi (hT : T.Ok X.prog X.w X.K X.mg X.base L) (htn : T.tn = fl.tn) : Blt fl X Wx (.builtin "isinstance") (isiD T) := by
  intro pins s σ H vs us W ds S Q I r R rl q
  unfold isiD at q
  split at q
  · rename_i x c
    cases rl with
    | cons r1 rr =>
    cases rr with
    | cons r2 rr =>
      cases rr
      split at q
      · rename_i t ht
        obtain ⟨tv, t1, t2⟩ := tag_ok hT htn R r1 ht
        split at q
        · rename_i cs
          split at q
          · rename_i b hb
            cases r2 with
            | tup _ cvs a ha rc =>
              obtain ⟨ws, pr, e⟩ := any_ok hT htn rc t1 hb
              exact call_isiT pins s σ H _ us Q I r ⟨_, a, cvs, tv, ws, b, rfl, R.fr _ _ ha, pr, t2, e, q W _ H (.refl W) R (.bl b)⟩
          · exact q.elim
        · split at q
          · rename_i b hb
            cases hc : clsTg c with
            | none => rw [hc] at hb; cases hb
            | some cc =>
              rw [hc] at hb
              obtain ⟨cv, tc, kc⟩ := cls_ok r2 hc
              exact call_isi pins s σ H _ us Q I r ⟨_, _, tv, cv, b, rfl, kc, t2, hT.isi t cc b hb _ _ (by rw [htn]; exact t1) (by rw [htn]; exact tc), q W _ H (.refl W) R (.bl b)⟩
          · exact q.elim
      · exact q.elim
  · exact q.elim
/-- isinstance in a suite: of the exception that it holds -/
def isiX (T : CT) : Fn := fun ds S => match ds with
  | [.xv cx [] _, c] => (match (clsTg c).bind (T.isi (.c cx)) with
    | some b => if T.exo cx = true then .ok (.bl b) S else .bad
    | none => .bad)
  | _ => .bad
theorem bl_isiX {tn : Tn} {a C : Addr} {oe : Obj} {d : Option Addr} {pn : List (Addr × Obj)} (hT : T.Ok X.prog X.w X.K X.mg X.base L) (htn : T.tn = tn) (hz : Zc (.ref C) d oe) (hf : ∃ vs, oe.data = .fields vs) : Blt ⟨tn, some (a, .ref C, d)⟩ (X.suite a ((a, oe) :: pn)) Wx (.builtin "isinstance") (isiX T) := by
  intro pins s σ H vs us W ds S Q I r R rl q
  unfold isiX at q
  split at q
  · rename_i cx ws c
    cases rl with
    | cons r1 rr =>
    cases rr with
    | cons r2 rr =>
      cases rr
      split at q
      · rename_i b hb
        split at q
        · rename_i hexo
          cases r1 with
          | xv _ _ _ a' C' dd d' fvs h hc h0 h1 hk rv =>
            cases h
            have hd := h0 rfl
            subst hd
            obtain ⟨C2, B, nI, iI, bm, E, _, _⟩ := hT.exo cx hexo
            rw [htn] at E
            have e2 : C2 = C := by
              have z := E.mg.symm.trans hc
              cases z
              rfl
            subst e2
            cases hcl : clsTg c with
            | none => rw [hcl] at hb; cases hb
            | some cc =>
              rw [hcl] at hb
              obtain ⟨cv, tc, kc⟩ := cls_ok r2 hcl
              exact call_isE E.ec hz hf pins s σ H _ us Q I r ⟨_, cv, b, rfl, fun u ru => kc.eq ru, hT.isi (.c cx) cc b hb _ _ (.c cx C2 (by rw [htn]; exact hc)) (by rw [htn]; exact tc), q W _ H (.refl W) R (.bl b)⟩
        · exact q.elim
      · exact q.elim
  · exact q.elim
/-! ### abs, bool, str, int, len, gcd, - -/
def negD (T : CT) (d : D) (S : Store) : Res D := match d with
  | .int i => .ok (.int (-i)) S
  | .ins c xs => dund T c 19 [.ins c xs] S
  | _ => .bad
theorem un_negD (hT : T.Ok X.prog X.w X.K X.mg X.base L) (htn : T.tn = fl.tn) (C0 : Cxt fl X Wx k) (hL : L ≤ k) : Un1 fl X Wx (unaryOp .USub) (negD T) := by
  intro pins s σ H x v W a S Q I rx R ra q
  obtain ⟨mfr, hF⟩ := I.fr
  unfold negD at q
  split at q
  · cases ra
    exact un_neg pins s σ H _ v Q I rx ⟨_, rfl, q W _ H (.refl W) R (.int _)⟩
  · rename_i c xs
    obtain ⟨A1, C, dx, fvs, od, rfl, rfl, hm, hH, _, _, J⟩ := inst_of I R ra rx
    obtain ⟨cl, f, M, run⟩ := run_dund (vs := [.ref A1]) (us := [.ref A1]) hT htn C0.fx (C0.hr.mono hL) rfl C0.tk I R hm (.cons rfl .nil) (.cons ra .nil) q
    rw [← htn, hT.dn 19 (by decide)] at M
    exact unary_own hF I.ok.mod.kin J (by decide) rfl M.at_ M.fn run
  · exact q.elim
def absD (T : CT) : Fn := fun ds S => match ds with
  | [.int i] => .ok (.int (if i < 0 then -i else i)) S
  | [.ins c xs] => dund T c 20 [.ins c xs] S
  | _ => .bad
theorem bl_abs (hT : T.Ok X.prog X.w X.K X.mg X.base L) (htn : T.tn = fl.tn) (C0 : Cxt fl X Wx k) (hL : L + 1 ≤ k) : Blt fl X Wx (.builtin "abs") (absD T) := by
  intro pins s σ H vs us W ds S Q I r R rl q
  obtain ⟨mfr, hF⟩ := I.fr
  unfold absD at q
  split at q
  · rename_i i
    cases rl with
    | cons r1 rr =>
      cases rr; cases r1
      exact call_abs pins s σ H _ us Q I r ⟨i, rfl, q W _ H (.refl W) R (.int _)⟩
  · rename_i c xs
    cases rl with
    | cons r1 rr =>
      cases rr
      obtain ⟨u, rfl, ru⟩ := vals1 r
      obtain ⟨A1, C, dx, fvs, od, rfl, rfl, hm, hH, _, _, J⟩ := inst_of I R r1 ru
      obtain ⟨cl, f, M, run⟩ := run_dund (vs := [.ref A1]) (us := [.ref A1]) hT htn C0.fx (C0.hr.mono hL).in1 rfl C0.tk I R hm (.cons rfl .nil) (.cons r1 .nil) q
      rw [← htn, hT.dn 20 (by decide)] at M
      exact abs_own hF I.ok.mod.kin J M.at_ M.fn run
  · exact q.elim
/-- a bool and nothing else -/
def onlyB (r : Res D) : Res D := match r with
  | .ok (.bl b) S' => .ok (.bl b) S'
  | .exc e S' => .exc e S'
  | _ => .bad
theorem onlyB_ok {G : Gs} {W : Wd} {r : Res D} {Q : VK} {E : XK} (q : Ev (RepV G) G W (onlyB r) Q E) : Ev (RepV G) G W r (fun v H => (∃ b, v = .bl b) ∧ Q v H) E := by
  cases r with
  | bad => exact q
  | exc e S => exact q
  | ok d S =>
    cases d with
    | bl b =>
      intro W' v H' l R rv
      refine ⟨?_, q W' v H' l R rv⟩
      cases rv
      exact ⟨_, rfl⟩
    | _ => exact (show False from q).elim
/-- a text and nothing else -/
def onlyS (r : Res D) : Res D := match r with
  | .ok (.str b) S' => .ok (.str b) S'
  | .exc e S' => .exc e S'
  | _ => .bad
theorem onlyS_ok {G : Gs} {W : Wd} {r : Res D} {Q : VK} {E : XK} (q : Ev (RepV G) G W (onlyS r) Q E) : Ev (RepV G) G W r (fun v H => (∃ b, v = .str b) ∧ Q v H) E := by
  cases r with
  | bad => exact q
  | exc e S => exact q
  | ok d S =>
    cases d with
    | str b =>
      intro W' v H' l R rv
      refine ⟨?_, q W' v H' l R rv⟩
      cases rv
      exact ⟨_, rfl⟩
    | _ => exact (show False from q).elim
def boolD (T : CT) : Fn := fun ds S => match ds with
  | [.int i] => .ok (.bl (i != 0)) S
  | [.bl b] => .ok (.bl b) S
  | [.ins c xs] => onlyB (dund T c 21 [.ins c xs] S)
  | _ => .bad
theorem bl_bool (hT : T.Ok X.prog X.w X.K X.mg X.base L) (htn : T.tn = fl.tn) (C0 : Cxt fl X Wx k) (hL : L + 2 ≤ k) : Blt fl X Wx (.type "bool") (boolD T) := by
  intro pins s σ H vs us W ds S Q I r R rl q
  obtain ⟨mfr, hF⟩ := I.fr
  unfold boolD at q
  split at q
  · rename_i i
    cases rl with
    | cons r1 rr =>
      cases rr; cases r1
      exact call_bool1 pins s σ H _ us Q I r (.inl ⟨i, rfl, q W _ H (.refl W) R (.bl _)⟩)
  · rename_i b
    cases rl with
    | cons r1 rr =>
      cases rr; cases r1
      exact call_bool1 pins s σ H _ us Q I r (.inr ⟨b, rfl, q W _ H (.refl W) R (.bl _)⟩)
  · rename_i c xs
    cases rl with
    | cons r1 rr =>
      cases rr
      obtain ⟨u, rfl, ru⟩ := vals1 r
      obtain ⟨A1, C, dx, fvs, od, rfl, rfl, hm, hH, _, _, J⟩ := inst_of I R r1 ru
      obtain ⟨cl, f, M, run⟩ := run_dund (vs := [.ref A1]) (us := [.ref A1]) hT htn C0.fx (C0.hr.mono hL).in1.in1 rfl C0.tk I R hm (.cons rfl .nil) (.cons r1 .nil) (onlyB_ok q)
      rw [← htn, hT.dn 21 (by decide)] at M
      refine PySem.W.bp_bool_own I.kIn J M.at_ M.fn (wpAny_mono run (fun v s' hv => ?_) fun _ _ e => e)
      obtain ⟨z, H', I', rz, ⟨b, rfl⟩, q2⟩ := hv
      cases rz
      exact ⟨.bl b, H', I', rfl, q2⟩
  · exact q.elim
def strD (T : CT) : Fn := fun ds S => match ds with
  | [.int i] => if i.natAbs.log2 < 1920 then .ok (.str (toString i)) S else .bad
  | [.str z] => .ok (.str z) S
  | [.ins c xs] => onlyS (dund T c 22 [.ins c xs] S)
  | _ => .bad
theorem bl_str (hT : T.Ok X.prog X.w X.K X.mg X.base L) (htn : T.tn = fl.tn) (C0 : Cxt fl X Wx k) (hL : L + 3 ≤ k) : Blt fl X Wx (.type "str") (strD T) := by
  intro pins s σ H vs us W ds S Q I r R rl q
  obtain ⟨mfr, hF⟩ := I.fr
  unfold strD at q
  split at q
  · rename_i i
    split at q
    · rename_i hi
      cases rl with
      | cons r1 rr =>
        cases rr; cases r1
        exact call_str_int pins s σ H _ us Q I r ⟨i, rfl, hi, q W _ H (.refl W) R (.str _)⟩
    · exact q.elim
  · rename_i z
    cases rl with
    | cons r1 rr =>
      cases rr; cases r1
      exact SkE.call_str_str pins s σ H _ us Q I r ⟨z, rfl, q W _ H (.refl W) R (.str _)⟩
  · rename_i c xs
    cases rl with
    | cons r1 rr =>
      cases rr
      obtain ⟨u, rfl, ru⟩ := vals1 r
      obtain ⟨A1, C, dx, fvs, od, rfl, rfl, hm, hH, _, _, J⟩ := inst_of I R r1 ru
      have hr3 := (C0.hr.mono hL)
      obtain ⟨cl, f, M, run⟩ := run_dund (vs := [.ref A1]) (us := [.ref A1]) hT htn C0.fx (hr3.mono (Nat.le_succ _)).in1.in1 rfl C0.tk I R hm (.cons rfl .nil) (.cons r1 .nil) (onlyS_ok q)
      rw [← htn, hT.dn 22 (by decide)] at M
      refine PySem.W.kso_call hr3.in1.in1.units0 I.kIn J M.at_ M.fn (wpAny_mono run (fun v s' hv => ?_) fun _ _ e => e)
      obtain ⟨z, H', I', rz, ⟨b, rfl⟩, q2⟩ := hv
      obtain ⟨t, rfl⟩ := rz
      exact ⟨.str b, H', I', ⟨t, rfl⟩, q2⟩
  · exact q.elim
def intD : Fn := fun ds S => match ds with
  | [.int i] => .ok (.int i) S
  | [.bl b] => .ok (.int (if b then 1 else 0)) S
  | _ => .bad
theorem bl_int : Blt fl X Wx (.type "int") intD := by
  intro pins s σ H vs us W ds S Q I r R rl q
  unfold intD at q
  split at q
  · rename_i i
    cases rl with
    | cons r1 rr =>
      cases rr; cases r1
      exact call_int1 pins s σ H _ us Q I r (.inl ⟨i, rfl, q W _ H (.refl W) R (.int _)⟩)
  · rename_i b
    cases rl with
    | cons r1 rr =>
      cases rr; cases r1
      exact call_int1 pins s σ H _ us Q I r (.inr ⟨b, rfl, q W _ H (.refl W) R (.int _)⟩)
  · exact q.elim
def lenD : Fn := fun ds S => match ds with
  | [.tup xs] => .ok (.int xs.length) S
  | [.rl xs] => .ok (.int xs.length) S
  | [.ref n] => (match S[n]? with
    | some (.lst xs) => .ok (.int xs.length) S
    | _ => .bad)
  | [.str z] => if z.length ≤ sizeLine then .ok (.int z.length) S else .bad
  | _ => .bad
theorem sql_up {K : PySem.W.Frag} {F H : Hp} (h : ∀ a o, F a = some o → H a = some o) {a : Addr} {xs : List V} (r : SqL K F a xs) : SqL K H a xs := sql_mono h r
theorem bl_len : Blt fl X Wx (.builtin "len") lenD := by
  intro pins s σ H vs us W ds S Q I r R rl q
  unfold lenD at q
  split at q
  · rename_i xs
    cases rl with
    | cons r1 rr =>
      cases rr
      cases r1 with
      | tup _ zs a ha rz => exact call_len_seq pins s σ H _ us Q I r ⟨a, zs, rfl, .inr (.inl (.inl (R.fr _ _ ha))), q W _ H (.refl W) R (by rw [rz.length]; exact .int _)⟩
  · rename_i xs
    cases rl with
    | cons r1 rr =>
      cases rr
      cases r1 with
      | rl _ zs a ha rz => exact call_len_seq pins s σ H _ us Q I r ⟨a, zs, rfl, .inl (sql_up R.fr ha), q W _ H (.refl W) R (by rw [rz.length]; exact .int _)⟩
  · rename_i n
    split at q
    · rename_i xs hS
      cases rl with
      | cons r1 rr =>
        cases rr
        cases r1 with
        | ref _ a ha =>
          obtain ⟨ho, hH, ro⟩ := R.obj n a _ ha hS
          cases ro with
          | lst _ zs rz => exact call_len_seq pins s σ H _ us Q I r ⟨a, zs, rfl, .inl (.inl (.inl hH)), q W _ H (.refl W) R (by rw [rz.length]; exact .int _)⟩
    · exact q.elim
  · rename_i z
    split at q
    · rename_i hz
      cases rl with
      | cons r1 rr =>
        cases rr; cases r1
        exact call_len_str pins s σ H _ us Q I r ⟨z, rfl, hz, q W _ H (.refl W) R (.int _)⟩
    · exact q.elim
  · exact q.elim
def gcdD : Fn := fun ds S => match ds with
  | [.int a, .int b] => .ok (.int ((Nat.gcd a.natAbs b.natAbs : Nat) : Int)) S
  | _ => .bad
theorem bl_gcd : Blt fl X Wx (.builtin "math.gcd") gcdD := by
  intro pins s σ H vs us W ds S Q I r R rl q
  unfold gcdD at q
  split at q
  · rename_i a b
    cases rl with
    | cons r1 rr =>
    cases rr with
    | cons r2 rr =>
      cases rr; cases r1; cases r2
      exact cr_gcd pins s σ H _ us Q I r ⟨a, b, rfl, q W _ H (.refl W) R (.int _)⟩
  · exact q.elim
/-! ### is None -/
def isND (a b : D) (S : Store) : Res D := match a, b with
  | .non, .non => .ok (.bl true) S
  | _, .non => .ok (.bl false) S
  | _, _ => .bad
def isnND (a b : D) (S : Store) : Res D := match a, b with
  | .non, .non => .ok (.bl false) S
  | _, .non => .ok (.bl true) S
  | _, _ => .bad
theorem rep_non {G : Gs} {W : Wd} {d : D} {v : V} (r : RepV G W d v) : decide (v = .non) = (match d with | .non => true | _ => false) := by
  cases r <;> simp
theorem bin_is : Bin2 fl X Wx (compareOp .Is) isND := by
  intro pins s σ H x y v u W a b S Q I rx ry R ra rb q
  have rn := rep_non ra
  cases rb with
  | non =>
    refine op_isN pins s σ H _ _ v u Q I rx ry ⟨rfl, ?_⟩
    rw [rn]
    cases a <;> exact q W _ H (.refl W) R (.bl _)
  | _ => cases ra <;> exact q.elim
theorem bin_isnot : Bin2 fl X Wx (compareOp .IsNot) isnND := by
  intro pins s σ H x y v u W a b S Q I rx ry R ra rb q
  have rn := rep_non ra
  cases rb with
  | non =>
    refine op_notN pins s σ H _ _ v u Q I rx ry ⟨rfl, ?_⟩
    rw [rn]
    cases a <;> exact q W _ H (.refl W) R (.bl _)
  | _ => cases ra <;> exact q.elim
end
end Bp


set_option Elab.async false
set_option linter.all false
set_option maxRecDepth 100000
set_option maxHeartbeats 4000000
/-! Bp11: subscripts, slices, methods of built-ins, names op= e. -/
namespace Bp
open PySem L2 PyProof.Rows
section
variable {fl : Pm} {X : Cx} {Wx : WX} {T : CT} {L k : Nat} {x : Str} {p pos pos' apos cpos : Pos} {e a b o : Expr} {es : List Expr} {me mo ma mb : ME} {ms : List ME} {id : String} {g : Fn}
theorem RepL.atI {G : Gs} {W : Wd} {ds : List D} {vs : List V} {i : Int} {d : D} (r : RepL G W ds vs) (h : L2.atI ds i = some d) : ∃ v, L2.atI vs i = some v ∧ RepV G W d v := by
  unfold L2.atI at h ⊢
  rw [r.length] at h
  cases e : ixN vs.length i with
  | none => rw [e] at h; cases h
  | some j =>
    rw [e] at h
    exact r.get h
def seqD (d : D) (S : Store) : Option (List D) := match d with
  | .tup xs => some xs
  | .rl xs => some xs
  | .ref n => (match S[n]? with
    | some (.lst xs) => some xs
    | _ => none)
  | _ => none
def ixD (d i : D) (S : Store) : Res D := match i with
  | .int i => (match d with
    | .str z => if z.length ≤ sizeLine then (match L2.atI z.cps.toList i with
      | some c => .ok (.str ⟨#[c]⟩) S
      | none => .bad) else .bad
    | d => (match seqD d S with
      | some xs => (match L2.atI xs i with
        | some v => .ok v S
        | none => .bad)
      | none => .bad))
  | _ => .bad
theorem seq_ok {d : D} {S : Store} {v : V} {xs : List D} {W : Wd} {H : Hp} (R : Rel (gx X fl) W S H) (r : RepV (gx X fl) W d v) (h : seqD d S = some xs) : ∃ p vs, v = .ref p ∧ (SqL X.K H p vs ∨ SqT X.K H p vs) ∧ RepL (gx X fl) W xs vs := by
  cases r with
  | tup _ vs p hp rv => cases h; exact ⟨p, vs, rfl, .inr (.inl (.inl (R.fr _ _ hp))), rv⟩
  | rl _ vs p hp rv => cases h; exact ⟨p, vs, rfl, .inl (sql_mono R.fr hp), rv⟩
  | ref n p hp =>
    unfold seqD at h
    dsimp only at h
    split at h
    · rename_i xs' hS
      cases h
      obtain ⟨ho, hH, ro⟩ := R.obj n p _ hp hS
      cases ro with
      | lst _ vs rv => exact ⟨p, vs, rfl, .inl (.inl (.inl hH)), rv⟩
    · cases h
  | _ => cases h
theorem ex_ix (ha : EX fl X Wx a ma) (hb : EX fl X Wx b mb) (hs : PlainIx b := by intro _ _; rfl) : EX fl X Wx (.Subscript a b pos) (mBin ixD ma mb) := by
  refine ⟨fun pins s σ H Q I ⟨W, env, S, R, RE, q⟩ => ?_⟩
  refine Subscript_ (thn (ha.run I R RE (Ev.seq q)) fun v s1 ⟨x, H1, I1, r1, W1, d1, S1, l1, R1, ra, q1⟩ => thn (hb.run I1 R1 (RE.mono l1) (Ev.seq q1)) fun u s2 ⟨y, H2, I2, r2, W2, d2, S2, l2, R2, rb, q2⟩ => ?_)
  have ra2 := ra.mono l2
  unfold ixD at q2
  split at q2
  · rename_i i
    cases rb
    split at q2
    · rename_i z _
      split at q2
      · rename_i hz
        split at q2
        · rename_i c hc
          cases ra2
          exact ix_str a b pins s2 σ H2 _ _ v u Q I2 r1 r2 ⟨z, i, c, rfl, rfl, hz, hc, q2 W2 _ H2 (.refl W2) R2 (.str _)⟩ (hs _ _)
        · exact q2.elim
      · exact q2.elim
    · split at q2
      · rename_i xs hx
        split at q2
        · rename_i d hd
          obtain ⟨p, vs, rfl, hsq, rv⟩ := seq_ok R2 ra2 hx
          obtain ⟨z, hz, rz⟩ := rv.atI hd
          rcases hsq with hsq | hsq
          · exact ix_list a b pins s2 σ H2 _ _ v u Q I2 r1 r2 ⟨p, vs, i, z, rfl, rfl, hsq, hz, q2 W2 _ H2 (.refl W2) R2 rz⟩ (hs _ _)
          · exact ix_tup a b pins s2 σ H2 _ _ v u Q I2 r1 r2 ⟨p, vs, i, z, rfl, rfl, hsq, hz, q2 W2 _ H2 (.refl W2) R2 rz⟩ (hs _ _)
        · exact q2.elim
      · exact q2.elim
  · exact q2.elim
/-! ### slices -/
def RpOI (_ : Wd) (a b : Option Int) : Prop := a = b
def EO (fl : Pm) (X : Cx) (Wx : WX) (eo : Option Expr) (m : Env → Store → Res (Option Int)) : Prop := PO X eo (Tx RpOI (gx X fl) fl.x Wx m)
theorem PO.imp {eo : Option Expr} {t t' : TO} (h : PO X eo t) (c : ∀ σ H Q, t' σ H Q → t σ H Q) : PO X eo t' := ⟨fun pins s σ H Q I q => h.run pins s σ H Q I (c σ H Q q)⟩
def mPn : Env → Store → Res (Option Int) := fun _ S => .ok none S
def asI (d : D) (S : Store) : Res (Option Int) := match d with
  | .int i => .ok (some i) S
  | _ => .bad
def mPs (m : ME) : Env → Store → Res (Option Int) := fun env S => (m env S).bind asI
theorem eo_none : EO fl X Wx none mPn := PO.imp po_none fun σ H Q ⟨W, env, S, R, RE, q⟩ => q W none H (.refl W) R rfl
theorem eo_some (he : EX fl X Wx e me) : EO fl X Wx (some e) (mPs me) := PO.imp (po_some he) fun σ H Q ⟨W, env, S, R, RE, q⟩ => ⟨W, env, S, R, RE, Ev.imp (Ev.seq q) fun v H1 ⟨W1, d1, S1, l1, R1, ra, q1⟩ => by
  cases ra with
  | int i => exact ⟨i, rfl, q1 W1 _ H1 (.refl W1) R1 rfl⟩
  | _ => exact (show False from q1).elim⟩
def cutD (xs : List D) (lo hi : Option Int) : List D := (xs.drop (HT.sIx xs.length 0 lo)).take (HT.sIx xs.length xs.length hi - HT.sIx xs.length 0 lo)
theorem RepL.cut {G : Gs} {W : Wd} {ds : List D} {vs : List V} (r : RepL G W ds vs) (lo hi : Option Int) : RepL G W (cutD ds lo hi) (cutV vs lo hi) := by
  unfold cutD cutV
  rw [r.length]
  exact (r.drop _).take _
def slD (d : D) (lo hi : Option Int) (S : Store) : Res D := match d with
  | .rl xs => .ok (.ref S.length) (S ++ [.lst (cutD xs lo hi)])
  | .ref n => (match S[n]? with
    | some (.lst xs) => .ok (.ref S.length) (S ++ [.lst (cutD xs lo hi)])
    | _ => .bad)
  | .tup xs => if HT.sIx xs.length 0 lo = 0 ∧ HT.sIx xs.length xs.length hi = xs.length then .bad else .ok (.tup (cutD xs lo hi)) S
  | .str z => if z.length ≤ sizeLine then .ok (.str (Txt.slice z lo hi)) S else .bad
  | _ => .bad
def mSl (m : ME) (ml mh : Env → Store → Res (Option Int)) : ME := fun env S => (m env S).bind fun d S1 => (ml env S1).bind fun lo S2 => (mh env S2).bind fun hi S3 => slD d lo hi S3
theorem slD_ok {d : D} {v : V} {lo hi : Option Int} {W : Wd} {S : Store} {H : Hp} {Q : VK} {E : XK} (R : Rel (gx X fl) W S H) (ra : RepV (gx X fl) W d v) (q : Ev (RepV (gx X fl)) (gx X fl) W (slD d lo hi S) Q E) : (rSlL X.K v lo hi H Q ∨ rSlT X.K v lo hi H Q) ∨ C8.rSlX v lo hi H Q := by
  unfold slD at q
  split at q
  · rename_i xs
    cases ra with
    | rl _ vs A hA rv =>
      refine .inl (.inl ⟨A, vs, rfl, sql_mono R.fr hA, fun p hp => ?_⟩)
      have lw : Le W ⟨W.F, W.μ ++ [p], W.xs⟩ := ⟨fun _ _ e => e, List.prefix_append _ _, List.prefix_rfl⟩
      obtain ⟨l4, R4⟩ := R.new hp (o := .lst (cutD xs lo hi)) (ho := .lst (cutV vs lo hi)) (.lst _ _ (RepL.mono lw (rv.cut lo hi)))
      exact q _ _ _ l4 R4 (.ref _ _ (by show (W.μ ++ [p])[S.length]? = some p; rw [← R.len]; simp))
  · rename_i n
    split at q
    · rename_i xs hS
      cases ra with
      | ref _ A hA =>
        obtain ⟨ho, hH, ro⟩ := R.obj n A _ hA hS
        cases ro with
        | lst _ vs rv =>
          refine .inl (.inl ⟨A, vs, rfl, .inl (.inl hH), fun p hp => ?_⟩)
          have lw : Le W ⟨W.F, W.μ ++ [p], W.xs⟩ := ⟨fun _ _ e => e, List.prefix_append _ _, List.prefix_rfl⟩
          obtain ⟨l4, R4⟩ := R.new hp (o := .lst (cutD xs lo hi)) (ho := .lst (cutV vs lo hi)) (.lst _ _ (RepL.mono lw (rv.cut lo hi)))
          exact q _ _ _ l4 R4 (.ref _ _ (by show (W.μ ++ [p])[S.length]? = some p; rw [← R.len]; simp))
    · exact q.elim
  · rename_i xs
    split at q
    · exact q.elim
    · rename_i hw
      cases ra with
      | tup _ vs A hA rv =>
        refine .inl (.inr ⟨A, vs, rfl, .inl (.inl (R.fr _ _ hA)), by rw [← rv.length]; exact hw, fun p hp => ?_⟩)
        obtain ⟨l4, R4⟩ := R.fix hp (.tup (cutV vs lo hi))
        exact q _ _ _ l4 R4 (.tup _ _ p upd_same ((rv.cut lo hi).mono l4))
  · rename_i z
    split at q
    · rename_i hz
      cases ra
      exact .inr ⟨z, rfl, hz, q W _ H (.refl W) R (.str _)⟩
    · exact q.elim
  · exact q.elim
theorem ex_slice {lo hi : Option Expr} {p2 : Pos} {ml mh : Env → Store → Res (Option Int)} (he : EX fl X Wx e me) (hl : EO fl X Wx lo ml) (hh : EO fl X Wx hi mh) : EX fl X Wx (.Subscript e (.Slice lo hi none p2) pos) (mSl me ml mh) := by
  refine PE.imp (pe_slice ((SlR.or sl_list sl_tup).or C8.sl_txt) he hl hh) fun σ H Q ⟨W, env, S, R, RE, q⟩ => ⟨W, env, S, R, RE, Ev.imp (Ev.seq q) fun v H1 ⟨W1, d1, S1, l1, R1, ra, q1⟩ => ?_⟩
  refine ⟨W1, env, S1, R1, RE.mono l1, Ev.imp (Ev.seq q1) fun l H2 ⟨W2, d2, S2, l2, R2, rl, q2⟩ => ?_⟩
  cases rl
  refine ⟨W2, env, S2, R2, (RE.mono l1).mono l2, Ev.imp (Ev.seq q2) fun h H3 ⟨W3, d3, S3, l3, R3, rh, q3⟩ => ?_⟩
  cases rh
  exact slD_ok R3 ((ra.mono l2).mono l3) q3
/-! ### methods of built-in types -/
def tyD (ty : String) (d : D) (S : Store) : Bool := match d with
  | .str _ => ty == "str"
  | .rl _ => ty == "list"
  | .ref n => (match S[n]? with
    | some (.lst _) => ty == "list"
    | _ => false)
  | _ => false
theorem tyD_ok {ty : String} {d : D} {S : Store} {v : V} {W : Wd} {H : Hp} (R : Rel (gx X fl) W S H) (r : RepV (gx X fl) W d v) (h : tyD ty d S = true) : tyV X.K ty v H := by
  cases r with
  | str z => exact beq_iff_eq.mp h
  | rl _ vs p hp rv => exact .inl ⟨beq_iff_eq.mp h, vs, sql_mono R.fr hp⟩
  | ref n p hp =>
    unfold tyD at h
    dsimp only at h
    split at h
    · rename_i xs hS
      obtain ⟨ho, hH, ro⟩ := R.obj n p _ hp hS
      cases ro with
      | lst _ vs rv => exact .inl ⟨beq_iff_eq.mp h, vs, .inl (.inl hH)⟩
    · cases h
  | _ => cases h
def mBm (ty : String) (g : Fn) (mo : ME) (ms : List ME) : ME := fun env S => (mo env S).bind fun d S1 => if tyD ty d S1 = true then (mArgs ms env S1).bind fun ds S2 => g (d :: ds) S2 else .bad
theorem ex_bm {ty : String} {name : Str} (pa : PlainAttrs ty) (slot : Slot ty name id) (hty : typeOf (.builtin id) = pure (.type "method_descriptor")) (hm : Blt fl X Wx (.builtin id) g) (ho : EX fl X Wx o mo) (ha : EA fl X Wx (e :: es) (me :: ms))
    (hbase : attributeBase o name X.env (eval o X.env) = eval o X.env := by rfl)
    (hfew : ((backTo cpos (starEach (e :: es) X.env)).all (fun x => !x.1) && (backToKw cpos (keywordEach [] X.env)).all (fun x => x.1.isSome)
      && decide ((e :: es).length + ([] : List Keyword).length + (if ([] : List Keyword).isEmpty then 0 else 1) < 30)) = true := by rfl)
    (hline : (apos.endLine == cpos.line) = true := by rfl) (hs : starEach (e :: es) X.env = (false, eval e X.env) :: starEach es X.env := by rfl) (hplain : (backTo cpos (starEach es X.env)).any (·.1) = false := by rfl) :
    EX fl X Wx (.Call (.Attribute o name apos) (e :: es) [] cpos) (mBm ty g mo (me :: ms)) := by
  refine ⟨fun pins s σ H Q I ⟨W, env, S, R, RE, q⟩ => ?_⟩
  refine wpAny_Call_method_late hbase hfew hline rfl (thn (ho.run I R RE (Ev.seq q)) fun v s1 ⟨x, H1, I1, r1, W1, d, S1, l1, R1, ra, q1⟩ => ?_)
  split at q1
  · rename_i ht
    obtain ⟨h1, h2⟩ := tyV_is I1 r1 (tyD_ok R1 ra ht)
    refine ⟨ty, id, pa, slot, hty, h1, h2, ?_⟩
    have hA := ha.run cpos I1 R1 (RE.mono l1) (Ev.seq q1)
    rw [hs] at hA ⊢
    refine Calls.callWith_builtin (by show (false || (backTo cpos (starEach es X.env)).any (·.1)) = false; rw [hplain] <;> rfl) (Calls.evalArgs_plain ?_)
    exact thn hA fun us s2 ⟨vs, H2, I2, r2, W2, ds, S2, l2, R2, rl, q2⟩ => hm pins s2 σ H2 (_ :: vs) (v :: us) W2 (d :: ds) S2 Q I2 (.cons r1 r2) R2 (.cons (ra.mono l2) rl) q2
  · exact q1.elim
theorem ex_bm0 {ty : String} {name : Str} (pa : PlainAttrs ty) (slot : Slot ty name id) (hty : typeOf (.builtin id) = pure (.type "method_descriptor")) (hm : Blt fl X Wx (.builtin id) g) (ho : EX fl X Wx o mo)
    (hbase : attributeBase o name X.env (eval o X.env) = eval o X.env := by rfl) (hline : (apos.endLine == cpos.line) = true := by rfl) : EX fl X Wx (.Call (.Attribute o name apos) [] [] cpos) (mBm ty g mo []) := by
  refine ⟨fun pins s σ H Q I ⟨W, env, S, R, RE, q⟩ => ?_⟩
  refine wpAny_Call_method0_late hbase hline (thn (ho.run I R RE (Ev.seq q)) fun v s1 ⟨x, H1, I1, r1, W1, d, S1, l1, R1, ra, q1⟩ => ?_)
  split at q1
  · rename_i ht
    obtain ⟨h1, h2⟩ := tyV_is I1 r1 (tyD_ok R1 ra ht)
    have q2 : Ev (RepV (gx X fl)) (gx X fl) W1 (g [d] S1) Q (fun c d H => Wx c d σ H) := q1
    exact ⟨ty, id, pa, slot, hty, h1, h2, Calls.callWith_builtin rfl (PySem.evalArgs_none (hm pins s1 σ H1 [_] [v] W1 [d] S1 Q I1 (.cons r1 .nil) R1 (.cons ra .nil) q2))⟩
  · exact q1.elim
def appD : Fn := fun ds S => match ds with
  | [.ref n, y] => (match S[n]? with
    | some (.lst xs) => if xs.length < sizeLine then .ok .non (S.set n (.lst (xs ++ [y]))) else .bad
    | _ => .bad)
  | _ => .bad
theorem bl_append : Blt fl X Wx (.builtin "list.append") appD := by
  intro pins s σ H vs us W ds S Q I r R rl q
  unfold appD at q
  split at q
  · rename_i n y
    split at q
    · rename_i xs hS
      split at q
      · rename_i hz
        cases rl with
        | cons r1 rr =>
        cases rr with
        | cons r2 rr =>
          cases rr
          cases r1 with
          | ref _ A hA =>
            obtain ⟨ho, hH, ro⟩ := R.obj n A _ hA hS
            cases ro with
            | lst _ zs rv =>
              cases r with
              | cons u1 ur =>
                refine mt_append pins s σ H _ _ _ _ Q I u1 ur ⟨A, zs, _, rfl, rfl, hH, by rw [← rv.length]; exact hz, ?_⟩
                exact q W _ _ (.refl W) (R.put hA (.lst _ _ (rv.append (.cons r2 .nil)))) .non
      · exact q.elim
    · exact q.elim
  · exact q.elim
/-- name op= e -/
def mAug (i : Nat) (g : D → D → Store → Res D) (me : ME) : MS := fun env S => match env[i]? with
  | some (some d) => onR (me env S) env fun y S1 => onR (g d y S1) env fun z S2 => .nx (env.set i (some z)) S2
  | _ => .bad
theorem es_aug {i : Nat} {op : Operator} {gg : D → D → Store → Res D} (ho : Bin2 fl X Wx (inplaceOp op) gg) (hN : X.N.Nodup) (hi : X.N[i]? = some x) (hx : Loc X.env.scope x) (he : EX fl X Wx e me) (hf : X.fn x = true ∨ X.env.scope.names.lookup x = some .local := by first | exact .inl rfl | exact .inr rfl | assumption) :
    ES fl X Wx (.AugAssign (.Name x pos') op e pos) (mAug i gg me) := by
  refine ⟨fun pins s σ H D I ⟨W, env, S, R, RE, q⟩ => ?_⟩
  unfold mAug at q
  split at q
  · rename_i d hd
    obtain ⟨v, e1, rv⟩ := RE.at_ i d hd
    obtain ⟨m, hn, hl⟩ := I.loc
    have vis : Vis X.env.scope x := by rcases hx with k | k; exact .inl k; exact .inr (.inl k)
    obtain ⟨u, r, l⟩ := hl i x v hi e1 vis
    refine wpAny_AugAssign_Name ?_
    have go : wpAny (model X.prog X.w) X.A (eval e X.env) (fun w s₂ => wpAny (model X.prog X.w) X.A (inplaceOp op u w) (fun r s₃ => wpAny (model X.prog X.w) X.A (storeName X.env x r) (fun _ => SP X pins D .next) X.xe s₃) X.xe s₂) X.xe s := by
      refine thn (he.run I R RE (EvS.on RE q)) fun w s1 ⟨y, H1, I1, r1, W1, d1, S1, l1, R1, ra, q1⟩ => ?_
      refine thn (ho pins s1 σ H1 v y u w W1 d d1 S1 _ I1 r r1 R1 (rv.mono l1) ra (EvS.on (RE.mono l1) q1)) fun z s2 ⟨zv, H2, I2, r2, W2, d2, S2, l2, R2, rz, q2⟩ => ?_
      exact store_ok I2 hN hi hx r2 (fun s3 I3 => ⟨_, H2, I3, q2 W2 _ H2 (.refl W2) R2 (((RE.mono l1).mono l2).set rz i)⟩) hf
    rcases l with ⟨hk, hm⟩ | ⟨hk, c, hc, hcell⟩
    · exact wpAny_loadName_local I.ok.kind hk hn hm go
    · rcases hk with hk | hk
      · exact wpAny_loadName_cell I.ok.kind hk hc hcell go
      · rcases hx with k | k
        · have : X.env.scope.names.lookup x = some .free := hk
          rw [k] at this; cases this
        · have : X.env.scope.names.lookup x = some .free := hk
          rw [k] at this; cases this
  · exact q.elim
end
end Bp


set_option Elab.async false
set_option linter.all false
set_option maxRecDepth 100000
set_option maxHeartbeats 4000000
/-! Bp12: a def that declines. -/
namespace Bp
open PySem L2 PyProof.Rows
/-- nothing is let out -/
def CF : CXT := fun _ _ _ _ _ _ => False
section
variable {P : Program} {w : World} {K : PySem.W.Frag} {mg : Str → Option Value} {base : Heap}
abbrev cxN (P : Program) (w : World) (K : PySem.W.Frag) (mg : Str → Option Value) (base : Heap) (N : List Str) (qual : Str) (st : Stmt) (f : Addr) (cdv : Value) (A : Around) (outer : List PySem.Env) (s : Shared) (H : Hp) : Cx :=
  cxOf CF P w K mg base N qual (defScope st) f cdv A outer s H E0
theorem ni_mk {tn : Tn} {x qual : Str} {st s1 s2 : Stmt} {f : Addr} {fd : FuncData} {N : List Str} {k c : Nat} {pp pr : Pos} {m1 m2 : MS} {dvs : List V} {kws : List (Str × V)} (F : FunD K x qual (defArgs st) (defBody st) (defScope st) dvs kws f fd) (Sc : FnScope N ["self", "other"] (defScope st)) (hbod : defBody st = [s1, s2, .Return (some (.Name "NotImplemented" pp)) pr]) (hmg : mg "NotImplemented" = none)
    (hgl : ∀ (cdv : Value) (A : Around) (outer : List PySem.Env) (s : Shared) (H : Hp), Gl (cxN P w K mg base N qual st f cdv A outer s H) "NotImplemented")
    (h1 : ∀ (cdv : Value) (A : Around) (outer : List PySem.Env) (s : Shared) (H : Hp), ES ⟨tn, none⟩ (cxN P w K mg base N qual st f cdv A outer s H) (fun _ _ _ _ => False) s1 m1)
    (h2 : ∀ (cdv : Value) (A : Around) (outer : List PySem.Env) (s : Shared) (H : Hp), ES ⟨tn, none⟩ (cxN P w K mg base N qual st f cdv A outer s H) (fun _ _ _ _ => False) s2 m2)
    (hm : ∀ (xs : List D) (y : D) (env : Env) (S : Store), (y = .non ∨ ∃ z, y = .str z) → env = ([D.ins c xs, y] : List D).map some ++ List.replicate (N.length - 2) none → m1 env S = .nx env S ∧ m2 env S = .nx env S) :
    NiOk P w K mg base tn (k + 1) c f fd := by
  intro A outer s H args us ps W S xs y vs Q hr e0 hb r R rl hy hq
  obtain ⟨oc, od, dV, kV, doc, pm, an, cdv, ct, osl, rfl, lk, hcd, _, _⟩ := F.ex
  have KX : K.In s.heap := e0.mod.kin.keeps fun b o e => (e0.bs b o e).1
  have lim : s.heap.NoLimit := e0.mod.nolimit.keeps fun b o e => (e0.bs b o e).1
  have hkind : ∀ y ∈ (["self", "other"] : List Str).zip us, (defScope st).names.lookup y.1 = some .local ∨ ((defScope st).names.lookup y.1 = some .cell ∧ ((cellsFrom (s.heap.objs.size + 1) (defScope st).names []).lookup y.1).isSome = true) := fun ⟨n, v⟩ hy => by
    rcases Sc.par n (List.of_mem_zip hy).1 with q | q
    · exact .inl q
    · exact .inr ⟨q, PySem.W.cellsFrom_some _ _ _ (.inl q)⟩
  refine codeAny_call_function hr.depth (KX _ _ lk) rfl Sc.co Sc.gen rfl (PySem.W.codeRec_of KX hcd) (hb _ _ _ _ ?_)
  refine wpAny_newFunctionEnv_cells Sc.kind hkind fun env he t1 x => ?_
  subst he
  refine ⟨lim.keeps x.toInCall.keep, codeAny_func ?_⟩
  have hl : vs.length = (["self", "other"] : List Str).length := by rw [← rl.length]; rfl
  have I : Inv (cxN P w K mg base N qual st f cdv A outer s H) [] (L2.start N vs) H t1 := inv_start Sc hr.hd e0 hl r x
  have RE : RepE ⟨K, mg, tn, none⟩ none W (([D.ins c xs, y] : List D).map some ++ List.replicate (N.length - 2) none) (L2.start N vs) := repE_start (N := N) rl
  obtain ⟨e1, e2⟩ := hm xs y _ S hy rfl
  rw [hbod]
  have b1 := (h1 cdv A outer s H).run [] t1 (L2.start N vs) H { nx := fun σ' H' => ∃ W', Le W W' ∧ Rel ⟨K, mg, tn, none⟩ W' S H' ∧ RepE ⟨K, mg, tn, none⟩ none W' (([D.ins c xs, y] : List D).map some ++ List.replicate (N.length - 2) none) σ', rt := fun _ _ => False, bk := fun _ _ => False, ct := fun _ _ => False } I
    ⟨W, _, S, R, RE, by rw [e1]; exact fun W' σ' H' l R' RE' => ⟨W', l, R', RE'⟩⟩
  refine wpAny_mono (wpAny_execs_cons (Q := fun fl s' => ∃ H' σ', fl = .ret .notImplemented ∧ Inv (cxN P w K mg base N qual st f cdv A outer s H) [] σ' H' s' ∧ Q H') (thn b1 fun fl s2' q => ?_)) (fun fl s' hs => ?_) fun e s' hs => wpAny_mono hs (fun _ _ z => (show False from z).elim) fun _ _ z => (show False from z).elim
  · cases fl with
    | ret u => obtain ⟨_, _, _, _, _, z⟩ := q; exact z.elim
    | brk => obtain ⟨_, _, _, z⟩ := q; exact z.elim
    | cont => obtain ⟨_, _, _, z⟩ := q; exact z.elim
    | next =>
      obtain ⟨σ2, H2, I2, W2, l2, R2, RE2⟩ := q
      have b2 := (h2 cdv A outer s H).run [] s2' σ2 H2 { nx := fun σ' H' => ∃ W', Le W W' ∧ Rel ⟨K, mg, tn, none⟩ W' S H', rt := fun _ _ => False, bk := fun _ _ => False, ct := fun _ _ => False } I2
        ⟨W2, _, S, R2, RE2, by rw [e2]; exact fun W' σ' H' l R' RE' => ⟨W', l2.trans l, R'⟩⟩
      refine wpAny_execs_cons (thn b2 fun fl s3 q => ?_)
      cases fl with
      | ret u => obtain ⟨_, _, _, _, _, z⟩ := q; exact z.elim
      | brk => obtain ⟨_, _, _, z⟩ := q; exact z.elim
      | cont => obtain ⟨_, _, _, z⟩ := q; exact z.elim
      | next =>
        obtain ⟨σ3, H3, I3, W3, l3, R3⟩ := q
        refine wpAny_execs_cons (wpAny_Return_some ?_)
        exact ld_blt I3 (hgl cdv A outer s H) hmg (u := .notImplemented) (by first | rfl | decide | kernel_rfl) ⟨H3, σ3, rfl, I3, hq W3 H3 l3 R3⟩
  · obtain ⟨H', σ', rfl, J, q⟩ := hs
    exact ⟨rfl, .non, H', J.os, J.bare, J.base, J.hok, rfl, q⟩
end
end Bp


set_option Elab.async false
set_option linter.all false
set_option maxRecDepth 100000
set_option maxHeartbeats 4000000
/-! Bp13: the head's facts, tables from them. -/
namespace Bp
open PySem L2 PyProof.Rows He
/-- where a def stands: a global, a class's method, a property's getter, a static method -/
inductive Pl where
  | g (x : Str) | m (c m : Str) | p (c m : Str) | s (c m : Str)
def Pl.ad (K : PySem.W.Frag) : Pl → Addr
  | .g x => ga K x
  | .m c x => ma K (ga K c) x
  | .p c x => (match PySem.W.recIn K (ma K (ga K c) x) "property" with
    | some (.ref z :: _) => z
    | _ => 0)
  | .s c x => (match PySem.W.recIn K (ma K (ga K c) x) "staticmethod" with
    | some (.ref z :: _) => z
    | _ => 0)
structure Fd where
  pl : Pl
  name : Str
  qual : Str
  st : Stmt
  dfl : List Dv := []
def Fd.dvs (K : PySem.W.Frag) (d : Fd) : List V := d.dfl.map (Dv.v K)
def Fd.ok (K : PySem.W.Frag) (d : Fd) : Bool := PySem.W.keepIn K (.ref (d.pl.ad K)) && (match K.lookup (d.pl.ad K) with
  | some ⟨_, _, .func fd, _⟩ => PySem.W.codeIn K fd.code d.qual && (dflB K fd.defaults (d.dvs K) && kwdB K fd.kwdefaults [])
  | _ => false)
def fnA (K : PySem.W.Frag) (a : Addr) : FnW := match K.lookup a with
  | some ⟨_, _, .func fd, _⟩ => some (fd.name, fd.qualname, fd.params, fd.body, fd.scope, fd.globals, fd.closure, fd.builtins)
  | _ => none
def Fd.val (d : Fd) : FnW := some (d.name, d.qual, defArgs d.st, .stmts (defBody d.st), defScope d.st, mainGlobals, [], builtinsNs)
theorem Fd.funD {K : PySem.W.Frag} {d : Fd} (e : fnA K (d.pl.ad K) = d.val) (c : d.ok K = true) : ∃ fd, FunD K d.name d.qual (defArgs d.st) (defBody d.st) (defScope d.st) (d.dvs K) [] (d.pl.ad K) fd := by
  obtain ⟨kp, c2⟩ := ba c
  unfold fnA at e
  cases q : K.lookup (d.pl.ad K) with
  | none =>
    rw [q] at c2
    cases c2
  | some o =>
    obtain ⟨oc, od, dt, osl⟩ := o
    rw [q] at c2 e
    cases dt with
    | func fd =>
      obtain ⟨n1, n2, n3, n4, n5, n6, n7, n8, n9, n10, n11, n12, n13, n14, n15⟩ := fd
      have e2 : (some (n1, n2, n3, n4, n5, n6, n7, n15) : FnW) = some (d.name, d.qual, defArgs d.st, .stmts (defBody d.st), defScope d.st, mainGlobals, [], builtinsNs) := e
      simp only [Option.some.injEq, Prod.mk.injEq] at e2
      obtain ⟨h1, h2, h3, h4, h5, h6, h7, h8⟩ := e2
      subst h1 h2 h3 h4 h5 h6 h7 h8
      have c3 : (PySem.W.codeIn K n13 d.qual && (dflB K n8 (d.dvs K) && kwdB K n9 [])) = true := c2
      obtain ⟨k1, k2⟩ := ba c3
      obtain ⟨k3, k4⟩ := ba k2
      exact ⟨_, ⟨oc, od, n8, n9, n10, n11, n12, n13, n14, osl, rfl, q, k1, dflB_ok k3, kwdB_ok k4⟩, kp⟩
    | _ => cases c2
abbrev AlB : Type := Bool × List FnW
def obsB (ck : PySem.W.Frag → Bool) (fn : List Fd) (K : PySem.W.Frag) : AlB := (ck K && fn.all fun d => d.ok K, fn.map fun d => fnA K (d.pl.ad K))
def valB (fn : List Fd) : AlB := (true, fn.map Fd.val)
def SaysB (ck : PySem.W.Frag → Bool) (fn : List Fd) (K : PySem.W.Frag) : Prop := obsB ck fn K = valB fn
def obsBG (n : Nat) (ck : PySem.W.Frag → Bool) (fn : List Fd) (g : Addr → Option Obj) : AlB := obsB ck fn (frG g (asD g n))
def hookB (n : Nat) (ck : PySem.W.Frag → Bool) (fn : List Fd) : PySem.W.Hook where
  α := AlB
  obs := fun s => obsBG n ck fn s.heap.get?
  val := fun _ => valB fn
  says := fun _ h => ∃ K : PySem.W.Frag, K.In h ∧ SaysB ck fn K
  of := fun _ _ e => ⟨_, frG_in, e⟩
  keeps := fun _ _ _ ⟨K, hK, c⟩ k => ⟨K, PySem.W.Frag.In.keeps hK k, c⟩
theorem obsBG_eq {n : Nat} {ck : PySem.W.Frag → Bool} {fn : List Fd} {g : Addr → Option Obj} {s : Shared} (h : ∀ a, g a = s.heap.get? a) : obsBG n ck fn g = (hookB n ck fn).obs s := by
  have e : g = s.heap.get? := funext h
  rw [e] <;> rfl
section
variable {cc : PySem.W.Frag → Bool} {fn : List Fd} {K : PySem.W.Frag}
theorem SaysB.ck (c : SaysB cc fn K) : cc K = true := (ba (show (cc K && fn.all fun d => d.ok K) = true from congrArg (fun z : AlB => z.1) c)).1
theorem SaysB.def_ (c : SaysB cc fn K) (i : Nat) {d : Fd} (h : fn[i]? = some d := by rfl) : ∃ fd, FunD K d.name d.qual (defArgs d.st) (defBody d.st) (defScope d.st) (d.dvs K) [] (d.pl.ad K) fd := by
  have c2 := (ba (show (cc K && fn.all fun d => d.ok K) = true from congrArg (fun z : AlB => z.1) c)).2
  have e : fn.map (fun d => fnA K (d.pl.ad K)) = fn.map Fd.val := congrArg (fun z : AlB => z.2) c
  have h1 : (fn.map (fun d => fnA K (d.pl.ad K)))[i]? = (fn.map Fd.val)[i]? := by rw [e]
  rw [List.getElem?_map, List.getElem?_map, h] at h1
  exact Fd.funD (Option.some.inj h1) (List.all_eq_true.mp c2 d (List.mem_of_getElem? h))
end
/-! ### static tables -/
structure St where
  nm : Nat → Str
  fl : Nat → List Nat
  N : Nat
  cls : List Nat
  no : List (Nat × Nat)
  one : List Nat
  inp : List Nat
  isi : List ((Tg × Tg) × Bool)
  exo : List Nat
  xm : List ((Nat × Tg) × Bool)
def St.tab (d : St) : CT where
  tn := ⟨d.nm, d.fl⟩
  kn := fun c => d.cls.contains c
  meth := fun _ _ => none
  no := fun c m => d.no.contains (c, m)
  one := fun c => d.one.contains c
  ni := fun _ => false
  prop := fun _ _ => none
  isi := fun t c => d.isi.lookup (t, c)
  mkr := fun _ => none
  N := d.N
  exo := fun c => d.exo.contains c
  xm := fun c t => d.xm.lookup (c, t)
  inp := fun c => d.inp.contains c
def St.tv (d : St) (K : PySem.W.Frag) : Tg → Value
  | .b n => .type n
  | .c c => .ref (ga K (d.nm c))
def St.gl (d : St) (K : PySem.W.Frag) (c : Nat) : Bool := (Fa.glo (d.nm c)).ok K
def St.glT (d : St) (K : PySem.W.Frag) : Tg → Bool
  | .b _ => true
  | .c c => d.gl K c
def clsCk (K : PySem.W.Frag) (C : Addr) : Bool := PySem.W.selfFirst K C && (decide (PySem.W.subIn K (.ref C) (.type "object") = some true) && (decide (PySem.W.subIn K (.ref C) (.type "int") = some false) && (eqO (PySem.W.findIn K (.ref C) "__class__") (some (some (.builtin "object.__class__"))) &&
  (eqO (PySem.W.specialIn K (.builtin "object.__class__") "__get__") (some (some (.builtin "getset_descriptor.__get__"))) && (decide (PySem.W.takesIn K (.builtin "object.__class__") = some true) && decide (PySem.W.mroIn K C (.type "object") = some true))))))
def excCk (K : PySem.W.Frag) (C : Addr) : Bool := eqO (PySem.W.findIn K (.ref C) "__getattribute__") (some (some (.builtin "BaseException.__getattribute__"))) && (eqO (PySem.W.findIn K (.ref C) "__getattr__") (some none) && (PySem.W.hasDictIn K C && (eqO (PySem.W.findIn K (.ref C) "__class__") (some (some (.builtin "object.__class__"))) &&
  (eqO (PySem.W.specialIn K (.builtin "object.__class__") "__get__") (some (some (.builtin "getset_descriptor.__get__"))) && (decide (PySem.W.takesIn K (.builtin "object.__class__") = some true) && decide (PySem.W.mroIn K C (.type "object") = some true))))))
def St.ck (d : St) (K : PySem.W.Frag) : Bool := (d.cls.all fun c => d.gl K c && ((Fa.cls (d.nm c)).ok K && clsCk K (ga K (d.nm c)))) && ((d.no.all fun q => d.gl K q.1 && (Fa.noat (d.nm q.1) (d.nm q.2)).ok K) && ((d.one.all fun c => d.gl K c && eqO (PySem.W.findIn K (.ref (ga K (d.nm c))) "__ne__") (some (some (.builtin "object.__ne__")))) &&
  ((d.inp.all fun c => d.gl K c && inpFree K (ga K (d.nm c))) && ((d.isi.all fun q => d.glT K q.1.1 && (d.glT K q.1.2 && decide (PySem.W.kitOne K (d.tv K q.1.1) (d.tv K q.1.2) = some q.2))) && ((d.exo.all fun c => d.gl K c && ((Fa.exc (d.nm c)).ok K && excCk K (ga K (d.nm c)))) &&
  d.xm.all fun q => d.gl K q.1.1 && (d.glT K q.1.2 && decide (PySem.W.exmOne K (.ref (ga K (d.nm q.1.1))) (d.tv K q.1.2) = some q.2)))))))
theorem lookup_of {α β : Type} [BEq α] [LawfulBEq α] {l : List (α × β)} {a : α} {b : β} (h : l.lookup a = some b) : (a, b) ∈ l := by
  induction l with
  | nil => cases h
  | cons q r ih =>
    obtain ⟨x, y⟩ := q
    unfold List.lookup at h
    split at h
    · rename_i e
      cases h
      rw [eq_of_beq e]
      exact List.mem_cons_self
    · exact List.mem_cons_of_mem _ (ih h)
theorem St.fine {d : St} {P : Program} {w : World} {K : PySem.W.Frag} {mg : Str → Option Value} {base h : Heap} {L : Nat} (X : K.In h) (G : h.Ns mainGlobals mg) (c : d.ck K = true) (dn : ∀ k, k < 40 → d.nm k = dnm k) (inj : ((List.range d.N).map d.nm).Nodup)
    (hfl : ∀ c ∈ d.cls, ((d.fl c).map d.nm).Nodup ∧ ∀ f ∈ d.fl c, f < d.N) : d.tab.Ok P w K mg base L := by
  obtain ⟨c1, c⟩ := ba c
  obtain ⟨c2, c⟩ := ba c
  obtain ⟨c3, c⟩ := ba c
  obtain ⟨c4, c⟩ := ba c
  obtain ⟨c5, c⟩ := ba c
  obtain ⟨c6, c7⟩ := ba c
  have gl : ∀ {c : Nat}, d.gl K c = true → mg (d.nm c) = some (.ref (ga K (d.nm c))) := fun h => glo_ok X G h
  have un : ∀ {c : Nat} {C : Addr}, d.gl K c = true → mg (d.nm c) = some (.ref C) → C = ga K (d.nm c) := fun h e => by
    have z := e.symm.trans (gl h)
    cases z
    rfl
  have tv : ∀ {t : Tg} {v : Value}, d.glT K t = true → TV mg ⟨d.nm, d.fl⟩ t v → v = d.tv K t := fun h r => by
    cases r with
    | b n => rfl
    | c c C hc => exact congrArg Value.ref (un h hc)
  refine ⟨dn, fun c hc => ?_, fun c m n g h => (nomatch h), fun c m n g h => (nomatch h), fun c m h C cl => ?_, fun c h C cl => ?_, fun c h => (nomatch h), fun c h => (nomatch h), fun c m g h => (nomatch h), fun c n dfl g h => (nomatch h), inj, fun c hc => (hfl c (List.contains_iff_mem.mp hc)).2, fun c h => ?_, fun c t r h C v hm ht => ?_, fun c h C cl => ?_, fun t c r h v u ht hc => ?_⟩
  · have hm := List.contains_iff_mem.mp hc
    obtain ⟨h1, h2⟩ := ba (List.all_eq_true.mp c1 c hm)
    obtain ⟨h3, h4⟩ := ba h2
    obtain ⟨g1, h4⟩ := ba h4
    obtain ⟨g2, h4⟩ := ba h4
    obtain ⟨g3, h4⟩ := ba h4
    obtain ⟨g4, h4⟩ := ba h4
    obtain ⟨g5, h4⟩ := ba h4
    obtain ⟨g6, g7⟩ := ba h4
    exact ⟨_, gl h1, He.cls_ok h3, g1, of_decide_eq_true g2, of_decide_eq_true g3, (hfl c hm).1, eqO_ok g4, eqO_ok g5, of_decide_eq_true g6, of_decide_eq_true g7⟩
  · obtain ⟨h1, h2⟩ := ba (List.all_eq_true.mp c2 (c, m) (List.contains_iff_mem.mp h))
    rw [un h1 cl.mg]
    exact noat_ok h2
  · obtain ⟨h1, h2⟩ := ba (List.all_eq_true.mp c3 c (List.contains_iff_mem.mp h))
    rw [un h1 cl.mg]
    exact eqO_ok h2
  · obtain ⟨h1, h2⟩ := ba (List.all_eq_true.mp c6 c (List.contains_iff_mem.mp h))
    obtain ⟨h3, h4⟩ := ba h2
    obtain ⟨e1, e2, e3, e4⟩ := exc_ok h3
    obtain ⟨g1, h4⟩ := ba h4
    obtain ⟨g2, h4⟩ := ba h4
    obtain ⟨g3, h4⟩ := ba h4
    obtain ⟨g4, h4⟩ := ba h4
    obtain ⟨g5, h4⟩ := ba h4
    obtain ⟨g6, g7⟩ := ba h4
    exact ⟨_, _, _, _, _, ⟨gl h1, e2, e3, e4, ⟨eqO_ok g1, eqO_ok g2, e3, g3, eqO_ok g4, eqO_ok g5, of_decide_eq_true g6, of_decide_eq_true g7⟩⟩, PySem.F.excBase_ValueError, e1⟩
  · obtain ⟨h1, h2⟩ := ba (List.all_eq_true.mp c7 _ (lookup_of h))
    obtain ⟨h3, h4⟩ := ba h2
    rw [un h1 hm, tv h3 ht]
    exact of_decide_eq_true h4
  · obtain ⟨h1, h2⟩ := ba (List.all_eq_true.mp c4 c (List.contains_iff_mem.mp h))
    rw [un h1 cl.mg]
    exact h2
  · obtain ⟨h1, h2⟩ := ba (List.all_eq_true.mp c5 _ (lookup_of h))
    obtain ⟨h3, h4⟩ := ba h2
    rw [tv h1 ht, tv h3 hc]
    exact of_decide_eq_true h4
end Bp


set_option Elab.async false
set_option linter.all false
set_option maxRecDepth 100000
set_option maxHeartbeats 4000000
/-! Bp14: tables grow by methods, properties, constructors. -/
namespace Bp
open PySem L2 PyProof.Rows He
def CT.am (T : CT) (c m n : Nat) (g : Fn) : CT := { T with meth := fun c' m' => if c' = c ∧ m' = m then some (n, g) else T.meth c' m' }
def CT.ap (T : CT) (c m : Nat) (g : Fn) : CT := { T with prop := fun c' m' => if c' = c ∧ m' = m then some g else T.prop c' m' }
def CT.ak (T : CT) (c n : Nat) (dfl : List D) (g : Fn) : CT := { T with mkr := fun c' => if c' = c then some (n, dfl, g) else T.mkr c' }
def CT.an (T : CT) (c : Nat) : CT := { T with ni := fun c' => if c' = c then true else T.ni c' }
section
variable {T : CT} {P : Program} {w : World} {K : PySem.W.Frag} {mg : Str → Option Value} {base h : Heap} {L L' c m n : Nat} {g : Fn} {x : Str} {fd : FuncData} {ps : List Str}
theorem CT.Ok.mono (h : T.Ok P w K mg base L) (l : L ≤ L') : T.Ok P w K mg base L' :=
  ⟨h.dn, h.cls, fun c m n g e C cl => let ⟨f, fd, ps, a, b, F, d⟩ := h.meth c m n g e C cl; ⟨f, fd, ps, a, b, F.mono l, d⟩, h.mkn, h.no, h.one, fun c e C cl => let ⟨f, fd, a, N, b⟩ := h.ni c e C cl; ⟨f, fd, a, fun A o s H ar us ps W S xs y vs Q hr => N A o s H ar us ps W S xs y vs Q (hr.mono l), b⟩, h.nik,
    fun c m g e => let ⟨k, z⟩ := h.prop c m g e; ⟨k, fun C cl => let ⟨p, ga, fd, ps, a, b, F, d⟩ := z C cl; ⟨p, ga, fd, ps, a, b, F.mono l, d⟩⟩, fun c n dfl g e => let ⟨k, z⟩ := h.mkr c n dfl g e; ⟨k, fun C cl => let ⟨f, fd, ps, dvs, a, b, F, d⟩ := z C cl; ⟨f, fd, ps, dvs, a, b, F.mono l, d⟩⟩, h.inj, h.flN, h.exo, h.xm, h.inp, h.isi⟩
theorem ga_uniq (hg : mg x = some (.ref (ga K x))) {C : Addr} (e : mg x = some (.ref C)) : C = ga K x := by
  have z := e.symm.trans hg
  cases z
  rfl
theorem CT.Ok.am (h : T.Ok P w K mg base L) (hk : T.kn c = true) (hx : T.tn.nm c = x) (hg : mg x = some (.ref (ga K x))) (hM : (Fa.meth x (T.tn.nm m)).ok K = true) (hn : ps.length = n) (F : FnOk P w K mg base (L2.CX P w) L (ma K (ga K x) (T.tn.nm m)) fd ps (spM ⟨K, mg, T.tn, none⟩ n g)) (hb : Binds K fd ps []) :
    (T.am c m n g).Ok P w K mg base L := by
  refine ⟨h.dn, h.cls, fun c' m' n' g' e C cl => ?_, fun c' m' n' g' e => ?_, h.no, h.one, h.ni, h.nik, h.prop, h.mkr, h.inj, h.flN, h.exo, h.xm, h.inp, h.isi⟩
  · have e' : (if c' = c ∧ m' = m then some (n, g) else T.meth c' m') = some (n', g') := e
    split at e'
    · rename_i hc
      obtain ⟨rfl, rfl⟩ := hc
      cases e'
      have hC : C = ga K x := ga_uniq hg (by rw [← hx]; exact cl.mg)
      subst hC
      exact ⟨_, fd, ps, meth_ok hM, hn, F, hb⟩
    · exact h.meth c' m' n' g' e' C cl
  · have e' : (if c' = c ∧ m' = m then some (n, g) else T.meth c' m') = some (n', g') := e
    split at e'
    · rename_i hc
      rw [hc.1]
      exact hk
    · exact h.mkn c' m' n' g' e'
def propCk (K : PySem.W.Frag) (x m : Str) : Bool := eqO (PySem.W.findIn K (.ref (ga K x)) m) (some (some (.ref (ma K (ga K x) m)))) && (eqO (PySem.W.specialIn K (.ref (ma K (ga K x) m)) "__get__") (some (some (.builtin "property.__get__"))) && (decide (PySem.W.takesIn K (.ref (ma K (ga K x) m)) = some true) &&
  (match PySem.W.recIn K (ma K (ga K x) m) "property" with
    | some (.ref _ :: _) => true
    | _ => false)))
theorem propCk_ok {m : Str} (h : propCk K x m = true) : PropOf K (ga K x) m (ma K (ga K x) m) ((Pl.p x m).ad K) := by
  obtain ⟨h1, h⟩ := ba h
  obtain ⟨h2, h⟩ := ba h
  obtain ⟨h3, h4⟩ := ba h
  refine ⟨eqO_ok h1, eqO_ok h2, of_decide_eq_true h3, ?_⟩
  unfold Pl.ad
  dsimp only
  cases e : PySem.W.recIn K (ma K (ga K x) m) "property" with
  | none => rw [e] at h4; cases h4
  | some l =>
    rw [e] at h4
    cases l with
    | nil => cases h4
    | cons v r =>
      cases v with
      | ref z => exact ⟨r, rfl⟩
      | _ => cases h4
theorem CT.Ok.ap (h : T.Ok P w K mg base L) (hk : T.kn c = true) (hx : T.tn.nm c = x) (hg : mg x = some (.ref (ga K x))) (hM : propCk K x (T.tn.nm m) = true) (hn : ps.length = 1) (F : FnOk P w K mg base (L2.CX P w) L ((Pl.p x (T.tn.nm m)).ad K) fd ps (spM ⟨K, mg, T.tn, none⟩ 1 g)) (hb : Binds K fd ps []) :
    (T.ap c m g).Ok P w K mg base L := by
  refine ⟨h.dn, h.cls, h.meth, h.mkn, h.no, h.one, h.ni, h.nik, fun c' m' g' e => ?_, h.mkr, h.inj, h.flN, h.exo, h.xm, h.inp, h.isi⟩
  have e' : (if c' = c ∧ m' = m then some g else T.prop c' m') = some g' := e
  split at e'
  · rename_i hc
    obtain ⟨rfl, rfl⟩ := hc
    cases e'
    refine ⟨hk, fun C cl => ?_⟩
    have hC : C = ga K x := ga_uniq hg (by rw [← hx]; exact cl.mg)
    subst hC
    exact ⟨_, _, fd, ps, propCk_ok hM, hn, F, hb⟩
  · exact h.prop c' m' g' e'
theorem CT.Ok.ak {dfl : List D} {dvs : List V} (h : T.Ok P w K mg base L) (hk : T.kn c = true) (hx : T.tn.nm c = x) (hg : mg x = some (.ref (ga K x))) (hM : (Fa.mkr x).ok K = true) (hn : ps.length = n) (F : FnOk P w K mg base (L2.CX P w) L (ma K (ga K x) "__init__") fd ps (spM ⟨K, mg, T.tn, none⟩ n g))
    (hd : ∀ W, RepL ⟨K, mg, T.tn, none⟩ W dfl dvs) (hb : ∀ j, j ≤ dfl.length → ∃ dus, Vals (dvs.drop j) dus ∧ Binds K fd ps dus) : (T.ak c n dfl g).Ok P w K mg base L := by
  refine ⟨h.dn, h.cls, h.meth, h.mkn, h.no, h.one, h.ni, h.nik, h.prop, fun c' n' d' g' e => ?_, h.inj, h.flN, h.exo, h.xm, h.inp, h.isi⟩
  have e' : (if c' = c then some (n, dfl, g) else T.mkr c') = some (n', d', g') := e
  split at e'
  · rename_i hc
    subst hc
    cases e'
    refine ⟨hk, fun C cl => ?_⟩
    have hC : C = ga K x := ga_uniq hg (by rw [← hx]; exact cl.mg)
    subst hC
    exact ⟨_, fd, ps, dvs, mkr_ok hM, hn, F, hd, hb⟩
  · exact h.mkr c' n' d' g' e'
theorem CT.Ok.an (h : T.Ok P w K mg base L) (hk : T.kn c = true) (hx : T.tn.nm c = x) (hg : mg x = some (.ref (ga K x))) (hM : (Fa.meth x "__eq__").ok K = true) (N : NiOk P w K mg base T.tn L c (ma K (ga K x) "__eq__") fd) (hb : Binds K fd ["self", "other"] []) : (T.an c).Ok P w K mg base L := by
  refine ⟨h.dn, h.cls, h.meth, h.mkn, h.no, h.one, fun c' e C cl => ?_, fun c' e => ?_, h.prop, h.mkr, h.inj, h.flN, h.exo, h.xm, h.inp, h.isi⟩
  · have e' : (if c' = c then true else T.ni c') = true := e
    split at e'
    · rename_i hc
      subst hc
      have hC : C = ga K x := ga_uniq hg (by rw [← hx]; exact cl.mg)
      subst hC
      exact ⟨_, fd, meth_ok hM, N, hb⟩
    · exact h.ni c' e' C cl
  · have e' : (if c' = c then true else T.ni c') = true := e
    split at e'
    · rename_i hc
      rw [hc]
      exact hk
    · exact h.nik c' e'
theorem DefOk.of {tn : Tn} {x : Str} {n : Nat} {g : Fn} {f : Addr} {dvs : List V} {kws : List (Str × V)} {qual : Str} {st : Stmt} {y : Str} (D0 : FunD K y qual (defArgs st) (defBody st) (defScope st) dvs kws f fd) (hg : mg x = some (.ref f)) (hn : ps.length = n) (F : FnOk P w K mg base (L2.CX P w) L f fd ps (spM ⟨K, mg, tn, none⟩ n g)) (hb : Binds K fd ps []) : DefOk P w K mg base tn L x n g :=
  ⟨f, fd, ps, hn, F, hg, D0.kp, hb⟩
end
theorem ex_notv {fl : Pm} {X : Cx} {Wx : WX} {a : Expr} {ma : ME} {pos : Pos} (ha : EX fl X Wx a ma) : EX fl X Wx (.UnaryOp .Not a pos) (mUn notD ma) := PE.imp (pe_not ha) fun σ H Q ⟨W, env, S, R, RE, q⟩ => ⟨W, env, S, R, RE, Ev.imp (Ev.seq q) fun v H1 ⟨W1, d1, S1, l1, R1, ra, q1⟩ => by
  cases ra with
  | bl b => exact ⟨b, rfl, q1 W1 _ H1 (.refl W1) R1 (.bl _)⟩
  | _ => exact (show False from q1).elim⟩
/-- turns enough for a number of the slot i that goes down -/
def fuelN (i : Nat) : Env → Store → Nat := fun env _ => match env[i]? with
  | some (some (D.int b)) => b.natAbs + 2
  | _ => 1
/-- a statement that is not reached -/
theorem es_bad {fl : Pm} {X : Cx} {Wx : WX} {st : Stmt} : ES fl X Wx st (fun _ _ => .bad) := ⟨fun _ _ _ _ _ _ ⟨_, _, _, _, _, q⟩ => (show False from q).elim⟩
end Bp


set_option Elab.async false
set_option linter.all false
set_option maxRecDepth 100000
set_option maxHeartbeats 4000000
/-! Bp15: the end of a law. -/
namespace Bp
open PySem L2 PyProof.Rows
theorem walk_own {l : PySem.W.OpenLaw} {n k : Nat} {q : Program} {loose : List Str} {XP : (Str → Option Value) → Heap → Prop} {YP : World → Heap → Prop} {d : DefRec} {x : Str}
    (hn : l.most = some n) (hn2 : n ≤ sizeLine) (hdf : d.params.defaults = []) (hr : Room k callerA)
    (F : ∀ (w : World) (mg : Str → Option Value) (fa : Addr) (h : Heap), YP w h → h.Ns mainGlobals mg → mg d.name = some (.ref fa) →
      ∃ (K : PySem.W.Frag) (fd : FuncData) (sp : Sp), K.In h ∧ (∀ (s : Shared) (u : Value), BindsTo s fd ⟨[u], []⟩ [(x, u)]) ∧
        (∀ (H : Hp) (a : Addr) (ns : List Int), ns.length ≤ n → Only H → SqL K H a (ns.map V.int) → sp [.ref a] H (fun v _ => v = .bl true) fun _ _ _ => False) ∧
        ∀ base : Heap, K.In base → base.Ns mainGlobals mg → FnOk l.prog w K mg base (L2.CX l.prog w) k fa fd [x] sp) :
    PySem.W.WalkO q loose XP YP l.row.toRowW d [] (fun f vs => PySem.call f vs) := by
  refine Att.attach_call hn hdf fun w s₀ s₁ mg mb fa o pm cd doc a vs ns G Y ho hd hcd hmg hobj hints hlen hg => ?_
  obtain ⟨K, fd, sp, KX, hb, hsp, hF⟩ := F w mg fa _ Y G.T.g hmg
  refine law_call KX G.T.g G.T.b G.T.builtins G.T.nolimit hg hobj hints (Nat.le_trans hlen hn2) hr hF hb (fun H hO hS => hsp H a ns hlen hO hS) fun H e s' h => ?_
  obtain ⟨_, _, _, _, _, _, _, _, _, _, _, _, z⟩ := h
  exact z.elim
end Bp


set_option Elab.async false
set_option linter.all false
set_option maxRecDepth 100000
set_option maxHeartbeats 1000000
/-! Q0: rationals as pairs of integers in lowest terms; sizes. Plain Lean. -/
namespace Bp
def sg (n d : Int) : Int := if d < 0 then -((Nat.gcd n.natAbs d.natAbs : Nat) : Int) else ((Nat.gcd n.natAbs d.natAbs : Nat) : Int)
theorem sg_dvd (n d : Int) : sg n d ∣ n ∧ sg n d ∣ d := by
  unfold sg
  have h1 : ((Nat.gcd n.natAbs d.natAbs : Nat) : Int) ∣ n := Int.ofNat_dvd_left.mpr (Nat.gcd_dvd_left _ _)
  have h2 : ((Nat.gcd n.natAbs d.natAbs : Nat) : Int) ∣ d := Int.ofNat_dvd_left.mpr (Nat.gcd_dvd_right _ _)
  split
  · exact ⟨Int.neg_dvd.mpr h1, Int.neg_dvd.mpr h2⟩
  · exact ⟨h1, h2⟩
theorem gcd_ne {n d : Int} (hd : d ≠ 0) : Nat.gcd n.natAbs d.natAbs ≠ 0 := fun h => by
  have := (Nat.gcd_eq_zero_iff.mp h).2
  omega
theorem sg_ne {n d : Int} (hd : d ≠ 0) : sg n d ≠ 0 := by
  have := gcd_ne (n := n) hd
  unfold sg
  split <;> omega
theorem sg_num {n d : Int} (hd : d ≠ 0) : n.fdiv (sg n d) = (Rat.divInt n d).num := by
  rw [Rat.num_divInt]
  obtain ⟨k, hk⟩ := (sg_dvd n d).1
  have hs := sg_ne (n := n) hd
  have e : n.fdiv (sg n d) = k := by
    conv => lhs; arg 1; rw [hk]
    exact Int.mul_fdiv_cancel_left _ hs
  rw [e]
  have hg := gcd_ne (n := n) hd
  have hgc : ((Int.gcd d n : Nat) : Int) = ((Nat.gcd n.natAbs d.natAbs : Nat) : Int) := by
    unfold Int.gcd; rw [Nat.gcd_comm]
  rw [hgc]
  symm
  apply Int.ediv_eq_of_eq_mul_right (by omega)
  unfold sg at hk
  rcases Int.lt_trichotomy d 0 with h | h | h
  · rw [if_pos h] at hk
    rw [Int.sign_eq_neg_one_of_neg h]
    conv => lhs; rw [hk]
    simp [Int.neg_mul]
  · exact absurd h hd
  · rw [if_neg (by omega)] at hk
    rw [Int.sign_eq_one_of_pos h, Int.one_mul]
    exact hk
theorem sg_den {n d : Int} (hd : d ≠ 0) : d.fdiv (sg n d) = ((Rat.divInt n d).den : Int) := by
  rw [Rat.den_divInt, if_neg hd]
  obtain ⟨k, hk⟩ := (sg_dvd n d).2
  have hs := sg_ne (n := n) hd
  have e : d.fdiv (sg n d) = k := by
    conv => lhs; arg 1; rw [hk]
    exact Int.mul_fdiv_cancel_left _ hs
  rw [e]
  have hg := gcd_ne (n := n) hd
  have hgc : Int.gcd d n = Nat.gcd n.natAbs d.natAbs := by
    unfold Int.gcd; rw [Nat.gcd_comm]
  rw [hgc, Int.natCast_ediv]
  symm
  apply Int.ediv_eq_of_eq_mul_right (by omega)
  unfold sg at hk
  rcases Int.lt_trichotomy d 0 with h | h | h
  · rw [if_pos h] at hk
    have : ((d.natAbs : Nat) : Int) = -d := by omega
    rw [this]
    conv => lhs; rw [hk]
    simp [Int.neg_mul]
  · exact absurd h hd
  · rw [if_neg (by omega)] at hk
    have : ((d.natAbs : Nat) : Int) = d := by omega
    rw [this]
    exact hk
/-! ### sizes -/
abbrev lg (n : Int) : Nat := n.natAbs.log2
theorem log2_le_of {n k : Nat} (h : n < 2 ^ (k + 1)) : n.log2 ≤ k := by
  by_cases z : n = 0
  · subst z; simp
  · have := (Nat.log2_lt z).mpr h
    omega
theorem lt_of_log2 {n k : Nat} (h : n.log2 ≤ k) : n < 2 ^ (k + 1) := by
  by_cases z : n = 0
  · subst z; exact Nat.two_pow_pos _
  · exact (Nat.log2_lt z).mp (by omega)
theorem log2_mono {n m : Nat} (h : n ≤ m) : n.log2 ≤ m.log2 := log2_le_of (Nat.lt_of_le_of_lt h (lt_of_log2 (Nat.le_refl _)))
theorem lg_mul {i j : Int} {a b : Nat} (h : lg i ≤ a) (h2 : lg j ≤ b) : lg (i * j) ≤ a + b + 1 := by
  unfold lg at *
  rw [Int.natAbs_mul]
  refine log2_le_of ?_
  have h3 := lt_of_log2 h
  have h4 := lt_of_log2 h2
  have e : 2 ^ (a + b + 1 + 1) = 2 ^ (a + 1) * 2 ^ (b + 1) := by rw [← Nat.pow_add]; congr 1; omega
  rw [e]
  exact Nat.mul_lt_mul'' h3 h4
theorem lg_add {i j : Int} {a : Nat} (h : lg i ≤ a) (h2 : lg j ≤ a) : lg (i + j) ≤ a + 1 := by
  unfold lg at *
  refine log2_le_of ?_
  have h3 := lt_of_log2 h
  have h4 := lt_of_log2 h2
  have e : 2 ^ (a + 1 + 1) = 2 ^ (a + 1) + 2 ^ (a + 1) := by rw [Nat.pow_succ]; omega
  have := Int.natAbs_add_le i j
  omega
theorem lg_neg {i : Int} : lg (-i) = lg i := by unfold lg; rw [Int.natAbs_neg]
theorem lg_sub {i j : Int} {a : Nat} (h : lg i ≤ a) (h2 : lg j ≤ a) : lg (i - j) ≤ a + 1 := by
  rw [Int.sub_eq_add_neg]
  exact lg_add h (by rw [lg_neg]; exact h2)
theorem lg_le {i : Int} {k : Nat} (h1 : -(2 ^ (k + 1) : Int) < i) (h2 : i < (2 ^ (k + 1) : Int)) : lg i ≤ k := by
  refine log2_le_of ?_
  have e : ((2 ^ (k + 1) : Nat) : Int) = (2 ^ (k + 1) : Int) := by norm_cast
  omega
theorem lg_gcd {n d : Int} {a : Nat} (hd : d ≠ 0) (h : lg d ≤ a) : (Nat.gcd n.natAbs d.natAbs).log2 ≤ a :=
  log2_le_of (Nat.lt_of_le_of_lt (Nat.gcd_le_right _ (by omega)) (lt_of_log2 h))
theorem lg_fdiv {n s : Int} {a : Nat} (h : s ∣ n) (hn : lg n ≤ a) : lg (n.fdiv s) ≤ a := by
  obtain ⟨k, rfl⟩ := h
  by_cases hs : s = 0
  · subst hs; simp; exact Nat.zero_le _
  · rw [Int.mul_fdiv_cancel_left _ hs]
    unfold lg at *
    refine log2_le_of (Nat.lt_of_le_of_lt ?_ (lt_of_log2 hn))
    rw [Int.natAbs_mul]
    exact Nat.le_mul_of_pos_left _ (by omega)
/-- numerator and denominator have at most k + 1 bits -/
def Sz (k : Nat) (q : Rat) : Prop := lg q.num ≤ k ∧ lg (q.den : Int) ≤ k
theorem Sz.mono {k l : Nat} {q : Rat} (h : Sz k q) (hl : k ≤ l) : Sz l q := ⟨Nat.le_trans h.1 hl, Nat.le_trans h.2 hl⟩
theorem Sz.divInt {n d : Int} {k : Nat} (hn : lg n ≤ k) (hd : lg d ≤ k) : Sz k (Rat.divInt n d) := by
  by_cases z : d = 0
  · subst z; rw [Rat.divInt_zero]; exact ⟨Nat.zero_le _, Nat.zero_le _⟩
  · rw [Sz, ← sg_num z, ← sg_den z]
    exact ⟨lg_fdiv (sg_dvd n d).1 hn, lg_fdiv (sg_dvd n d).2 hd⟩
theorem den_ne (q : Rat) : (q.den : Int) ≠ 0 := by have := q.den_nz; omega
theorem q_add (p q : Rat) : Rat.divInt (p.num * q.den + q.num * p.den) (p.den * q.den) = p + q := by
  conv => rhs; rw [← Rat.num_divInt_den p, ← Rat.num_divInt_den q]
  rw [Rat.divInt_add_divInt _ _ (den_ne p) (den_ne q)]
theorem q_sub (p q : Rat) : Rat.divInt (p.num * q.den - q.num * p.den) (p.den * q.den) = p - q := by
  conv => rhs; rw [← Rat.num_divInt_den p, ← Rat.num_divInt_den q]
  rw [Rat.divInt_sub_divInt _ _ (den_ne p) (den_ne q)]
theorem q_mul (p q : Rat) : Rat.divInt (p.num * q.num) (p.den * q.den) = p * q := by
  conv => rhs; rw [← Rat.num_divInt_den p, ← Rat.num_divInt_den q]
  rw [Rat.divInt_mul_divInt]
theorem q_div (p q : Rat) : Rat.divInt (p.num * q.den) (p.den * q.num) = p / q := by
  rw [Rat.div_def]
  conv => rhs; rw [← Rat.num_divInt_den p, ← Rat.num_divInt_den q]
  rw [Rat.inv_divInt, Rat.divInt_mul_divInt]
theorem Sz.add {a b : Nat} {p q : Rat} (h : Sz a p) (h2 : Sz b q) : Sz (a + b + 2) (p + q) := by
  rw [← q_add]
  refine Sz.divInt (lg_add (lg_mul h.1 h2.2) ?_) (Nat.le_trans (lg_mul h.2 h2.2) (by omega))
  rw [Nat.add_comm a b]
  exact lg_mul h2.1 h.2
theorem Sz.neg {a : Nat} {p : Rat} (h : Sz a p) : Sz a (-p) := ⟨by rw [Rat.neg_num, lg_neg]; exact h.1, h.2⟩
theorem Sz.sub {a b : Nat} {p q : Rat} (h : Sz a p) (h2 : Sz b q) : Sz (a + b + 2) (p - q) := by
  rw [Rat.sub_eq_add_neg]
  exact h.add h2.neg
theorem Sz.mul {a b : Nat} {p q : Rat} (h : Sz a p) (h2 : Sz b q) : Sz (a + b + 1) (p * q) := by
  rw [← q_mul]
  exact Sz.divInt (lg_mul h.1 h2.1) (lg_mul h.2 h2.2)
theorem Sz.div {a b : Nat} {p q : Rat} (h : Sz a p) (h2 : Sz b q) : Sz (a + b + 1) (p / q) := by
  rw [← q_div]
  exact Sz.divInt (lg_mul h.1 h2.2) (lg_mul h.2 h2.1)
theorem Sz.int {a : Nat} {i : Int} (h : lg i ≤ a) : Sz a (i : Rat) := ⟨h, by show lg 1 ≤ a; exact Nat.zero_le _⟩
theorem Sz.i {k : Nat} {i : Int} (h : Sz k (i : Rat)) : lg i ≤ k := h.1
theorem Sz.zero {a : Nat} : Sz a 0 := ⟨Nat.zero_le _, Nat.zero_le _⟩
theorem Sz.one {a : Nat} : Sz a 1 := ⟨Nat.zero_le _, Nat.zero_le _⟩
theorem divInt_one (n : Int) : Rat.divInt n 1 = (n : Rat) := by
  rw [show (1 : Int) = ((1 : Nat) : Int) from rfl, Rat.divInt_ofNat, ← Rat.mkRat_self (n : Rat)]; rfl
/-! ### floor -/
theorem q_floor (p : Rat) : p.num.fdiv p.den = p.floor := by
  rw [Rat.floor_def, Int.fdiv_eq_ediv_of_nonneg _ (by omega)]
theorem floor_divInt {n d : Int} (hd : 0 < d) : (Rat.divInt n d).floor = n.fdiv d := by
  rw [Int.fdiv_eq_ediv_of_nonneg _ (by omega)]
  refine Int.le_antisymm ?_ ?_
  · rw [Int.le_ediv_iff_mul_le hd]
    have h := Rat.floor_le (Rat.divInt n d)
    rw [Rat.divInt_eq_div] at h
    have hd' : (0 : Rat) < (d : Rat) := Rat.intCast_pos.mpr hd
    have h2 := Rat.mul_le_mul_of_nonneg_right h (Rat.le_of_lt hd')
    rw [Rat.div_mul_cancel (Rat.ne_of_gt hd'), ← Rat.divInt_eq_div, ← Rat.intCast_mul] at h2
    exact Rat.intCast_le_intCast.mp h2
  · rw [Rat.le_floor_iff, Rat.divInt_eq_div]
    have hd' : (0 : Rat) < (d : Rat) := Rat.intCast_pos.mpr hd
    refine Rat.le_of_mul_le_mul_right (c := (d : Rat)) ?_ hd'
    rw [Rat.div_mul_cancel (Rat.ne_of_gt hd'), ← Rat.intCast_mul]
    refine Rat.intCast_le_intCast.mpr ?_
    exact Int.ediv_mul_le _ (by omega)
theorem floor_divInt' {n d : Int} (hd : d ≠ 0) : (Rat.divInt n d).floor = n.fdiv d := by
  rcases Int.lt_trichotomy d 0 with h | h | h
  · rw [← Rat.neg_divInt_neg, floor_divInt (by omega)]
    simp
  · exact absurd h hd
  · exact floor_divInt h
theorem q_floordiv (p q : Rat) (hq : q ≠ 0) : (p.num * q.den).fdiv (p.den * q.num) = (p / q).floor := by
  rw [← q_div, floor_divInt']
  exact Int.mul_ne_zero (den_ne p) (fun h => hq (Rat.num_eq_zero.mp h))
theorem q_lt (p q : Rat) : (p.num * q.den < q.num * p.den) ↔ p < q := (Rat.lt_iff p q).symm
theorem q_le (p q : Rat) : (p.num * q.den ≤ q.num * p.den) ↔ p ≤ q := (Rat.le_iff p q).symm
theorem q_eq (p q : Rat) : (p.num * q.den = q.num * p.den) ↔ p = q := Rat.eq_iff_mul_eq_mul.symm
theorem q_ext (p q : Rat) : (p.num = q.num ∧ (p.den : Int) = q.den) ↔ p = q := ⟨fun h => Rat.ext h.1 (by omega), fun h => by subst h; exact ⟨rfl, rfl⟩⟩
theorem q_absnum (p : Rat) : p.abs.num = (if p.num < 0 then -p.num else p.num) ∧ p.abs.den = p.den := by
  by_cases h : 0 ≤ p
  · have h2 := Rat.num_nonneg.mpr h
    rw [Rat.abs_of_nonneg h, if_neg (by omega)]
    exact ⟨rfl, rfl⟩
  · have h2 : ¬ 0 ≤ p.num := fun z => h (Rat.num_nonneg.mp z)
    have h3 : p ≤ 0 := Rat.le_of_lt (Rat.not_le.mp h)
    rw [Rat.abs_of_nonpos h3, if_pos (by omega)]
    exact ⟨rfl, rfl⟩
end Bp


set_option Elab.async false
set_option linter.all false
set_option maxRecDepth 100000
set_option maxHeartbeats 1000000
/-! BpP: what the mirrors' parts do: the pure side. -/
namespace Bp
open PySem L2 PyProof.Rows
@[simp] theorem gc_same (S : Store) (d : D) : gc S (.ok d S) = .ok d S := by
  unfold gc
  simp only [List.take_length, if_true]
  split
  · rfl
  · split
    · rename_i n hb
      have : ¬ n < S.length := by simpa [below] using hb
      rw [List.getElem?_eq_none (by omega)]
    · rfl
theorem gc_ext {S U : Store} {d : D} (h : below S.length d = true) : gc S (.ok d (S ++ U)) = .ok d S := by
  unfold gc
  simp [h]
@[simp] theorem gc_ext_bl {S U : Store} {b : Bool} : gc S (.ok (.bl b) (S ++ U)) = .ok (.bl b) S := gc_ext rfl
@[simp] theorem gc_ext_int {S U : Store} {b : Int} : gc S (.ok (.int b) (S ++ U)) = .ok (.int b) S := gc_ext rfl
@[simp] theorem gc_ext_str {S U : Store} {b : PySem.Str} : gc S (.ok (.str b) (S ++ U)) = .ok (.str b) S := gc_ext rfl
@[simp] theorem gc_ext_non {S U : Store} : gc S (.ok .non (S ++ U)) = .ok .non S := gc_ext rfl
@[simp] theorem gc_exc_0 {S U : Store} {c : Nat} : gc S (.exc ⟨c, [], []⟩ (S ++ U)) = .exc ⟨c, [], []⟩ S := by
  unfold gc
  simp [belows]
theorem gc_exc {S U : Store} {e : Ex} (h : belows S.length e.vs = true) : gc S (.exc e (S ++ U)) = .exc e S := by
  unfold gc
  simp [h]
theorem gc_exc0 {S : Store} {e : Ex} (h : belows S.length e.vs = true) : gc S (.exc e S) = .exc e S := by
  unfold gc
  simp [h]
@[simp] theorem gc_x0 {S : Store} {c : Nat} : gc S (.exc ⟨c, [], []⟩ S) = .exc ⟨c, [], []⟩ S := gc_exc0 rfl
theorem gc_non {S S' : Store} (h : S'.length = S.length) : gc S (.ok .non S') = .ok .non S' := by
  unfold gc
  dsimp only
  split
  · rename_i e
    rw [← h, List.take_length] at e
    subst e
    simp [below]
  · rfl
/-- behind a call nothing is left but the value, if the store only grew and the value is none of its places -/
theorem gc_grow {S S' : Store} {d : D} (h1 : S'.take S.length = S) (h2 : below S.length d = true) : gc S (.ok d S') = .ok d S := by
  unfold gc
  simp [h1, h2]
theorem gc_list {S S' : Store} {n : Nat} {xs : List D} (h1 : S'.take S.length = S) (h2 : S.length ≤ n) (h3 : S'[n]? = some (.lst xs)) (h4 : belows S.length xs = true) : gc S (.ok (.ref n) S') = .ok (.ref S.length) (S ++ [.lst xs]) := by
  unfold gc
  have : ¬ n < S.length := by omega
  simp [h1, below, this, h3, h2, h4]
theorem gc_xgrow {S S' : Store} {e : Ex} (h1 : S'.take S.length = S) (h2 : belows S.length e.vs = true) : gc S (.exc e S') = .exc e S := by
  unfold gc
  simp [h1, h2]
/-! ### one step of evaluation, for whole calls only: what is not yet run stays as it is written -/
section
variable {env : Env} {S : Store} {a b c : ME} {m : ME} {ms : List ME} {ta tb : MT} {s1 s2 : MS} {i n : Nat} {d : D} {T : CT} {f : Nat} {g : Fn} {gg : MG} {x : Bool} {e : Ex} {k : Int}
@[simp] theorem ev_seq : mSeq s1 s2 env S = match s1 env S with | .nx env' S' => s2 env' S' | r => r := id rfl
@[simp] theorem ev_asg : mAsg i m env S = onR (m env S) env fun d S' => .nx (env.set i (some d)) S' := id rfl
@[simp] theorem ev_asgG : mAsgG gg m env S = onR (m env S) env fun d S' => gg d env S' := id rfl
@[simp] theorem ev_gnm : gNm i d env S = .nx (env.set i (some d)) S := id rfl
@[simp] theorem ev_gtup {gs : List MG} {ds : List D} : gTup gs (.tup ds) env S = if ds.length = gs.length then gTp gs ds env S else .bad := id rfl
@[simp] theorem ev_gtp0 : gTp [] [] env S = .nx env S := id rfl
@[simp] theorem ev_gtp1 {gs : List MG} {ds : List D} : gTp (gg :: gs) (d :: ds) env S = match gg d env S with | .nx env' S' => gTp gs ds env' S' | r => r := id rfl
@[simp] theorem ev_ret : mRet m env S = onR (m env S) env fun d S' => .rt d S' := id rfl
@[simp] theorem ev_retn : mRetN env S = .rt .non S := id rfl
@[simp] theorem ev_drop : mDrop m env S = onR (m env S) env fun _ S' => .nx env S' := id rfl
@[simp] theorem ev_ifs : mIfS ta s1 s2 env S = onR (ta env S) env fun k S' => if k = true then s1 env S' else s2 env S' := id rfl
@[simp] theorem ev_next : mNext env S = .nx env S := id rfl
@[simp] theorem ev_brk : mBrk env S = .bk env S := id rfl
@[simp] theorem ev_cnt : mCnt env S = .ct env S := id rfl
@[simp] theorem ev_c : mC d env S = .ok d S := id rfl
@[simp] theorem ev_var : mVar i env S = match env[i]? with | some (some d) => .ok d S | _ => .bad := id rfl
@[simp] theorem ev_bin {h : D → D → Store → Res D} : mBin h a b env S = (a env S).bind fun x S1 => (b env S1).bind fun y S2 => h x y S2 := id rfl
@[simp] theorem ev_un {h : D → Store → Res D} : mUn h a env S = (a env S).bind h := id rfl
@[simp] theorem ev_args0 : mArgs [] env S = .ok [] S := id rfl
@[simp] theorem ev_args1 : mArgs (m :: ms) env S = (m env S).bind fun d S1 => (mArgs ms env S1).bind fun ds S2 => .ok (d :: ds) S2 := id rfl
@[simp] theorem ev_tup : mTup ms env S = (mArgs ms env S).bind fun ds S' => .ok (.tup ds) S' := id rfl
@[simp] theorem ev_lst : mLst ms env S = (mArgs ms env S).bind fun ds S' => .ok (.ref S'.length) (S' ++ [.lst ds]) := id rfl
@[simp] theorem ev_if : mIf ta a b env S = (ta env S).bind fun k S1 => if k = true then a env S1 else b env S1 := id rfl
@[simp] theorem ev_and : mAnd ta tb env S = (ta env S).bind fun k S1 => if k = true then tb env S1 else .ok false S1 := id rfl
@[simp] theorem ev_or : mOr ta tb env S = (ta env S).bind fun k S1 => if k = true then .ok true S1 else tb env S1 := id rfl
@[simp] theorem ev_not : mNot ta env S = (ta env S).bind fun k S1 => .ok (!k) S1 := id rfl
@[simp] theorem ev_B : mB m env S = (m env S).bind asB := id rfl
@[simp] theorem ev_tru : mTru m env S = (m env S).bind truD := id rfl
@[simp] theorem ev_asB : asB (.bl x) S = .ok x S := id rfl
@[simp] theorem ev_notD : notD (.bl x) S = .ok (.bl (!x)) S := id rfl
@[simp] theorem ev_tru_b : truD (.bl x) S = .ok x S := id rfl
@[simp] theorem ev_tru_i : truD (.int k) S = .ok (k != 0) S := id rfl
@[simp] theorem ev_tru_n : truD .non S = .ok false S := id rfl
@[simp] theorem ev_tru_t {xs : List D} : truD (.tup xs) S = .ok (!xs.isEmpty) S := id rfl
def andV (d : D) (r : Store → Res D) (S : Store) : Res D := match d with
  | .bl true => r S
  | .bl false => .ok (.bl false) S
  | _ => .bad
def orV (d : D) (r : Store → Res D) (S : Store) : Res D := match d with
  | .bl true => .ok (.bl true) S
  | .bl false => r S
  | _ => .bad
@[simp] theorem ev_andV : mAndV a b env S = (a env S).bind fun d S1 => andV d (b env) S1 := id rfl
@[simp] theorem ev_orV : mOrV a b env S = (a env S).bind fun d S1 => orV d (b env) S1 := id rfl
@[simp] theorem ev_andb {r : Store → Res D} : andV (.bl x) r S = if x = true then r S else .ok (.bl false) S := by cases x <;> rfl
@[simp] theorem ev_orb {r : Store → Res D} : orV (.bl x) r S = if x = true then .ok (.bl true) S else r S := by cases x <;> rfl
@[simp] theorem ev_call : mCall g ms env S = (mArgs ms env S).bind g := id rfl
@[simp] theorem ev_attr : mAttr T f m env S = (m env S).bind (attrD T f) := id rfl
@[simp] theorem ev_new : mNew T f ms env S = (mArgs ms env S).bind (newD T f) := id rfl
@[simp] theorem ev_seta {mv : ME} : mSetA T f m mv env S = onR (mv env S) env fun v S1 => onR (m env S1) env fun o S2 => setD T f o v env S2 := id rfl
@[simp] theorem ev_meth : mMeth T f m ms env S = (m env S).bind fun o S1 => if hasM T f o S1 = true then (mArgs ms env S1).bind fun vs S2 => dund T (clsOf o S1) f (o :: vs) S2 else .bad := id rfl
@[simp] theorem ev_bm {ty : String} : mBm ty g m ms env S = (m env S).bind fun d S1 => if tyD ty d S1 = true then (mArgs ms env S1).bind fun ds S2 => g (d :: ds) S2 else .bad := id rfl
@[simp] theorem ev_aug {h : D → D → Store → Res D} : mAug i h m env S = match env[i]? with | some (some d) => onR (m env S) env fun y S1 => onR (h d y S1) env fun z S2 => .nx (env.set i (some z)) S2 | _ => .bad := id rfl
@[simp] theorem ev_sl {ml mh : Env → Store → Res (Option Int)} : mSl m ml mh env S = (m env S).bind fun d S1 => (ml env S1).bind fun lo S2 => (mh env S2).bind fun hi S3 => slD d lo hi S3 := id rfl
@[simp] theorem ev_pn : mPn env S = .ok none S := id rfl
@[simp] theorem ev_ps : mPs m env S = (m env S).bind asI := id rfl
@[simp] theorem ev_asI : asI (.int k) S = .ok (some k) S := id rfl
@[simp] theorem ev_for {it : Env → Store → Res Wk} {g : MG} {body : MS} : mFor it g body env S = onR (it env S) env fun w S' => mForW g body w env S' := id rfl
@[simp] theorem ev_fori {g : MG} {body : MS} {xs : List D} : mForW g body (.items xs) env S = forL g body xs env S := id rfl
@[simp] theorem ev_while {fuel : Env → Store → Nat} {body : MS} : mWhile fuel ta body env S = whileF ta body (fuel env S) env S := id rfl
@[simp] theorem ev_ival : iVal m env S = (m env S).bind itD := id rfl
@[simp] theorem ev_it_t {xs : List D} : itD (.tup xs) S = .ok (.items xs) S := id rfl
@[simp] theorem ev_it_r {xs : List D} : itD (.rl xs) S = .ok (.items xs) S := id rfl
@[simp] theorem ev_def {body : MS} {ds : List D} : mDef n body ds S = gc S (finD (body (ds.map some ++ List.replicate (n - ds.length) none) S)) := id rfl
@[simp] theorem ev_fnx : finD (.nx env S) = .ok .non S := id rfl
@[simp] theorem ev_frt : finD (.rt d S) = .ok d S := id rfl
@[simp] theorem ev_fx : finD (.exc e env S) = .exc e S := id rfl
@[simp] theorem ev_int : Bp.intD [.int k] S = .ok (.int k) S := id rfl
@[simp] theorem ev_intb : Bp.intD [.bl x] S = .ok (.int (if x then 1 else 0)) S := id rfl
@[simp] theorem ev_raise0 : mRaise0 T n env S = if T.exo n = true then .exc ⟨n, [], []⟩ env S else .bad := id rfl
@[simp] theorem ev_isn : isND .non .non S = .ok (.bl true) S := id rfl
@[simp] theorem ev_isnn : isnND .non .non S = .ok (.bl false) S := id rfl
end
section
variable {T : CT} {S : Store} {i j : Int}
@[simp] theorem opi_add : opD T .Add (.int i) (.int j) S = .ok (.int (i + j)) S := by simp [opD, Bp.intOp]
@[simp] theorem opi_sub : opD T .Sub (.int i) (.int j) S = .ok (.int (i - j)) S := by simp [opD, Bp.intOp]
theorem opi_mul (h : lg i + lg j < 1000000) : opD T .Mult (.int i) (.int j) S = .ok (.int (i * j)) S := by simp [opD, Bp.intOp, h]
theorem opi_fdiv (h : j ≠ 0) (h2 : lg j < 9000) : opD T .FloorDiv (.int i) (.int j) S = .ok (.int (i.fdiv j)) S := by simp [opD, Bp.intOp, h, h2]
theorem opi_mod (h : j ≠ 0) : opD T .Mod (.int i) (.int j) S = .ok (.int (i.fmod j)) S := by simp [opD, Bp.intOp, h]
theorem opi_pow (h : 0 ≤ j) (h2 : j ≤ 1000000) (h3 : i.natAbs < 2 ^ 64) : opD T .Pow (.int i) (.int j) S = .ok (.int (i ^ j.toNat)) S := by
  have h4 : i.natAbs < 18446744073709551616 := h3
  simp [opD, Bp.intOp, h, h2, h4]
@[simp] theorem cmi_lt : cmpD T .Lt (.int i) (.int j) S = .ok (.bl (decide (i < j))) S := by simp [cmpD, Bp.intCmp]
@[simp] theorem cmi_le : cmpD T .LtE (.int i) (.int j) S = .ok (.bl (decide (i ≤ j))) S := by simp [cmpD, Bp.intCmp]
@[simp] theorem cmi_gt : cmpD T .Gt (.int i) (.int j) S = .ok (.bl (decide (j < i))) S := by simp [cmpD, Bp.intCmp]
@[simp] theorem cmi_ge : cmpD T .GtE (.int i) (.int j) S = .ok (.bl (decide (j ≤ i))) S := by simp [cmpD, Bp.intCmp]
@[simp] theorem cmi_eq : cmpD T .Eq (.int i) (.int j) S = .ok (.bl (decide (i = j))) S := by simp [cmpD, Bp.intCmp]
@[simp] theorem cmi_ne : cmpD T .NotEq (.int i) (.int j) S = .ok (.bl (!decide (i = j))) S := by simp [cmpD, Bp.intCmp]
@[simp] theorem cmb_eq {a b : Bool} : cmpD T .Eq (.bl a) (.bl b) S = .ok (.bl (decide (a = b))) S := id rfl
@[simp] theorem cmb_ne {a b : Bool} : cmpD T .NotEq (.bl a) (.bl b) S = .ok (.bl (!decide (a = b))) S := id rfl
@[simp] theorem cms_eq {a b : Str} : cmpD T .Eq (.str a) (.str b) S = .ok (.bl (decide (a = b))) S := id rfl
@[simp] theorem cms_ne {a b : Str} : cmpD T .NotEq (.str a) (.str b) S = .ok (.bl (!decide (a = b))) S := id rfl
@[simp] theorem negI : negD T (.int i) S = .ok (.int (-i)) S := id rfl
@[simp] theorem absI : absD T [.int i] S = .ok (.int (if i < 0 then -i else i)) S := id rfl
variable {a b c d : D} {xs : List D} {n : Nat}
theorem atI_nat {α : Type} {xs : List α} {k : Nat} : L2.atI xs (k : Int) = xs[k]? := by
  unfold L2.atI L2.ixN
  rw [if_pos (by omega)]
  by_cases h : k < xs.length
  · rw [if_pos (by omega)]; rfl
  · rw [if_neg (by omega), List.getElem?_eq_none (by omega)]; rfl
theorem ix_tup {k : Nat} {v : D} (h : xs[k]? = some v) : ixD (.tup xs) (.int k) S = .ok v S := by
  simp [ixD, seqD, atI_nat, h]
@[simp] theorem ix_0 : ixD (.tup (a :: xs)) (.int 0) S = .ok a S := ix_tup (k := 0) rfl
@[simp] theorem ix_1 : ixD (.tup (a :: b :: xs)) (.int 1) S = .ok b S := ix_tup (k := 1) rfl
@[simp] theorem ix_2 : ixD (.tup (a :: b :: c :: xs)) (.int 2) S = .ok c S := ix_tup (k := 2) rfl
@[simp] theorem ix_3 : ixD (.tup (a :: b :: c :: d :: xs)) (.int 3) S = .ok d S := ix_tup (k := 3) rfl
theorem ix_rl {k : Nat} {v : D} (h : xs[k]? = some v) : ixD (.rl xs) (.int k) S = .ok v S := by
  simp [ixD, seqD, atI_nat, h]
theorem ix_ref {k : Nat} {v : D} (h0 : S[n]? = some (.lst xs)) (h : xs[k]? = some v) : ixD (.ref n) (.int k) S = .ok v S := by
  simp [ixD, seqD, atI_nat, h0, h]
theorem len_ref (h0 : S[n]? = some (.lst xs)) : lenD [.ref n] S = .ok (.int xs.length) S := by simp [lenD, h0]
@[simp] theorem len_tup : lenD [.tup xs] S = .ok (.int xs.length) S := id rfl
end
/-! ### lists of the store -/
section
variable {T : CT} {S U : Store} {n m : Nat} {xs ys : List D} {i : Int}
theorem szK {n : Nat} (h : n ≤ 1000000) : n ≤ sizeLine := Nat.le_trans h (by rw [sizeLine_eq]; decide)
theorem opl_add : opD T .Add (.ref n) (.ref m) S = match S[n]?, S[m]? with | some (.lst xs), some (.lst ys) => if xs.length + ys.length ≤ sizeLine then .ok (.ref S.length) (S ++ [.lst (xs ++ ys)]) else .bad | _, _ => .bad := by
  cases h1 : S[n]? with
  | none => simp [opD, h1]
  | some o =>
    cases o with
    | obj c fs => simp [opD, h1]
    | lst xs =>
      cases h2 : S[m]? with
      | none => simp [opD, h1, h2]
      | some o2 =>
        cases o2 with
        | obj c fs => simp [opD, h1, h2]
        | lst ys => simp [opD, h1, h2]
theorem ixr : ixD (.ref n) (.int i) S = match S[n]? with | some (.lst xs) => (match L2.atI xs i with | some v => .ok v S | none => .bad) | _ => .bad := by
  cases h1 : S[n]? with
  | none => simp [ixD, seqD, h1]
  | some o =>
    cases o with
    | lst xs =>
      simp only [ixD, seqD, h1] <;> (cases L2.atI xs i <;> rfl)
    | obj c fs => simp [ixD, seqD, h1]
theorem ops_add {x y : Str} (h : x.length + y.length ≤ sizeLine) : opD T .Add (.str x) (.str y) S = .ok (.str (x ++ y)) S := by simp [opD, h]
theorem str_i (h : lg i < 1920) : strD T [.int i] S = .ok (.str (toString i)) S := by simp [strD, h]
end
/-! ### loops -/
section
variable {g : MG} {body : MS} {xs : List D}
/-- one turn of a for -/
def turnF (g : MG) (body : MS) (d : D) (env : Env) (S : Store) : RS := match g d env S with
  | .nx e1 S1 => (match body e1 S1 with
    | .ct e2 S2 => .nx e2 S2
    | r => r)
  | r => r
theorem forL_cons (d : D) (ds : List D) (env : Env) (S : Store) (hp : (g d env S).pl) : forL g body (d :: ds) env S = (match turnF g body d env S with
    | .nx e2 S2 => forL g body ds e2 S2
    | .bk e2 S2 => .nx e2 S2
    | r => r) := by
  conv => lhs; unfold forL
  unfold turnF
  cases e : g d env S with
  | nx e1 S1 =>
    dsimp only
    cases e2 : body e1 S1 <;> rfl
  | bk _ _ => rw [e] at hp; exact hp.elim
  | ct _ _ => rfl
  | _ => rfl
/-- a loop that goes through all its items -/
theorem forL_inv (hp : Plain g) (P : Nat → Env → Store → Prop) : ∀ (xs : List D) (k : Nat) (env : Env) (S : Store), P k env S →
    (∀ i d env S, xs[i]? = some d → P (k + i) env S → ∃ env' S', turnF g body d env S = .nx env' S' ∧ P (k + i + 1) env' S') → ∃ env' S', forL g body xs env S = .nx env' S' ∧ P (k + xs.length) env' S'
  | [], k, env, S, h0, _ => ⟨env, S, rfl, h0⟩
  | d :: ds, k, env, S, h0, hs => by
    obtain ⟨e1, S1, h1, h2⟩ := hs 0 d env S rfl h0
    rw [forL_cons _ _ _ _ (hp d env S), h1]
    obtain ⟨e2, S2, h3, h4⟩ := forL_inv hp P ds (k + 1) e1 S1 h2 fun i d' env S hi hP => by
      have := hs (i + 1) d' env S (by simpa using hi) (by rw [show k + (i + 1) = k + 1 + i by omega]; exact hP)
      rw [show k + (i + 1) + 1 = k + 1 + i + 1 by omega] at this
      exact this
    refine ⟨e2, S2, h3, ?_⟩
    rw [show k + (d :: ds).length = k + 1 + ds.length by simp; omega]
    exact h4
/-- a loop that may end by a return, a break or an error -/
theorem forL_ends (hp : Plain g) (P : Nat → Env → Store → Prop) (Q : RS → Prop) : ∀ (xs : List D) (k : Nat) (env : Env) (S : Store), P k env S →
    (∀ i d env S, xs[i]? = some d → P (k + i) env S → (match turnF g body d env S with
      | .nx env' S' => P (k + i + 1) env' S'
      | .bk env' S' => Q (.nx env' S')
      | r => Q r)) → (∀ env S, P (k + xs.length) env S → Q (.nx env S)) → Q (forL g body xs env S)
  | [], k, env, S, h0, _, hq => hq env S h0
  | d :: ds, k, env, S, h0, hs, hq => by
    have h1 := hs 0 d env S rfl h0
    rw [forL_cons _ _ _ _ (hp d env S)]
    cases e : turnF g body d env S with
    | nx e1 S1 =>
      rw [e] at h1
      refine forL_ends hp P Q ds (k + 1) e1 S1 h1 (fun i d' env S hi hP => ?_) fun env S hP => hq env S ?_
      · have := hs (i + 1) d' env S (by simpa using hi) (by rw [show k + (i + 1) = k + 1 + i by omega]; exact hP)
        rw [show k + (i + 1) + 1 = k + 1 + i + 1 by omega] at this
        exact this
      · rw [show k + (d :: ds).length = k + 1 + ds.length by simp; omega]
        exact hP
    | bk a b => rw [e] at h1; exact h1
    | rt a b => rw [e] at h1; exact h1
    | ct a b => rw [e] at h1; exact h1
    | exc a b c => rw [e] at h1; exact h1
    | bad => rw [e] at h1; exact h1
theorem rng1 {m : ME} {env : Env} {S S' : Store} {j : Int} (h : m env S = .ok (.int j) S') (h1 : -1000000 ≤ j) (h2 : j ≤ 1000000) : iRange1 m env S = .ok (.items (rangeD 0 j.toNat)) S' := by
  have h3 : -((2:Int)^62) ≤ j ∧ j < 2^62 := by omega
  unfold iRange1 mArgs mArgs
  rw [h]
  simp only [Res.bind_ok]
  unfold itR1
  simp only
  rw [if_pos h3]
theorem rng2 {m1 m2 : ME} {env : Env} {S S1 S2 : Store} {i j : Int} (e1 : m1 env S = .ok (.int i) S1) (e2 : m2 env S1 = .ok (.int j) S2) (h1 : -1000000 ≤ j) (h2 : j ≤ 1000000) (g1 : -1000000 ≤ i) (g2 : i ≤ 1000000) : iRange2 m1 m2 env S = .ok (.items (rangeD i (j - i).toNat)) S2 := by
  have h3 : -((2:Int)^62) ≤ i ∧ i < 2^62 ∧ -((2:Int)^62) ≤ j ∧ j < 2^62 := by omega
  unfold iRange2 mArgs mArgs mArgs
  rw [e1]
  simp only [Res.bind_ok]
  rw [e2]
  simp only [Res.bind_ok]
  unfold itR2
  simp only
  rw [if_pos h3]
theorem mFor_items {it : Env → Store → Res Wk} {g : MG} {body : MS} {env : Env} {S S' : Store} {xs : List D} (h : it env S = .ok (.items xs) S') : mFor it g body env S = forL g body xs env S' := by
  unfold mFor
  rw [h]
  rfl
theorem rangeD_len (lo : Int) (n : Nat) : (rangeD lo n).length = n := by simp [rangeD]
theorem rangeD_get {lo : Int} {n i : Nat} {d : D} (h : (rangeD lo n)[i]? = some d) : i < n ∧ d = .int (lo + i) := by
  rw [rangeD_at] at h
  split at h
  · rename_i hi
    exact ⟨hi, by cases h; rfl⟩
  · cases h
theorem forS_inv {n : Nat} (hp : Plain g) (P : Nat → Env → Store → Prop) (xs : List D) (hx : ∀ i env S, P i env S → S[n]? = some (.lst xs)) (hs : ∀ i d env S, xs[i]? = some d → P i env S → ∃ env' S', turnF g body d env S = .nx env' S' ∧ P (i + 1) env' S') :
    ∀ (k i : Nat) (env : Env) (S : Store), i + k = xs.length → P i env S → ∃ env' S', forS g body n k i env S = .nx env' S' ∧ P xs.length env' S'
  | 0, i, env, S, hi, h0 => by
    refine ⟨env, S, ?_, by rw [← hi]; exact h0⟩
    unfold forS
    rw [hx i env S h0]
    dsimp only
    rw [if_pos (by omega)]
  | k + 1, i, env, S, hi, h0 => by
    have hlt : i < xs.length := by omega
    obtain ⟨e1, S1, h1, h2⟩ := hs i xs[i] env S (List.getElem?_eq_getElem hlt) h0
    obtain ⟨e2, S2, h3, h4⟩ := forS_inv hp P xs hx hs k (i + 1) e1 S1 (by omega) h2
    refine ⟨e2, S2, ?_, h4⟩
    unfold forS
    rw [hx i env S h0]
    dsimp only
    rw [List.getElem?_eq_getElem hlt]
    dsimp only
    have hpl := hp xs[i] env S
    unfold turnF at h1
    cases e : g xs[i] env S with
    | nx a b =>
      rw [e] at h1
      dsimp only at h1 ⊢
      cases e3 : body a b with
      | nx c d => rw [e3] at h1; cases h1; exact h3
      | ct c d => rw [e3] at h1; cases h1; exact h3
      | _ => rw [e3] at h1; cases h1
    | _ => rw [e] at h1; cases h1
theorem it_ref {S : Store} {n : Nat} {xs : List D} (h : S[n]? = some (.lst xs)) : itD (.ref n) S = .ok (.at_ n) S := by simp [itD, h]
theorem forW_ref {env : Env} {S : Store} {n : Nat} {xs : List D} (h : S[n]? = some (.lst xs)) : mForW g body (.at_ n) env S = forS g body n xs.length 0 env S := by simp [mForW, h]
theorem forL_nil {env : Env} {S : Store} : forL g body [] env S = .nx env S := rfl
theorem forL_c {d : D} {ds : List D} {env : Env} {S : Store} : forL g body (d :: ds) env S = match g d env S with
    | .nx env1 S1 => (match body env1 S1 with
      | .nx env2 S2 => forL g body ds env2 S2
      | .ct env2 S2 => forL g body ds env2 S2
      | .bk env2 S2 => .nx env2 S2
      | r => r)
    | r => r := rfl
theorem gc_bl {S S' : Store} {b : Bool} : ∃ S2, gc S (.ok (.bl b) S') = .ok (.bl b) S2 := by
  unfold gc
  simp only
  split
  · exact ⟨S, by simp [below]⟩
  · exact ⟨S', rfl⟩
/-- one turn of a while -/
theorem while_succ {c : MT} {body : MS} {n : Nat} {env : Env} {S : Store} : whileF c body (n + 1) env S = onR (c env S) env fun k S1 => if k = true then (match body env S1 with
      | .nx env2 S2 => whileF c body n env2 S2
      | .ct env2 S2 => whileF c body n env2 S2
      | .bk env2 S2 => .nx env2 S2
      | r => r) else .nx env S1 := rfl
end
end Bp


set_option Elab.async false
set_option linter.all false
set_option maxRecDepth 100000
set_option maxHeartbeats 0
namespace Lw
open PySem L2 PyProof.Rows He Bp
def top (i : Nat) : Stmt := PySem.Challenge.pw_bestpapers_k01_fraction_operators.main.body.getD i (.Pass ⟨0, 0, 0, 0⟩)
def clsB : Stmt → List Stmt
  | .ClassDef _ _ _ b _ _ _ _ _ _ _ => b
  | _ => []
def inC (i j : Nat) : Stmt := (clsB (top i)).getD j (.Pass ⟨0, 0, 0, 0⟩)
def nm (k : Nat) : Str := if k < 40 then dnm k else ((["BestError", "DivisionByZero", "BadNumber", "Frac", "num", "den", "text", "read", "over", "floor", "ceiling", "is_whole"] : List Str)).getD (k - 40) ""
abbrev n_BestError : Nat := 40
abbrev n_DivisionByZero : Nat := 41
abbrev n_BadNumber : Nat := 42
abbrev n_Frac : Nat := 43
abbrev n_num : Nat := 44
abbrev n_den : Nat := 45
abbrev n_text : Nat := 46
abbrev n_read : Nat := 47
abbrev n_over : Nat := 48
abbrev n_floor : Nat := 49
abbrev n_ceiling : Nat := 50
abbrev n_is_whole : Nat := 51
def flf : Nat → List Nat
  | 43 => [n_num, n_den]
  | _ => []
abbrev tn : Tn := ⟨nm, flf⟩
def S0 : Bp.St where
  nm := nm
  fl := flf
  N := 52
  cls := [n_Frac]
  no := [(n_Frac, n_num), (n_Frac, n_den), (n_Frac, 12)]
  one := [n_Frac]
  inp := [n_Frac]
  isi := [((.b "NoneType", .b "int"), false), ((.b "NoneType", .b "bool"), false), ((.b "NoneType", .c n_Frac), false), ((.b "bool", .b "int"), true), ((.b "bool", .b "bool"), true), ((.b "bool", .c n_Frac), false), ((.b "int", .b "int"), true), ((.b "int", .b "bool"), false), ((.b "int", .c n_Frac), false), ((.b "str", .b "int"), false), ((.b "str", .b "bool"), false), ((.b "str", .c n_Frac), false), ((.b "tuple", .b "int"), false), ((.b "tuple", .b "bool"), false), ((.b "tuple", .c n_Frac), false), ((.b "list", .b "int"), false), ((.b "list", .b "bool"), false), ((.b "list", .c n_Frac), false), ((.c n_Frac, .b "int"), false), ((.c n_Frac, .b "bool"), false), ((.c n_Frac, .c n_Frac), true), ((.c n_DivisionByZero, .c n_DivisionByZero), true), ((.c n_DivisionByZero, .c n_BadNumber), false), ((.c n_DivisionByZero, .c n_BestError), true), ((.c n_DivisionByZero, .b "ValueError"), true)]
  exo := [n_DivisionByZero]
  xm := [((n_DivisionByZero, .c n_BestError), true)]
structure Gn (K : PySem.W.Frag) (mg : Str → Option Value) : Prop where
  f_NotImplemented : mg "NotImplemented" = none
  f_ValueError : mg "ValueError" = none
  f_abs : mg "abs" = none
  f_bool : mg "bool" = none
  f_int : mg "int" = none
  f_isinstance : mg "isinstance" = none
  f_len : mg "len" = none
  f_range : mg "range" = none
  f_str : mg "str" = none
  g_BadNumber : mg "BadNumber" = some (.ref (ga K "BadNumber"))
  g_BestError : mg "BestError" = some (.ref (ga K "BestError"))
  g_DivisionByZero : mg "DivisionByZero" = some (.ref (ga K "DivisionByZero"))
  g_Frac : mg "Frac" = some (.ref (ga K "Frac"))
  g__law_add : mg "_law_add" = some (.ref (ga K "_law_add"))
  g__law_cell : mg "_law_cell" = some (.ref (ga K "_law_cell"))
  g__law_denominator : mg "_law_denominator" = some (.ref (ga K "_law_denominator"))
  g__law_floor : mg "_law_floor" = some (.ref (ga K "_law_floor"))
  g__law_gcd : mg "_law_gcd" = some (.ref (ga K "_law_gcd"))
  g__law_great : mg "_law_great" = some (.ref (ga K "_law_great"))
  g__law_in_place : mg "_law_in_place" = some (.ref (ga K "_law_in_place"))
  g__law_integer : mg "_law_integer" = some (.ref (ga K "_law_integer"))
  g__law_is : mg "_law_is" = some (.ref (ga K "_law_is"))
  g__law_low : mg "_law_low" = some (.ref (ga K "_law_low"))
  g__law_made : mg "_law_made" = some (.ref (ga K "_law_made"))
  g__law_made_plain : mg "_law_made_plain" = some (.ref (ga K "_law_made_plain"))
  g__law_mul : mg "_law_mul" = some (.ref (ga K "_law_mul"))
  g__law_numerator : mg "_law_numerator" = some (.ref (ga K "_law_numerator"))
  g__law_operators : mg "_law_operators" = some (.ref (ga K "_law_operators"))
  g__law_orders : mg "_law_orders" = some (.ref (ga K "_law_orders"))
  g__law_over : mg "_law_over" = some (.ref (ga K "_law_over"))
  g__law_powers : mg "_law_powers" = some (.ref (ga K "_law_powers"))
  g__law_refused : mg "_law_refused" = some (.ref (ga K "_law_refused"))
  g__law_single : mg "_law_single" = some (.ref (ga K "_law_single"))
  g__law_truth : mg "_law_truth" = some (.ref (ga K "_law_truth"))
  g_law : mg "law" = some (.ref (ga K "law"))
  b_gcd : mg "gcd" = some (.builtin "math.gcd")
section
variable {P : Program} {w : World} {K : PySem.W.Frag} {mg : Str → Option Value} {base : Heap}
noncomputable def T0 : CT := S0.tab
abbrev st_F_init : Stmt := inC 6 1
noncomputable def b_F_init : MS := mSeq (mIfS (mB (mBin (cmpD T0 .Eq) (mVar 2) (mC (.int 0)))) (mRaise0 T0 n_DivisionByZero) (mNext)) (mSeq (mAsg 3 (mCall gcdD [mVar 1, mVar 2])) (mSeq (mIfS (mB (mBin (cmpD T0 .Lt) (mVar 2) (mC (.int 0)))) (mAsg 3 (mUn (negD T0) (mVar 3))) (mNext)) (mSeq (mSetA T0 n_num (mVar 0) (mBin (opD T0 .FloorDiv) (mVar 1) (mVar 3))) (mSetA T0 n_den (mVar 0) (mBin (opD T0 .FloorDiv) (mVar 2) (mVar 3))))))
noncomputable def m_F_init : Fn := mDef 4 b_F_init
theorem sc_F_init : FnScope ["self", "num", "den", "shared"] ["self", "num", "den"] (defScope st_F_init) := ⟨rfl, rfl, rfl, by decide +kernel, rfl, by decide +kernel, by decide +kernel⟩
theorem ok_F_init {f : Addr} {fd : FuncData} {dvs : List V} {kws : List (Str × V)} (G : Gn K mg) (hT : T0.Ok P w K mg base 0) (F : FunD K "__init__" "Frac.__init__" (defArgs st_F_init) (defBody st_F_init) (defScope st_F_init) dvs kws f fd) : FnOk P w K mg base (L2.CX P w) 2 f fd ["self", "num", "den"] (spM ⟨K, mg, tn, none⟩ 3 m_F_init) :=
  fn_mk (fl := ⟨tn, none⟩) (st := st_F_init) (N := ["self", "num", "den", "shared"]) (ps := ["self", "num", "den"]) (qual := "Frac.__init__") (k := 1) (body := b_F_init) F sc_F_init rfl fun cdv A outer s H E C0 => es_cons (es_if (et_cmp (bin_cmp hT rfl C0 (by decide)) (ex_var 2) (ex_int) (by rfl)) (es_one (es_raise0 n_DivisionByZero rfl hT rfl C0 rfl rfl)) (es_nil)) (es_cons (es_set sc_F_init.nd rfl (Or.inl rfl) (ex_callF bl_gcd rfl G.b_gcd (ea_cons (ex_var 1) (ea_cons (ex_var 2) ea_nil)))) (es_cons (es_if (et_cmp (bin_cmp hT rfl C0 (by decide)) (ex_var 2) (ex_int) (by rfl)) (es_one (es_set sc_F_init.nd rfl (Or.inl rfl) (ex_un (un_negD hT rfl C0 (by decide)) (ex_var 3)))) (es_nil)) (es_cons (es_seta n_num rfl hT rfl (ex_var 0) (ex_bin (bin_op hT rfl C0 (by decide)) (ex_var 1) (ex_var 3))) (es_one (es_seta n_den rfl hT rfl (ex_var 0) (ex_bin (bin_op hT rfl C0 (by decide)) (ex_var 2) (ex_var 3)))))))
noncomputable def T1 : CT := T0.ak n_Frac 3 [.int 0, .int 1] m_F_init
abbrev st_F_over : Stmt := inC 6 3
noncomputable def b_F_over : MS := mSeq (mIfS (mTru (mCall (isiD T1) [mVar 1, mC (.glob n_Frac)])) (mRet (mNew T1 n_Frac [mBin (opD T1 .Mult) (mAttr T1 n_num (mVar 0)) (mAttr T1 n_den (mVar 1)), mBin (opD T1 .Mult) (mAttr T1 n_den (mVar 0)) (mAttr T1 n_num (mVar 1))])) (mNext)) (mRet (mNew T1 n_Frac [mAttr T1 n_num (mVar 0), mBin (opD T1 .Mult) (mAttr T1 n_den (mVar 0)) (mVar 1)]))
noncomputable def m_F_over : Fn := mDef 2 b_F_over
theorem sc_F_over : FnScope ["self", "other"] ["self", "other"] (defScope st_F_over) := ⟨rfl, rfl, rfl, by decide +kernel, rfl, by decide +kernel, by decide +kernel⟩
theorem ok_F_over {f : Addr} {fd : FuncData} {dvs : List V} {kws : List (Str × V)} (G : Gn K mg) (hT : T1.Ok P w K mg base 2) (F : FunD K "over" "Frac.over" (defArgs st_F_over) (defBody st_F_over) (defScope st_F_over) dvs kws f fd) : FnOk P w K mg base (L2.CX P w) 6 f fd ["self", "other"] (spM ⟨K, mg, tn, none⟩ 2 m_F_over) :=
  fn_mk (fl := ⟨tn, none⟩) (st := st_F_over) (N := ["self", "other"]) (ps := ["self", "other"]) (qual := "Frac.over") (k := 5) (body := b_F_over) F sc_F_over rfl fun cdv A outer s H E C0 => es_cons (es_if (et_val (ex_callB (bl_isi hT rfl) rfl G.f_isinstance (by kernel_rfl) (ea_cons (ex_var 1) (ea_cons (ex_glob n_Frac rfl rfl G.g_Frac) ea_nil)))) (es_one (es_ret (ex_new n_Frac rfl hT rfl C0 (by decide) rfl rfl (ea_cons (ex_bin (bin_op hT rfl C0 (by decide)) (ex_attr n_num rfl hT rfl C0 (by decide) (ex_var 0)) (ex_attr n_den rfl hT rfl C0 (by decide) (ex_var 1))) (ea_cons (ex_bin (bin_op hT rfl C0 (by decide)) (ex_attr n_den rfl hT rfl C0 (by decide) (ex_var 0)) (ex_attr n_num rfl hT rfl C0 (by decide) (ex_var 1))) ea_nil))))) (es_nil)) (es_one (es_ret (ex_new n_Frac rfl hT rfl C0 (by decide) rfl rfl (ea_cons (ex_attr n_num rfl hT rfl C0 (by decide) (ex_var 0)) (ea_cons (ex_bin (bin_op hT rfl C0 (by decide)) (ex_attr n_den rfl hT rfl C0 (by decide) (ex_var 0)) (ex_var 1)) ea_nil)))))
abbrev st_F_floor : Stmt := inC 6 4
noncomputable def b_F_floor : MS := mRet (mBin (opD T1 .FloorDiv) (mAttr T1 n_num (mVar 0)) (mAttr T1 n_den (mVar 0)))
noncomputable def m_F_floor : Fn := mDef 1 b_F_floor
theorem sc_F_floor : FnScope ["self"] ["self"] (defScope st_F_floor) := ⟨rfl, rfl, rfl, by decide +kernel, rfl, by decide +kernel, by decide +kernel⟩
theorem ok_F_floor {f : Addr} {fd : FuncData} {dvs : List V} {kws : List (Str × V)} (G : Gn K mg) (hT : T1.Ok P w K mg base 2) (F : FunD K "floor" "Frac.floor" (defArgs st_F_floor) (defBody st_F_floor) (defScope st_F_floor) dvs kws f fd) : FnOk P w K mg base (L2.CX P w) 6 f fd ["self"] (spM ⟨K, mg, tn, none⟩ 1 m_F_floor) :=
  fn_mk (fl := ⟨tn, none⟩) (st := st_F_floor) (N := ["self"]) (ps := ["self"]) (qual := "Frac.floor") (k := 5) (body := b_F_floor) F sc_F_floor rfl fun cdv A outer s H E C0 => es_one (es_ret (ex_bin (bin_op hT rfl C0 (by decide)) (ex_attr n_num rfl hT rfl C0 (by decide) (ex_var 0)) (ex_attr n_den rfl hT rfl C0 (by decide) (ex_var 0))))
abbrev st_F_ceiling : Stmt := inC 6 5
noncomputable def b_F_ceiling : MS := mRet (mUn (negD T1) (mBin (opD T1 .FloorDiv) (mUn (negD T1) (mAttr T1 n_num (mVar 0))) (mAttr T1 n_den (mVar 0))))
noncomputable def m_F_ceiling : Fn := mDef 1 b_F_ceiling
theorem sc_F_ceiling : FnScope ["self"] ["self"] (defScope st_F_ceiling) := ⟨rfl, rfl, rfl, by decide +kernel, rfl, by decide +kernel, by decide +kernel⟩
theorem ok_F_ceiling {f : Addr} {fd : FuncData} {dvs : List V} {kws : List (Str × V)} (G : Gn K mg) (hT : T1.Ok P w K mg base 2) (F : FunD K "ceiling" "Frac.ceiling" (defArgs st_F_ceiling) (defBody st_F_ceiling) (defScope st_F_ceiling) dvs kws f fd) : FnOk P w K mg base (L2.CX P w) 6 f fd ["self"] (spM ⟨K, mg, tn, none⟩ 1 m_F_ceiling) :=
  fn_mk (fl := ⟨tn, none⟩) (st := st_F_ceiling) (N := ["self"]) (ps := ["self"]) (qual := "Frac.ceiling") (k := 5) (body := b_F_ceiling) F sc_F_ceiling rfl fun cdv A outer s H E C0 => es_one (es_ret (ex_un (un_negD hT rfl C0 (by decide)) (ex_bin (bin_op hT rfl C0 (by decide)) (ex_un (un_negD hT rfl C0 (by decide)) (ex_attr n_num rfl hT rfl C0 (by decide) (ex_var 0))) (ex_attr n_den rfl hT rfl C0 (by decide) (ex_var 0)))))
abbrev st_F_is_whole : Stmt := inC 6 6
noncomputable def b_F_is_whole : MS := mRet (mBin (cmpD T1 .Eq) (mAttr T1 n_den (mVar 0)) (mC (.int 1)))
noncomputable def m_F_is_whole : Fn := mDef 1 b_F_is_whole
theorem sc_F_is_whole : FnScope ["self"] ["self"] (defScope st_F_is_whole) := ⟨rfl, rfl, rfl, by decide +kernel, rfl, by decide +kernel, by decide +kernel⟩
theorem ok_F_is_whole {f : Addr} {fd : FuncData} {dvs : List V} {kws : List (Str × V)} (G : Gn K mg) (hT : T1.Ok P w K mg base 2) (F : FunD K "is_whole" "Frac.is_whole" (defArgs st_F_is_whole) (defBody st_F_is_whole) (defScope st_F_is_whole) dvs kws f fd) : FnOk P w K mg base (L2.CX P w) 6 f fd ["self"] (spM ⟨K, mg, tn, none⟩ 1 m_F_is_whole) :=
  fn_mk (fl := ⟨tn, none⟩) (st := st_F_is_whole) (N := ["self"]) (ps := ["self"]) (qual := "Frac.is_whole") (k := 5) (body := b_F_is_whole) F sc_F_is_whole rfl fun cdv A outer s H E C0 => es_one (es_ret (ex_cmp (bin_cmp hT rfl C0 (by decide)) (ex_attr n_den rfl hT rfl C0 (by decide) (ex_var 0)) (ex_int) (by rfl)))
abbrev st_F_bool : Stmt := inC 6 8
noncomputable def b_F_bool : MS := mRet (mCall (boolD T1) [mBin (cmpD T1 .NotEq) (mAttr T1 n_num (mVar 0)) (mC (.int 0))])
noncomputable def m_F_bool : Fn := mDef 1 b_F_bool
theorem sc_F_bool : FnScope ["self"] ["self"] (defScope st_F_bool) := ⟨rfl, rfl, rfl, by decide +kernel, rfl, by decide +kernel, by decide +kernel⟩
theorem ok_F_bool {f : Addr} {fd : FuncData} {dvs : List V} {kws : List (Str × V)} (G : Gn K mg) (hT : T1.Ok P w K mg base 2) (F : FunD K "__bool__" "Frac.__bool__" (defArgs st_F_bool) (defBody st_F_bool) (defScope st_F_bool) dvs kws f fd) : FnOk P w K mg base (L2.CX P w) 6 f fd ["self"] (spM ⟨K, mg, tn, none⟩ 1 m_F_bool) :=
  fn_mk (fl := ⟨tn, none⟩) (st := st_F_bool) (N := ["self"]) (ps := ["self"]) (qual := "Frac.__bool__") (k := 5) (body := b_F_bool) F sc_F_bool rfl fun cdv A outer s H E C0 => es_one (es_ret (ex_callTy (bl_bool hT rfl C0 (by decide)) rfl G.f_bool (by kernel_rfl) (ea_cons (ex_cmp (bin_cmp hT rfl C0 (by decide)) (ex_attr n_num rfl hT rfl C0 (by decide) (ex_var 0)) (ex_int) (by rfl)) ea_nil)))
abbrev st_F_neg : Stmt := inC 6 9
noncomputable def b_F_neg : MS := mRet (mNew T1 n_Frac [mUn (negD T1) (mAttr T1 n_num (mVar 0)), mAttr T1 n_den (mVar 0)])
noncomputable def m_F_neg : Fn := mDef 1 b_F_neg
theorem sc_F_neg : FnScope ["self"] ["self"] (defScope st_F_neg) := ⟨rfl, rfl, rfl, by decide +kernel, rfl, by decide +kernel, by decide +kernel⟩
theorem ok_F_neg {f : Addr} {fd : FuncData} {dvs : List V} {kws : List (Str × V)} (G : Gn K mg) (hT : T1.Ok P w K mg base 2) (F : FunD K "__neg__" "Frac.__neg__" (defArgs st_F_neg) (defBody st_F_neg) (defScope st_F_neg) dvs kws f fd) : FnOk P w K mg base (L2.CX P w) 6 f fd ["self"] (spM ⟨K, mg, tn, none⟩ 1 m_F_neg) :=
  fn_mk (fl := ⟨tn, none⟩) (st := st_F_neg) (N := ["self"]) (ps := ["self"]) (qual := "Frac.__neg__") (k := 5) (body := b_F_neg) F sc_F_neg rfl fun cdv A outer s H E C0 => es_one (es_ret (ex_new n_Frac rfl hT rfl C0 (by decide) rfl rfl (ea_cons (ex_un (un_negD hT rfl C0 (by decide)) (ex_attr n_num rfl hT rfl C0 (by decide) (ex_var 0))) (ea_cons (ex_attr n_den rfl hT rfl C0 (by decide) (ex_var 0)) ea_nil))))
abbrev st_F_abs : Stmt := inC 6 10
noncomputable def b_F_abs : MS := mRet (mNew T1 n_Frac [mCall (absD T1) [mAttr T1 n_num (mVar 0)], mAttr T1 n_den (mVar 0)])
noncomputable def m_F_abs : Fn := mDef 1 b_F_abs
theorem sc_F_abs : FnScope ["self"] ["self"] (defScope st_F_abs) := ⟨rfl, rfl, rfl, by decide +kernel, rfl, by decide +kernel, by decide +kernel⟩
theorem ok_F_abs {f : Addr} {fd : FuncData} {dvs : List V} {kws : List (Str × V)} (G : Gn K mg) (hT : T1.Ok P w K mg base 2) (F : FunD K "__abs__" "Frac.__abs__" (defArgs st_F_abs) (defBody st_F_abs) (defScope st_F_abs) dvs kws f fd) : FnOk P w K mg base (L2.CX P w) 6 f fd ["self"] (spM ⟨K, mg, tn, none⟩ 1 m_F_abs) :=
  fn_mk (fl := ⟨tn, none⟩) (st := st_F_abs) (N := ["self"]) (ps := ["self"]) (qual := "Frac.__abs__") (k := 5) (body := b_F_abs) F sc_F_abs rfl fun cdv A outer s H E C0 => es_one (es_ret (ex_new n_Frac rfl hT rfl C0 (by decide) rfl rfl (ea_cons (ex_callB (bl_abs hT rfl C0 (by decide)) rfl G.f_abs (by kernel_rfl) (ea_cons (ex_attr n_num rfl hT rfl C0 (by decide) (ex_var 0)) ea_nil)) (ea_cons (ex_attr n_den rfl hT rfl C0 (by decide) (ex_var 0)) ea_nil))))
abbrev st_F_add : Stmt := inC 6 11
noncomputable def b_F_add : MS := mSeq (mIfS (mTru (mCall (isiD T1) [mVar 1, mC (.glob n_Frac)])) (mRet (mNew T1 n_Frac [mBin (opD T1 .Add) (mBin (opD T1 .Mult) (mAttr T1 n_num (mVar 0)) (mAttr T1 n_den (mVar 1))) (mBin (opD T1 .Mult) (mAttr T1 n_num (mVar 1)) (mAttr T1 n_den (mVar 0))), mBin (opD T1 .Mult) (mAttr T1 n_den (mVar 0)) (mAttr T1 n_den (mVar 1))])) (mNext)) (mSeq (mIfS (mTru (mCall (isiD T1) [mVar 1, mC (.ty "int")])) (mRet (mNew T1 n_Frac [mBin (opD T1 .Add) (mAttr T1 n_num (mVar 0)) (mBin (opD T1 .Mult) (mVar 1) (mAttr T1 n_den (mVar 0))), mAttr T1 n_den (mVar 0)])) (mNext)) ((fun _ _ => .bad)))
noncomputable def m_F_add : Fn := mDef 2 b_F_add
theorem sc_F_add : FnScope ["self", "other"] ["self", "other"] (defScope st_F_add) := ⟨rfl, rfl, rfl, by decide +kernel, rfl, by decide +kernel, by decide +kernel⟩
theorem ok_F_add {f : Addr} {fd : FuncData} {dvs : List V} {kws : List (Str × V)} (G : Gn K mg) (hT : T1.Ok P w K mg base 2) (F : FunD K "__add__" "Frac.__add__" (defArgs st_F_add) (defBody st_F_add) (defScope st_F_add) dvs kws f fd) : FnOk P w K mg base (L2.CX P w) 6 f fd ["self", "other"] (spM ⟨K, mg, tn, none⟩ 2 m_F_add) :=
  fn_mk (fl := ⟨tn, none⟩) (st := st_F_add) (N := ["self", "other"]) (ps := ["self", "other"]) (qual := "Frac.__add__") (k := 5) (body := b_F_add) F sc_F_add rfl fun cdv A outer s H E C0 => es_cons (es_if (et_val (ex_callB (bl_isi hT rfl) rfl G.f_isinstance (by kernel_rfl) (ea_cons (ex_var 1) (ea_cons (ex_glob n_Frac rfl rfl G.g_Frac) ea_nil)))) (es_one (es_ret (ex_new n_Frac rfl hT rfl C0 (by decide) rfl rfl (ea_cons (ex_bin (bin_op hT rfl C0 (by decide)) (ex_bin (bin_op hT rfl C0 (by decide)) (ex_attr n_num rfl hT rfl C0 (by decide) (ex_var 0)) (ex_attr n_den rfl hT rfl C0 (by decide) (ex_var 1))) (ex_bin (bin_op hT rfl C0 (by decide)) (ex_attr n_num rfl hT rfl C0 (by decide) (ex_var 1)) (ex_attr n_den rfl hT rfl C0 (by decide) (ex_var 0)))) (ea_cons (ex_bin (bin_op hT rfl C0 (by decide)) (ex_attr n_den rfl hT rfl C0 (by decide) (ex_var 0)) (ex_attr n_den rfl hT rfl C0 (by decide) (ex_var 1))) ea_nil))))) (es_nil)) (es_cons (es_if (et_val (ex_callB (bl_isi hT rfl) rfl G.f_isinstance (by kernel_rfl) (ea_cons (ex_var 1) (ea_cons (ex_ty rfl G.f_int (by kernel_rfl)) ea_nil)))) (es_one (es_ret (ex_new n_Frac rfl hT rfl C0 (by decide) rfl rfl (ea_cons (ex_bin (bin_op hT rfl C0 (by decide)) (ex_attr n_num rfl hT rfl C0 (by decide) (ex_var 0)) (ex_bin (bin_op hT rfl C0 (by decide)) (ex_var 1) (ex_attr n_den rfl hT rfl C0 (by decide) (ex_var 0)))) (ea_cons (ex_attr n_den rfl hT rfl C0 (by decide) (ex_var 0)) ea_nil))))) (es_nil)) (es_one (es_bad)))
abbrev st_F_radd : Stmt := inC 6 12
noncomputable def b_F_radd : MS := mSeq (mIfS (mNot (mTru (mCall (isiD T1) [mVar 1, mC (.ty "int")]))) ((fun _ _ => .bad)) (mNext)) (mRet (mNew T1 n_Frac [mBin (opD T1 .Add) (mBin (opD T1 .Mult) (mVar 1) (mAttr T1 n_den (mVar 0))) (mAttr T1 n_num (mVar 0)), mAttr T1 n_den (mVar 0)]))
noncomputable def m_F_radd : Fn := mDef 2 b_F_radd
theorem sc_F_radd : FnScope ["self", "other"] ["self", "other"] (defScope st_F_radd) := ⟨rfl, rfl, rfl, by decide +kernel, rfl, by decide +kernel, by decide +kernel⟩
theorem ok_F_radd {f : Addr} {fd : FuncData} {dvs : List V} {kws : List (Str × V)} (G : Gn K mg) (hT : T1.Ok P w K mg base 2) (F : FunD K "__radd__" "Frac.__radd__" (defArgs st_F_radd) (defBody st_F_radd) (defScope st_F_radd) dvs kws f fd) : FnOk P w K mg base (L2.CX P w) 6 f fd ["self", "other"] (spM ⟨K, mg, tn, none⟩ 2 m_F_radd) :=
  fn_mk (fl := ⟨tn, none⟩) (st := st_F_radd) (N := ["self", "other"]) (ps := ["self", "other"]) (qual := "Frac.__radd__") (k := 5) (body := b_F_radd) F sc_F_radd rfl fun cdv A outer s H E C0 => es_cons (es_if (et_not (et_val (ex_callB (bl_isi hT rfl) rfl G.f_isinstance (by kernel_rfl) (ea_cons (ex_var 1) (ea_cons (ex_ty rfl G.f_int (by kernel_rfl)) ea_nil))))) (es_one (es_bad)) (es_nil)) (es_one (es_ret (ex_new n_Frac rfl hT rfl C0 (by decide) rfl rfl (ea_cons (ex_bin (bin_op hT rfl C0 (by decide)) (ex_bin (bin_op hT rfl C0 (by decide)) (ex_var 1) (ex_attr n_den rfl hT rfl C0 (by decide) (ex_var 0))) (ex_attr n_num rfl hT rfl C0 (by decide) (ex_var 0))) (ea_cons (ex_attr n_den rfl hT rfl C0 (by decide) (ex_var 0)) ea_nil)))))
abbrev st_F_sub : Stmt := inC 6 13
noncomputable def b_F_sub : MS := mSeq (mIfS (mTru (mCall (isiD T1) [mVar 1, mC (.glob n_Frac)])) (mRet (mNew T1 n_Frac [mBin (opD T1 .Sub) (mBin (opD T1 .Mult) (mAttr T1 n_num (mVar 0)) (mAttr T1 n_den (mVar 1))) (mBin (opD T1 .Mult) (mAttr T1 n_num (mVar 1)) (mAttr T1 n_den (mVar 0))), mBin (opD T1 .Mult) (mAttr T1 n_den (mVar 0)) (mAttr T1 n_den (mVar 1))])) (mNext)) (mSeq (mIfS (mTru (mCall (isiD T1) [mVar 1, mC (.ty "int")])) (mRet (mNew T1 n_Frac [mBin (opD T1 .Sub) (mAttr T1 n_num (mVar 0)) (mBin (opD T1 .Mult) (mVar 1) (mAttr T1 n_den (mVar 0))), mAttr T1 n_den (mVar 0)])) (mNext)) ((fun _ _ => .bad)))
noncomputable def m_F_sub : Fn := mDef 2 b_F_sub
theorem sc_F_sub : FnScope ["self", "other"] ["self", "other"] (defScope st_F_sub) := ⟨rfl, rfl, rfl, by decide +kernel, rfl, by decide +kernel, by decide +kernel⟩
theorem ok_F_sub {f : Addr} {fd : FuncData} {dvs : List V} {kws : List (Str × V)} (G : Gn K mg) (hT : T1.Ok P w K mg base 2) (F : FunD K "__sub__" "Frac.__sub__" (defArgs st_F_sub) (defBody st_F_sub) (defScope st_F_sub) dvs kws f fd) : FnOk P w K mg base (L2.CX P w) 6 f fd ["self", "other"] (spM ⟨K, mg, tn, none⟩ 2 m_F_sub) :=
  fn_mk (fl := ⟨tn, none⟩) (st := st_F_sub) (N := ["self", "other"]) (ps := ["self", "other"]) (qual := "Frac.__sub__") (k := 5) (body := b_F_sub) F sc_F_sub rfl fun cdv A outer s H E C0 => es_cons (es_if (et_val (ex_callB (bl_isi hT rfl) rfl G.f_isinstance (by kernel_rfl) (ea_cons (ex_var 1) (ea_cons (ex_glob n_Frac rfl rfl G.g_Frac) ea_nil)))) (es_one (es_ret (ex_new n_Frac rfl hT rfl C0 (by decide) rfl rfl (ea_cons (ex_bin (bin_op hT rfl C0 (by decide)) (ex_bin (bin_op hT rfl C0 (by decide)) (ex_attr n_num rfl hT rfl C0 (by decide) (ex_var 0)) (ex_attr n_den rfl hT rfl C0 (by decide) (ex_var 1))) (ex_bin (bin_op hT rfl C0 (by decide)) (ex_attr n_num rfl hT rfl C0 (by decide) (ex_var 1)) (ex_attr n_den rfl hT rfl C0 (by decide) (ex_var 0)))) (ea_cons (ex_bin (bin_op hT rfl C0 (by decide)) (ex_attr n_den rfl hT rfl C0 (by decide) (ex_var 0)) (ex_attr n_den rfl hT rfl C0 (by decide) (ex_var 1))) ea_nil))))) (es_nil)) (es_cons (es_if (et_val (ex_callB (bl_isi hT rfl) rfl G.f_isinstance (by kernel_rfl) (ea_cons (ex_var 1) (ea_cons (ex_ty rfl G.f_int (by kernel_rfl)) ea_nil)))) (es_one (es_ret (ex_new n_Frac rfl hT rfl C0 (by decide) rfl rfl (ea_cons (ex_bin (bin_op hT rfl C0 (by decide)) (ex_attr n_num rfl hT rfl C0 (by decide) (ex_var 0)) (ex_bin (bin_op hT rfl C0 (by decide)) (ex_var 1) (ex_attr n_den rfl hT rfl C0 (by decide) (ex_var 0)))) (ea_cons (ex_attr n_den rfl hT rfl C0 (by decide) (ex_var 0)) ea_nil))))) (es_nil)) (es_one (es_bad)))
abbrev st_F_rsub : Stmt := inC 6 14
noncomputable def b_F_rsub : MS := mSeq (mIfS (mNot (mTru (mCall (isiD T1) [mVar 1, mC (.ty "int")]))) ((fun _ _ => .bad)) (mNext)) (mRet (mNew T1 n_Frac [mBin (opD T1 .Sub) (mBin (opD T1 .Mult) (mVar 1) (mAttr T1 n_den (mVar 0))) (mAttr T1 n_num (mVar 0)), mAttr T1 n_den (mVar 0)]))
noncomputable def m_F_rsub : Fn := mDef 2 b_F_rsub
theorem sc_F_rsub : FnScope ["self", "other"] ["self", "other"] (defScope st_F_rsub) := ⟨rfl, rfl, rfl, by decide +kernel, rfl, by decide +kernel, by decide +kernel⟩
theorem ok_F_rsub {f : Addr} {fd : FuncData} {dvs : List V} {kws : List (Str × V)} (G : Gn K mg) (hT : T1.Ok P w K mg base 2) (F : FunD K "__rsub__" "Frac.__rsub__" (defArgs st_F_rsub) (defBody st_F_rsub) (defScope st_F_rsub) dvs kws f fd) : FnOk P w K mg base (L2.CX P w) 6 f fd ["self", "other"] (spM ⟨K, mg, tn, none⟩ 2 m_F_rsub) :=
  fn_mk (fl := ⟨tn, none⟩) (st := st_F_rsub) (N := ["self", "other"]) (ps := ["self", "other"]) (qual := "Frac.__rsub__") (k := 5) (body := b_F_rsub) F sc_F_rsub rfl fun cdv A outer s H E C0 => es_cons (es_if (et_not (et_val (ex_callB (bl_isi hT rfl) rfl G.f_isinstance (by kernel_rfl) (ea_cons (ex_var 1) (ea_cons (ex_ty rfl G.f_int (by kernel_rfl)) ea_nil))))) (es_one (es_bad)) (es_nil)) (es_one (es_ret (ex_new n_Frac rfl hT rfl C0 (by decide) rfl rfl (ea_cons (ex_bin (bin_op hT rfl C0 (by decide)) (ex_bin (bin_op hT rfl C0 (by decide)) (ex_var 1) (ex_attr n_den rfl hT rfl C0 (by decide) (ex_var 0))) (ex_attr n_num rfl hT rfl C0 (by decide) (ex_var 0))) (ea_cons (ex_attr n_den rfl hT rfl C0 (by decide) (ex_var 0)) ea_nil)))))
abbrev st_F_mul : Stmt := inC 6 15
noncomputable def b_F_mul : MS := mSeq (mIfS (mTru (mCall (isiD T1) [mVar 1, mC (.glob n_Frac)])) (mRet (mNew T1 n_Frac [mBin (opD T1 .Mult) (mAttr T1 n_num (mVar 0)) (mAttr T1 n_num (mVar 1)), mBin (opD T1 .Mult) (mAttr T1 n_den (mVar 0)) (mAttr T1 n_den (mVar 1))])) (mNext)) (mSeq (mIfS (mTru (mCall (isiD T1) [mVar 1, mC (.ty "int")])) (mRet (mNew T1 n_Frac [mBin (opD T1 .Mult) (mAttr T1 n_num (mVar 0)) (mVar 1), mAttr T1 n_den (mVar 0)])) (mNext)) ((fun _ _ => .bad)))
noncomputable def m_F_mul : Fn := mDef 2 b_F_mul
theorem sc_F_mul : FnScope ["self", "other"] ["self", "other"] (defScope st_F_mul) := ⟨rfl, rfl, rfl, by decide +kernel, rfl, by decide +kernel, by decide +kernel⟩
theorem ok_F_mul {f : Addr} {fd : FuncData} {dvs : List V} {kws : List (Str × V)} (G : Gn K mg) (hT : T1.Ok P w K mg base 2) (F : FunD K "__mul__" "Frac.__mul__" (defArgs st_F_mul) (defBody st_F_mul) (defScope st_F_mul) dvs kws f fd) : FnOk P w K mg base (L2.CX P w) 6 f fd ["self", "other"] (spM ⟨K, mg, tn, none⟩ 2 m_F_mul) :=
  fn_mk (fl := ⟨tn, none⟩) (st := st_F_mul) (N := ["self", "other"]) (ps := ["self", "other"]) (qual := "Frac.__mul__") (k := 5) (body := b_F_mul) F sc_F_mul rfl fun cdv A outer s H E C0 => es_cons (es_if (et_val (ex_callB (bl_isi hT rfl) rfl G.f_isinstance (by kernel_rfl) (ea_cons (ex_var 1) (ea_cons (ex_glob n_Frac rfl rfl G.g_Frac) ea_nil)))) (es_one (es_ret (ex_new n_Frac rfl hT rfl C0 (by decide) rfl rfl (ea_cons (ex_bin (bin_op hT rfl C0 (by decide)) (ex_attr n_num rfl hT rfl C0 (by decide) (ex_var 0)) (ex_attr n_num rfl hT rfl C0 (by decide) (ex_var 1))) (ea_cons (ex_bin (bin_op hT rfl C0 (by decide)) (ex_attr n_den rfl hT rfl C0 (by decide) (ex_var 0)) (ex_attr n_den rfl hT rfl C0 (by decide) (ex_var 1))) ea_nil))))) (es_nil)) (es_cons (es_if (et_val (ex_callB (bl_isi hT rfl) rfl G.f_isinstance (by kernel_rfl) (ea_cons (ex_var 1) (ea_cons (ex_ty rfl G.f_int (by kernel_rfl)) ea_nil)))) (es_one (es_ret (ex_new n_Frac rfl hT rfl C0 (by decide) rfl rfl (ea_cons (ex_bin (bin_op hT rfl C0 (by decide)) (ex_attr n_num rfl hT rfl C0 (by decide) (ex_var 0)) (ex_var 1)) (ea_cons (ex_attr n_den rfl hT rfl C0 (by decide) (ex_var 0)) ea_nil))))) (es_nil)) (es_one (es_bad)))
abbrev st_F_rmul : Stmt := inC 6 16
noncomputable def b_F_rmul : MS := mSeq (mIfS (mNot (mTru (mCall (isiD T1) [mVar 1, mC (.ty "int")]))) ((fun _ _ => .bad)) (mNext)) (mRet (mNew T1 n_Frac [mBin (opD T1 .Mult) (mVar 1) (mAttr T1 n_num (mVar 0)), mAttr T1 n_den (mVar 0)]))
noncomputable def m_F_rmul : Fn := mDef 2 b_F_rmul
theorem sc_F_rmul : FnScope ["self", "other"] ["self", "other"] (defScope st_F_rmul) := ⟨rfl, rfl, rfl, by decide +kernel, rfl, by decide +kernel, by decide +kernel⟩
theorem ok_F_rmul {f : Addr} {fd : FuncData} {dvs : List V} {kws : List (Str × V)} (G : Gn K mg) (hT : T1.Ok P w K mg base 2) (F : FunD K "__rmul__" "Frac.__rmul__" (defArgs st_F_rmul) (defBody st_F_rmul) (defScope st_F_rmul) dvs kws f fd) : FnOk P w K mg base (L2.CX P w) 6 f fd ["self", "other"] (spM ⟨K, mg, tn, none⟩ 2 m_F_rmul) :=
  fn_mk (fl := ⟨tn, none⟩) (st := st_F_rmul) (N := ["self", "other"]) (ps := ["self", "other"]) (qual := "Frac.__rmul__") (k := 5) (body := b_F_rmul) F sc_F_rmul rfl fun cdv A outer s H E C0 => es_cons (es_if (et_not (et_val (ex_callB (bl_isi hT rfl) rfl G.f_isinstance (by kernel_rfl) (ea_cons (ex_var 1) (ea_cons (ex_ty rfl G.f_int (by kernel_rfl)) ea_nil))))) (es_one (es_bad)) (es_nil)) (es_one (es_ret (ex_new n_Frac rfl hT rfl C0 (by decide) rfl rfl (ea_cons (ex_bin (bin_op hT rfl C0 (by decide)) (ex_var 1) (ex_attr n_num rfl hT rfl C0 (by decide) (ex_var 0))) (ea_cons (ex_attr n_den rfl hT rfl C0 (by decide) (ex_var 0)) ea_nil)))))
abbrev st_F_floordiv : Stmt := inC 6 17
noncomputable def b_F_floordiv : MS := mSeq (mIfS (mTru (mCall (isiD T1) [mVar 1, mC (.glob n_Frac)])) (mSeq (mAsg 2 (mBin (opD T1 .Mult) (mAttr T1 n_num (mVar 0)) (mAttr T1 n_den (mVar 1)))) (mAsg 3 (mBin (opD T1 .Mult) (mAttr T1 n_den (mVar 0)) (mAttr T1 n_num (mVar 1))))) (mIfS (mTru (mCall (isiD T1) [mVar 1, mC (.ty "int")])) (mSeq (mAsg 2 (mAttr T1 n_num (mVar 0))) (mAsg 3 (mBin (opD T1 .Mult) (mAttr T1 n_den (mVar 0)) (mVar 1)))) ((fun _ _ => .bad)))) (mSeq (mIfS (mB (mBin (cmpD T1 .Eq) (mVar 3) (mC (.int 0)))) (mRaise0 T1 n_DivisionByZero) (mNext)) (mRet (mBin (opD T1 .FloorDiv) (mVar 2) (mVar 3))))
noncomputable def m_F_floordiv : Fn := mDef 4 b_F_floordiv
theorem sc_F_floordiv : FnScope ["self", "other", "above", "below"] ["self", "other"] (defScope st_F_floordiv) := ⟨rfl, rfl, rfl, by decide +kernel, rfl, by decide +kernel, by decide +kernel⟩
theorem ok_F_floordiv {f : Addr} {fd : FuncData} {dvs : List V} {kws : List (Str × V)} (G : Gn K mg) (hT : T1.Ok P w K mg base 2) (F : FunD K "__floordiv__" "Frac.__floordiv__" (defArgs st_F_floordiv) (defBody st_F_floordiv) (defScope st_F_floordiv) dvs kws f fd) : FnOk P w K mg base (L2.CX P w) 6 f fd ["self", "other"] (spM ⟨K, mg, tn, none⟩ 2 m_F_floordiv) :=
  fn_mk (fl := ⟨tn, none⟩) (st := st_F_floordiv) (N := ["self", "other", "above", "below"]) (ps := ["self", "other"]) (qual := "Frac.__floordiv__") (k := 5) (body := b_F_floordiv) F sc_F_floordiv rfl fun cdv A outer s H E C0 => es_cons (es_if (et_val (ex_callB (bl_isi hT rfl) rfl G.f_isinstance (by kernel_rfl) (ea_cons (ex_var 1) (ea_cons (ex_glob n_Frac rfl rfl G.g_Frac) ea_nil)))) (es_cons (es_set sc_F_floordiv.nd rfl (Or.inl rfl) (ex_bin (bin_op hT rfl C0 (by decide)) (ex_attr n_num rfl hT rfl C0 (by decide) (ex_var 0)) (ex_attr n_den rfl hT rfl C0 (by decide) (ex_var 1)))) (es_one (es_set sc_F_floordiv.nd rfl (Or.inl rfl) (ex_bin (bin_op hT rfl C0 (by decide)) (ex_attr n_den rfl hT rfl C0 (by decide) (ex_var 0)) (ex_attr n_num rfl hT rfl C0 (by decide) (ex_var 1)))))) (es_one (es_if (et_val (ex_callB (bl_isi hT rfl) rfl G.f_isinstance (by kernel_rfl) (ea_cons (ex_var 1) (ea_cons (ex_ty rfl G.f_int (by kernel_rfl)) ea_nil)))) (es_cons (es_set sc_F_floordiv.nd rfl (Or.inl rfl) (ex_attr n_num rfl hT rfl C0 (by decide) (ex_var 0))) (es_one (es_set sc_F_floordiv.nd rfl (Or.inl rfl) (ex_bin (bin_op hT rfl C0 (by decide)) (ex_attr n_den rfl hT rfl C0 (by decide) (ex_var 0)) (ex_var 1))))) (es_one (es_bad))))) (es_cons (es_if (et_cmp (bin_cmp hT rfl C0 (by decide)) (ex_var 3) (ex_int) (by rfl)) (es_one (es_raise0 n_DivisionByZero rfl hT rfl C0 rfl rfl)) (es_nil)) (es_one (es_ret (ex_bin (bin_op hT rfl C0 (by decide)) (ex_var 2) (ex_var 3)))))
abbrev st_F_pow : Stmt := inC 6 21
noncomputable def lb_F_pow_0 : MS := mSeq (mAsg 2 (mBin (opD T1 .Mult) (mVar 2) (mAttr T1 n_num (mVar 0)))) (mAsg 3 (mBin (opD T1 .Mult) (mVar 3) (mAttr T1 n_den (mVar 0))))
noncomputable def b_F_pow : MS := mSeq (mIfS (mNot (mTru (mCall (isiD T1) [mVar 1, mC (.ty "int")]))) ((fun _ _ => .bad)) (mNext)) (mSeq (mAsg 2 (mC (.int 1))) (mSeq (mAsg 3 (mC (.int 1))) (mSeq (mFor (iRange1 (mVar 1)) (gNm 4) lb_F_pow_0) (mRet (mNew T1 n_Frac [mVar 2, mVar 3])))))
noncomputable def m_F_pow : Fn := mDef 5 b_F_pow
theorem sc_F_pow : FnScope ["self", "other", "above", "below", "_"] ["self", "other"] (defScope st_F_pow) := ⟨rfl, rfl, rfl, by decide +kernel, rfl, by decide +kernel, by decide +kernel⟩
theorem ok_F_pow {f : Addr} {fd : FuncData} {dvs : List V} {kws : List (Str × V)} (G : Gn K mg) (hT : T1.Ok P w K mg base 2) (F : FunD K "__pow__" "Frac.__pow__" (defArgs st_F_pow) (defBody st_F_pow) (defScope st_F_pow) dvs kws f fd) : FnOk P w K mg base (L2.CX P w) 6 f fd ["self", "other"] (spM ⟨K, mg, tn, none⟩ 2 m_F_pow) :=
  fn_mk (fl := ⟨tn, none⟩) (st := st_F_pow) (N := ["self", "other", "above", "below", "_"]) (ps := ["self", "other"]) (qual := "Frac.__pow__") (k := 5) (body := b_F_pow) F sc_F_pow rfl fun cdv A outer s H E C0 => es_cons (es_if (et_not (et_val (ex_callB (bl_isi hT rfl) rfl G.f_isinstance (by kernel_rfl) (ea_cons (ex_var 1) (ea_cons (ex_ty rfl G.f_int (by kernel_rfl)) ea_nil))))) (es_one (es_bad)) (es_nil)) (es_cons (es_set sc_F_pow.nd rfl (Or.inl rfl) (ex_int)) (es_cons (es_set sc_F_pow.nd rfl (Or.inl rfl) (ex_int)) (es_cons (es_for C0.po C0.calm (ei_range1 rfl G.f_range (ea_cons (ex_var 1) ea_nil)) (eg_name sc_F_pow.nd rfl (Or.inl rfl)) (plain_nm 4) (es_cons (es_set sc_F_pow.nd rfl (Or.inl rfl) (ex_bin (bin_op hT rfl C0 (by decide)) (ex_var 2) (ex_attr n_num rfl hT rfl C0 (by decide) (ex_var 0)))) (es_one (es_set sc_F_pow.nd rfl (Or.inl rfl) (ex_bin (bin_op hT rfl C0 (by decide)) (ex_var 3) (ex_attr n_den rfl hT rfl C0 (by decide) (ex_var 0))))))) (es_one (es_ret (ex_new n_Frac rfl hT rfl C0 (by decide) rfl rfl (ea_cons (ex_var 2) (ea_cons (ex_var 3) ea_nil))))))))
abbrev st_F_eq : Stmt := inC 6 22
noncomputable def b_F_eq : MS := mSeq (mIfS (mTru (mCall (isiD T1) [mVar 1, mC (.glob n_Frac)])) (mRet (mAndV (mBin (cmpD T1 .Eq) (mAttr T1 n_num (mVar 0)) (mAttr T1 n_num (mVar 1))) (mBin (cmpD T1 .Eq) (mAttr T1 n_den (mVar 0)) (mAttr T1 n_den (mVar 1))))) (mNext)) (mSeq (mIfS (mTru (mCall (isiD T1) [mVar 1, mC (.ty "int")])) (mRet (mAndV (mBin (cmpD T1 .Eq) (mAttr T1 n_den (mVar 0)) (mC (.int 1))) (mBin (cmpD T1 .Eq) (mAttr T1 n_num (mVar 0)) (mVar 1)))) (mNext)) ((fun _ _ => .bad)))
noncomputable def m_F_eq : Fn := mDef 2 b_F_eq
theorem sc_F_eq : FnScope ["self", "other"] ["self", "other"] (defScope st_F_eq) := ⟨rfl, rfl, rfl, by decide +kernel, rfl, by decide +kernel, by decide +kernel⟩
theorem ok_F_eq {f : Addr} {fd : FuncData} {dvs : List V} {kws : List (Str × V)} (G : Gn K mg) (hT : T1.Ok P w K mg base 2) (F : FunD K "__eq__" "Frac.__eq__" (defArgs st_F_eq) (defBody st_F_eq) (defScope st_F_eq) dvs kws f fd) : FnOk P w K mg base (L2.CX P w) 6 f fd ["self", "other"] (spM ⟨K, mg, tn, none⟩ 2 m_F_eq) :=
  fn_mk (fl := ⟨tn, none⟩) (st := st_F_eq) (N := ["self", "other"]) (ps := ["self", "other"]) (qual := "Frac.__eq__") (k := 5) (body := b_F_eq) F sc_F_eq rfl fun cdv A outer s H E C0 => es_cons (es_if (et_val (ex_callB (bl_isi hT rfl) rfl G.f_isinstance (by kernel_rfl) (ea_cons (ex_var 1) (ea_cons (ex_glob n_Frac rfl rfl G.g_Frac) ea_nil)))) (es_one (es_ret (ex_and (ex_cmp (bin_cmp hT rfl C0 (by decide)) (ex_attr n_num rfl hT rfl C0 (by decide) (ex_var 0)) (ex_attr n_num rfl hT rfl C0 (by decide) (ex_var 1)) (by rfl)) (ex_one (ex_cmp (bin_cmp hT rfl C0 (by decide)) (ex_attr n_den rfl hT rfl C0 (by decide) (ex_var 0)) (ex_attr n_den rfl hT rfl C0 (by decide) (ex_var 1)) (by rfl)))))) (es_nil)) (es_cons (es_if (et_val (ex_callB (bl_isi hT rfl) rfl G.f_isinstance (by kernel_rfl) (ea_cons (ex_var 1) (ea_cons (ex_ty rfl G.f_int (by kernel_rfl)) ea_nil)))) (es_one (es_ret (ex_and (ex_cmp (bin_cmp hT rfl C0 (by decide)) (ex_attr n_den rfl hT rfl C0 (by decide) (ex_var 0)) (ex_int) (by rfl)) (ex_one (ex_cmp (bin_cmp hT rfl C0 (by decide)) (ex_attr n_num rfl hT rfl C0 (by decide) (ex_var 0)) (ex_var 1) (by rfl)))))) (es_nil)) (es_one (es_bad)))
abbrev st_F_lt : Stmt := inC 6 23
noncomputable def b_F_lt : MS := mSeq (mIfS (mTru (mCall (isiD T1) [mVar 1, mC (.glob n_Frac)])) (mRet (mBin (cmpD T1 .Lt) (mBin (opD T1 .Mult) (mAttr T1 n_num (mVar 0)) (mAttr T1 n_den (mVar 1))) (mBin (opD T1 .Mult) (mAttr T1 n_num (mVar 1)) (mAttr T1 n_den (mVar 0))))) (mNext)) (mSeq (mIfS (mTru (mCall (isiD T1) [mVar 1, mC (.ty "int")])) (mRet (mBin (cmpD T1 .Lt) (mAttr T1 n_num (mVar 0)) (mBin (opD T1 .Mult) (mVar 1) (mAttr T1 n_den (mVar 0))))) (mNext)) ((fun _ _ => .bad)))
noncomputable def m_F_lt : Fn := mDef 2 b_F_lt
theorem sc_F_lt : FnScope ["self", "other"] ["self", "other"] (defScope st_F_lt) := ⟨rfl, rfl, rfl, by decide +kernel, rfl, by decide +kernel, by decide +kernel⟩
theorem ok_F_lt {f : Addr} {fd : FuncData} {dvs : List V} {kws : List (Str × V)} (G : Gn K mg) (hT : T1.Ok P w K mg base 2) (F : FunD K "__lt__" "Frac.__lt__" (defArgs st_F_lt) (defBody st_F_lt) (defScope st_F_lt) dvs kws f fd) : FnOk P w K mg base (L2.CX P w) 6 f fd ["self", "other"] (spM ⟨K, mg, tn, none⟩ 2 m_F_lt) :=
  fn_mk (fl := ⟨tn, none⟩) (st := st_F_lt) (N := ["self", "other"]) (ps := ["self", "other"]) (qual := "Frac.__lt__") (k := 5) (body := b_F_lt) F sc_F_lt rfl fun cdv A outer s H E C0 => es_cons (es_if (et_val (ex_callB (bl_isi hT rfl) rfl G.f_isinstance (by kernel_rfl) (ea_cons (ex_var 1) (ea_cons (ex_glob n_Frac rfl rfl G.g_Frac) ea_nil)))) (es_one (es_ret (ex_cmp (bin_cmp hT rfl C0 (by decide)) (ex_bin (bin_op hT rfl C0 (by decide)) (ex_attr n_num rfl hT rfl C0 (by decide) (ex_var 0)) (ex_attr n_den rfl hT rfl C0 (by decide) (ex_var 1))) (ex_bin (bin_op hT rfl C0 (by decide)) (ex_attr n_num rfl hT rfl C0 (by decide) (ex_var 1)) (ex_attr n_den rfl hT rfl C0 (by decide) (ex_var 0))) (by rfl)))) (es_nil)) (es_cons (es_if (et_val (ex_callB (bl_isi hT rfl) rfl G.f_isinstance (by kernel_rfl) (ea_cons (ex_var 1) (ea_cons (ex_ty rfl G.f_int (by kernel_rfl)) ea_nil)))) (es_one (es_ret (ex_cmp (bin_cmp hT rfl C0 (by decide)) (ex_attr n_num rfl hT rfl C0 (by decide) (ex_var 0)) (ex_bin (bin_op hT rfl C0 (by decide)) (ex_var 1) (ex_attr n_den rfl hT rfl C0 (by decide) (ex_var 0))) (by rfl)))) (es_nil)) (es_one (es_bad)))
abbrev st_F_le : Stmt := inC 6 24
noncomputable def b_F_le : MS := mSeq (mIfS (mTru (mCall (isiD T1) [mVar 1, mC (.glob n_Frac)])) (mRet (mBin (cmpD T1 .LtE) (mBin (opD T1 .Mult) (mAttr T1 n_num (mVar 0)) (mAttr T1 n_den (mVar 1))) (mBin (opD T1 .Mult) (mAttr T1 n_num (mVar 1)) (mAttr T1 n_den (mVar 0))))) (mNext)) (mSeq (mIfS (mTru (mCall (isiD T1) [mVar 1, mC (.ty "int")])) (mRet (mBin (cmpD T1 .LtE) (mAttr T1 n_num (mVar 0)) (mBin (opD T1 .Mult) (mVar 1) (mAttr T1 n_den (mVar 0))))) (mNext)) ((fun _ _ => .bad)))
noncomputable def m_F_le : Fn := mDef 2 b_F_le
theorem sc_F_le : FnScope ["self", "other"] ["self", "other"] (defScope st_F_le) := ⟨rfl, rfl, rfl, by decide +kernel, rfl, by decide +kernel, by decide +kernel⟩
theorem ok_F_le {f : Addr} {fd : FuncData} {dvs : List V} {kws : List (Str × V)} (G : Gn K mg) (hT : T1.Ok P w K mg base 2) (F : FunD K "__le__" "Frac.__le__" (defArgs st_F_le) (defBody st_F_le) (defScope st_F_le) dvs kws f fd) : FnOk P w K mg base (L2.CX P w) 6 f fd ["self", "other"] (spM ⟨K, mg, tn, none⟩ 2 m_F_le) :=
  fn_mk (fl := ⟨tn, none⟩) (st := st_F_le) (N := ["self", "other"]) (ps := ["self", "other"]) (qual := "Frac.__le__") (k := 5) (body := b_F_le) F sc_F_le rfl fun cdv A outer s H E C0 => es_cons (es_if (et_val (ex_callB (bl_isi hT rfl) rfl G.f_isinstance (by kernel_rfl) (ea_cons (ex_var 1) (ea_cons (ex_glob n_Frac rfl rfl G.g_Frac) ea_nil)))) (es_one (es_ret (ex_cmp (bin_cmp hT rfl C0 (by decide)) (ex_bin (bin_op hT rfl C0 (by decide)) (ex_attr n_num rfl hT rfl C0 (by decide) (ex_var 0)) (ex_attr n_den rfl hT rfl C0 (by decide) (ex_var 1))) (ex_bin (bin_op hT rfl C0 (by decide)) (ex_attr n_num rfl hT rfl C0 (by decide) (ex_var 1)) (ex_attr n_den rfl hT rfl C0 (by decide) (ex_var 0))) (by rfl)))) (es_nil)) (es_cons (es_if (et_val (ex_callB (bl_isi hT rfl) rfl G.f_isinstance (by kernel_rfl) (ea_cons (ex_var 1) (ea_cons (ex_ty rfl G.f_int (by kernel_rfl)) ea_nil)))) (es_one (es_ret (ex_cmp (bin_cmp hT rfl C0 (by decide)) (ex_attr n_num rfl hT rfl C0 (by decide) (ex_var 0)) (ex_bin (bin_op hT rfl C0 (by decide)) (ex_var 1) (ex_attr n_den rfl hT rfl C0 (by decide) (ex_var 0))) (by rfl)))) (es_nil)) (es_one (es_bad)))
abbrev st_F_gt : Stmt := inC 6 25
noncomputable def b_F_gt : MS := mSeq (mIfS (mTru (mCall (isiD T1) [mVar 1, mC (.glob n_Frac)])) (mRet (mBin (cmpD T1 .Gt) (mBin (opD T1 .Mult) (mAttr T1 n_num (mVar 0)) (mAttr T1 n_den (mVar 1))) (mBin (opD T1 .Mult) (mAttr T1 n_num (mVar 1)) (mAttr T1 n_den (mVar 0))))) (mNext)) (mSeq (mIfS (mTru (mCall (isiD T1) [mVar 1, mC (.ty "int")])) (mRet (mBin (cmpD T1 .Gt) (mAttr T1 n_num (mVar 0)) (mBin (opD T1 .Mult) (mVar 1) (mAttr T1 n_den (mVar 0))))) (mNext)) ((fun _ _ => .bad)))
noncomputable def m_F_gt : Fn := mDef 2 b_F_gt
theorem sc_F_gt : FnScope ["self", "other"] ["self", "other"] (defScope st_F_gt) := ⟨rfl, rfl, rfl, by decide +kernel, rfl, by decide +kernel, by decide +kernel⟩
theorem ok_F_gt {f : Addr} {fd : FuncData} {dvs : List V} {kws : List (Str × V)} (G : Gn K mg) (hT : T1.Ok P w K mg base 2) (F : FunD K "__gt__" "Frac.__gt__" (defArgs st_F_gt) (defBody st_F_gt) (defScope st_F_gt) dvs kws f fd) : FnOk P w K mg base (L2.CX P w) 6 f fd ["self", "other"] (spM ⟨K, mg, tn, none⟩ 2 m_F_gt) :=
  fn_mk (fl := ⟨tn, none⟩) (st := st_F_gt) (N := ["self", "other"]) (ps := ["self", "other"]) (qual := "Frac.__gt__") (k := 5) (body := b_F_gt) F sc_F_gt rfl fun cdv A outer s H E C0 => es_cons (es_if (et_val (ex_callB (bl_isi hT rfl) rfl G.f_isinstance (by kernel_rfl) (ea_cons (ex_var 1) (ea_cons (ex_glob n_Frac rfl rfl G.g_Frac) ea_nil)))) (es_one (es_ret (ex_cmp (bin_cmp hT rfl C0 (by decide)) (ex_bin (bin_op hT rfl C0 (by decide)) (ex_attr n_num rfl hT rfl C0 (by decide) (ex_var 0)) (ex_attr n_den rfl hT rfl C0 (by decide) (ex_var 1))) (ex_bin (bin_op hT rfl C0 (by decide)) (ex_attr n_num rfl hT rfl C0 (by decide) (ex_var 1)) (ex_attr n_den rfl hT rfl C0 (by decide) (ex_var 0))) (by rfl)))) (es_nil)) (es_cons (es_if (et_val (ex_callB (bl_isi hT rfl) rfl G.f_isinstance (by kernel_rfl) (ea_cons (ex_var 1) (ea_cons (ex_ty rfl G.f_int (by kernel_rfl)) ea_nil)))) (es_one (es_ret (ex_cmp (bin_cmp hT rfl C0 (by decide)) (ex_attr n_num rfl hT rfl C0 (by decide) (ex_var 0)) (ex_bin (bin_op hT rfl C0 (by decide)) (ex_var 1) (ex_attr n_den rfl hT rfl C0 (by decide) (ex_var 0))) (by rfl)))) (es_nil)) (es_one (es_bad)))
abbrev st_F_ge : Stmt := inC 6 26
noncomputable def b_F_ge : MS := mSeq (mIfS (mTru (mCall (isiD T1) [mVar 1, mC (.glob n_Frac)])) (mRet (mBin (cmpD T1 .GtE) (mBin (opD T1 .Mult) (mAttr T1 n_num (mVar 0)) (mAttr T1 n_den (mVar 1))) (mBin (opD T1 .Mult) (mAttr T1 n_num (mVar 1)) (mAttr T1 n_den (mVar 0))))) (mNext)) (mSeq (mIfS (mTru (mCall (isiD T1) [mVar 1, mC (.ty "int")])) (mRet (mBin (cmpD T1 .GtE) (mAttr T1 n_num (mVar 0)) (mBin (opD T1 .Mult) (mVar 1) (mAttr T1 n_den (mVar 0))))) (mNext)) ((fun _ _ => .bad)))
noncomputable def m_F_ge : Fn := mDef 2 b_F_ge
theorem sc_F_ge : FnScope ["self", "other"] ["self", "other"] (defScope st_F_ge) := ⟨rfl, rfl, rfl, by decide +kernel, rfl, by decide +kernel, by decide +kernel⟩
theorem ok_F_ge {f : Addr} {fd : FuncData} {dvs : List V} {kws : List (Str × V)} (G : Gn K mg) (hT : T1.Ok P w K mg base 2) (F : FunD K "__ge__" "Frac.__ge__" (defArgs st_F_ge) (defBody st_F_ge) (defScope st_F_ge) dvs kws f fd) : FnOk P w K mg base (L2.CX P w) 6 f fd ["self", "other"] (spM ⟨K, mg, tn, none⟩ 2 m_F_ge) :=
  fn_mk (fl := ⟨tn, none⟩) (st := st_F_ge) (N := ["self", "other"]) (ps := ["self", "other"]) (qual := "Frac.__ge__") (k := 5) (body := b_F_ge) F sc_F_ge rfl fun cdv A outer s H E C0 => es_cons (es_if (et_val (ex_callB (bl_isi hT rfl) rfl G.f_isinstance (by kernel_rfl) (ea_cons (ex_var 1) (ea_cons (ex_glob n_Frac rfl rfl G.g_Frac) ea_nil)))) (es_one (es_ret (ex_cmp (bin_cmp hT rfl C0 (by decide)) (ex_bin (bin_op hT rfl C0 (by decide)) (ex_attr n_num rfl hT rfl C0 (by decide) (ex_var 0)) (ex_attr n_den rfl hT rfl C0 (by decide) (ex_var 1))) (ex_bin (bin_op hT rfl C0 (by decide)) (ex_attr n_num rfl hT rfl C0 (by decide) (ex_var 1)) (ex_attr n_den rfl hT rfl C0 (by decide) (ex_var 0))) (by rfl)))) (es_nil)) (es_cons (es_if (et_val (ex_callB (bl_isi hT rfl) rfl G.f_isinstance (by kernel_rfl) (ea_cons (ex_var 1) (ea_cons (ex_ty rfl G.f_int (by kernel_rfl)) ea_nil)))) (es_one (es_ret (ex_cmp (bin_cmp hT rfl C0 (by decide)) (ex_attr n_num rfl hT rfl C0 (by decide) (ex_var 0)) (ex_bin (bin_op hT rfl C0 (by decide)) (ex_var 1) (ex_attr n_den rfl hT rfl C0 (by decide) (ex_var 0))) (by rfl)))) (es_nil)) (es_one (es_bad)))
noncomputable def T2 : CT := ((((((((((((((((((((T1.am n_Frac n_over 2 m_F_over).am n_Frac n_floor 1 m_F_floor).am n_Frac n_ceiling 1 m_F_ceiling).ap n_Frac n_is_whole m_F_is_whole).am n_Frac 21 1 m_F_bool).am n_Frac 19 1 m_F_neg).am n_Frac 20 1 m_F_abs).am n_Frac 1 2 m_F_add).am n_Frac 2 2 m_F_radd).am n_Frac 3 2 m_F_sub).am n_Frac 4 2 m_F_rsub).am n_Frac 5 2 m_F_mul).am n_Frac 6 2 m_F_rmul).am n_Frac 7 2 m_F_floordiv).am n_Frac 11 2 m_F_pow).am n_Frac 13 2 m_F_eq).am n_Frac 15 2 m_F_lt).am n_Frac 16 2 m_F_le).am n_Frac 17 2 m_F_gt).am n_Frac 18 2 m_F_ge)
abbrev st_F_rfloordiv : Stmt := inC 6 18
noncomputable def b_F_rfloordiv : MS := mSeq (mIfS (mNot (mTru (mCall (isiD T2) [mVar 1, mC (.ty "int")]))) ((fun _ _ => .bad)) (mNext)) (mRet (mBin (opD T2 .FloorDiv) (mNew T2 n_Frac [mVar 1]) (mVar 0)))
noncomputable def m_F_rfloordiv : Fn := mDef 2 b_F_rfloordiv
theorem sc_F_rfloordiv : FnScope ["self", "other"] ["self", "other"] (defScope st_F_rfloordiv) := ⟨rfl, rfl, rfl, by decide +kernel, rfl, by decide +kernel, by decide +kernel⟩
theorem ok_F_rfloordiv {f : Addr} {fd : FuncData} {dvs : List V} {kws : List (Str × V)} (G : Gn K mg) (hT : T2.Ok P w K mg base 6) (F : FunD K "__rfloordiv__" "Frac.__rfloordiv__" (defArgs st_F_rfloordiv) (defBody st_F_rfloordiv) (defScope st_F_rfloordiv) dvs kws f fd) : FnOk P w K mg base (L2.CX P w) 10 f fd ["self", "other"] (spM ⟨K, mg, tn, none⟩ 2 m_F_rfloordiv) :=
  fn_mk (fl := ⟨tn, none⟩) (st := st_F_rfloordiv) (N := ["self", "other"]) (ps := ["self", "other"]) (qual := "Frac.__rfloordiv__") (k := 9) (body := b_F_rfloordiv) F sc_F_rfloordiv rfl fun cdv A outer s H E C0 => es_cons (es_if (et_not (et_val (ex_callB (bl_isi hT rfl) rfl G.f_isinstance (by kernel_rfl) (ea_cons (ex_var 1) (ea_cons (ex_ty rfl G.f_int (by kernel_rfl)) ea_nil))))) (es_one (es_bad)) (es_nil)) (es_one (es_ret (ex_bin (bin_op hT rfl C0 (by decide)) (ex_new n_Frac rfl hT rfl C0 (by decide) rfl rfl (ea_cons (ex_var 1) ea_nil)) (ex_var 0))))
noncomputable def T3 : CT := (T2.am n_Frac 8 2 m_F_rfloordiv)
abbrev st_F_mod : Stmt := inC 6 19
noncomputable def b_F_mod : MS := mSeq (mIfS (mNot (mTru (mCall (isiD T3) [mVar 1, mTup [mC (.ty "int"), mC (.glob n_Frac)]]))) ((fun _ _ => .bad)) (mNext)) (mRet (mBin (opD T3 .Sub) (mVar 0) (mBin (opD T3 .Mult) (mVar 1) (mBin (opD T3 .FloorDiv) (mVar 0) (mVar 1)))))
noncomputable def m_F_mod : Fn := mDef 2 b_F_mod
theorem sc_F_mod : FnScope ["self", "other"] ["self", "other"] (defScope st_F_mod) := ⟨rfl, rfl, rfl, by decide +kernel, rfl, by decide +kernel, by decide +kernel⟩
theorem ok_F_mod {f : Addr} {fd : FuncData} {dvs : List V} {kws : List (Str × V)} (G : Gn K mg) (hT : T3.Ok P w K mg base 10) (F : FunD K "__mod__" "Frac.__mod__" (defArgs st_F_mod) (defBody st_F_mod) (defScope st_F_mod) dvs kws f fd) : FnOk P w K mg base (L2.CX P w) 14 f fd ["self", "other"] (spM ⟨K, mg, tn, none⟩ 2 m_F_mod) :=
  fn_mk (fl := ⟨tn, none⟩) (st := st_F_mod) (N := ["self", "other"]) (ps := ["self", "other"]) (qual := "Frac.__mod__") (k := 13) (body := b_F_mod) F sc_F_mod rfl fun cdv A outer s H E C0 => es_cons (es_if (et_not (et_val (ex_callB (bl_isi hT rfl) rfl G.f_isinstance (by kernel_rfl) (ea_cons (ex_var 1) (ea_cons (ex_tup (ea_cons (ex_ty rfl G.f_int (by kernel_rfl)) (ea_cons (ex_glob n_Frac rfl rfl G.g_Frac) ea_nil))) ea_nil))))) (es_one (es_bad)) (es_nil)) (es_one (es_ret (ex_bin (bin_op hT rfl C0 (by decide)) (ex_var 0) (ex_bin (bin_op hT rfl C0 (by decide)) (ex_var 1) (ex_bin (bin_op hT rfl C0 (by decide)) (ex_var 0) (ex_var 1))))))
noncomputable def T3b : CT := (T3.am n_Frac 9 2 m_F_mod)
abbrev st_F_rmod : Stmt := inC 6 20
noncomputable def b_F_rmod : MS := mSeq (mIfS (mNot (mTru (mCall (isiD T3b) [mVar 1, mC (.ty "int")]))) ((fun _ _ => .bad)) (mNext)) (mRet (mBin (opD T3b .Mod) (mNew T3b n_Frac [mVar 1]) (mVar 0)))
noncomputable def m_F_rmod : Fn := mDef 2 b_F_rmod
theorem sc_F_rmod : FnScope ["self", "other"] ["self", "other"] (defScope st_F_rmod) := ⟨rfl, rfl, rfl, by decide +kernel, rfl, by decide +kernel, by decide +kernel⟩
theorem ok_F_rmod {f : Addr} {fd : FuncData} {dvs : List V} {kws : List (Str × V)} (G : Gn K mg) (hT : T3b.Ok P w K mg base 14) (F : FunD K "__rmod__" "Frac.__rmod__" (defArgs st_F_rmod) (defBody st_F_rmod) (defScope st_F_rmod) dvs kws f fd) : FnOk P w K mg base (L2.CX P w) 18 f fd ["self", "other"] (spM ⟨K, mg, tn, none⟩ 2 m_F_rmod) :=
  fn_mk (fl := ⟨tn, none⟩) (st := st_F_rmod) (N := ["self", "other"]) (ps := ["self", "other"]) (qual := "Frac.__rmod__") (k := 17) (body := b_F_rmod) F sc_F_rmod rfl fun cdv A outer s H E C0 => es_cons (es_if (et_not (et_val (ex_callB (bl_isi hT rfl) rfl G.f_isinstance (by kernel_rfl) (ea_cons (ex_var 1) (ea_cons (ex_ty rfl G.f_int (by kernel_rfl)) ea_nil))))) (es_one (es_bad)) (es_nil)) (es_one (es_ret (ex_bin (bin_op hT rfl C0 (by decide)) (ex_new n_Frac rfl hT rfl C0 (by decide) rfl rfl (ea_cons (ex_var 1) ea_nil)) (ex_var 0))))
noncomputable def T4 : CT := (T3b.am n_Frac 10 2 m_F_rmod)
noncomputable def T5 : CT := T4.an n_Frac
abbrev st__law_cell : Stmt := top 9
noncomputable def b__law_cell : MS := mSeq (mIfS (mB (mBin (cmpD T5 .Lt) (mVar 1) (mCall lenD [mVar 0]))) (mRet (mBin (opD T5 .Mod) (mCall intD [mBin ixD (mVar 0) (mVar 1)]) (mBin (opD T5 .Pow) (mC (.int 10)) (mC (.int 18))))) (mNext)) (mRet (mBin (opD T5 .Add) (mBin (opD T5 .Mult) (mC (.int 5)) (mVar 1)) (mC (.int 1))))
noncomputable def m__law_cell : Fn := mDef 2 b__law_cell
theorem sc__law_cell : FnScope ["_law_script", "_law_k"] ["_law_script", "_law_k"] (defScope st__law_cell) := ⟨rfl, rfl, rfl, by decide +kernel, rfl, by decide +kernel, by decide +kernel⟩
theorem ok__law_cell {f : Addr} {fd : FuncData} {dvs : List V} {kws : List (Str × V)} (G : Gn K mg) (hT : T5.Ok P w K mg base 18) (F : FunD K "_law_cell" "_law_cell" (defArgs st__law_cell) (defBody st__law_cell) (defScope st__law_cell) dvs kws f fd) : FnOk P w K mg base (L2.CX P w) 22 f fd ["_law_script", "_law_k"] (spM ⟨K, mg, tn, none⟩ 2 m__law_cell) :=
  fn_mk (fl := ⟨tn, none⟩) (st := st__law_cell) (N := ["_law_script", "_law_k"]) (ps := ["_law_script", "_law_k"]) (qual := "_law_cell") (k := 21) (body := b__law_cell) F sc__law_cell rfl fun cdv A outer s H E C0 => es_cons (es_if (et_cmp (bin_cmp hT rfl C0 (by decide)) (ex_var 1) (ex_callB bl_len rfl G.f_len (by kernel_rfl) (ea_cons (ex_var 0) ea_nil)) (by rfl)) (es_one (es_ret (ex_bin (bin_op hT rfl C0 (by decide)) (ex_callTy bl_int rfl G.f_int (by kernel_rfl) (ea_cons (ex_ix (ex_var 0) (ex_var 1)) ea_nil)) (ex_bin (bin_op hT rfl C0 (by decide)) (ex_int) (ex_int))))) (es_nil)) (es_one (es_ret (ex_bin (bin_op hT rfl C0 (by decide)) (ex_bin (bin_op hT rfl C0 (by decide)) (ex_int) (ex_var 1)) (ex_int))))
abbrev st__law_gcd : Stmt := top 10
noncomputable def lb__law_gcd_0 : MS := mSeq (mAsg 2 (mBin (opD T5 .Mod) (mCall intD [mVar 0]) (mVar 1))) (mSeq (mAsg 0 (mVar 1)) (mAsg 1 (mVar 2)))
noncomputable def b__law_gcd : MS := mSeq (mAsg 0 (mCall (absD T5) [mVar 0])) (mSeq (mAsg 1 (mCall (absD T5) [mVar 1])) (mSeq (mWhile (fuelN 1) (mB (mBin (cmpD T5 .NotEq) (mVar 1) (mC (.int 0)))) lb__law_gcd_0) (mRet (mVar 0))))
noncomputable def m__law_gcd : Fn := mDef 3 b__law_gcd
theorem sc__law_gcd : FnScope ["_law_first", "_law_second", "_law_rest"] ["_law_first", "_law_second"] (defScope st__law_gcd) := ⟨rfl, rfl, rfl, by decide +kernel, rfl, by decide +kernel, by decide +kernel⟩
theorem ok__law_gcd {f : Addr} {fd : FuncData} {dvs : List V} {kws : List (Str × V)} (G : Gn K mg) (hT : T5.Ok P w K mg base 18) (F : FunD K "_law_gcd" "_law_gcd" (defArgs st__law_gcd) (defBody st__law_gcd) (defScope st__law_gcd) dvs kws f fd) : FnOk P w K mg base (L2.CX P w) 22 f fd ["_law_first", "_law_second"] (spM ⟨K, mg, tn, none⟩ 2 m__law_gcd) :=
  fn_mk (fl := ⟨tn, none⟩) (st := st__law_gcd) (N := ["_law_first", "_law_second", "_law_rest"]) (ps := ["_law_first", "_law_second"]) (qual := "_law_gcd") (k := 21) (body := b__law_gcd) F sc__law_gcd rfl fun cdv A outer s H E C0 => es_cons (es_set sc__law_gcd.nd rfl (Or.inl rfl) (ex_callB (bl_abs hT rfl C0 (by decide)) rfl G.f_abs (by kernel_rfl) (ea_cons (ex_var 0) ea_nil))) (es_cons (es_set sc__law_gcd.nd rfl (Or.inl rfl) (ex_callB (bl_abs hT rfl C0 (by decide)) rfl G.f_abs (by kernel_rfl) (ea_cons (ex_var 1) ea_nil))) (es_cons (es_while (fuelN 1) C0.po (et_cmp (bin_cmp hT rfl C0 (by decide)) (ex_var 1) (ex_int) (by rfl)) (es_cons (es_set sc__law_gcd.nd rfl (Or.inl rfl) (ex_bin (bin_op hT rfl C0 (by decide)) (ex_callTy bl_int rfl G.f_int (by kernel_rfl) (ea_cons (ex_var 0) ea_nil)) (ex_var 1))) (es_cons (es_set sc__law_gcd.nd rfl (Or.inl rfl) (ex_var 1)) (es_one (es_set sc__law_gcd.nd rfl (Or.inl rfl) (ex_var 2)))))) (es_one (es_ret (ex_var 0)))))
abbrev st__law_low : Stmt := top 11
noncomputable def b__law_low : MS := mSeq (mIfS (mB (mBin (cmpD T5 .Lt) (mVar 1) (mC (.int 0)))) (mSeq (mAsg 0 (mUn (negD T5) (mVar 0))) (mAsg 1 (mUn (negD T5) (mVar 1)))) (mNext)) (mSeq (mAsg 2 (mCall m__law_gcd [mVar 0, mVar 1])) (mRet (mTup [mBin (opD T5 .FloorDiv) (mVar 0) (mVar 2), mBin (opD T5 .FloorDiv) (mVar 1) (mVar 2)])))
noncomputable def m__law_low : Fn := mDef 3 b__law_low
theorem sc__law_low : FnScope ["_law_num", "_law_den", "_law_shared"] ["_law_num", "_law_den"] (defScope st__law_low) := ⟨rfl, rfl, rfl, by decide +kernel, rfl, by decide +kernel, by decide +kernel⟩
theorem ok__law_low {f : Addr} {fd : FuncData} {dvs : List V} {kws : List (Str × V)} (G : Gn K mg) (hT : T5.Ok P w K mg base 18) (D__law_gcd : DefOk P w K mg base tn 22 "_law_gcd" 2 m__law_gcd) (F : FunD K "_law_low" "_law_low" (defArgs st__law_low) (defBody st__law_low) (defScope st__law_low) dvs kws f fd) : FnOk P w K mg base (L2.CX P w) 23 f fd ["_law_num", "_law_den"] (spM ⟨K, mg, tn, none⟩ 2 m__law_low) :=
  fn_mk (fl := ⟨tn, none⟩) (st := st__law_low) (N := ["_law_num", "_law_den", "_law_shared"]) (ps := ["_law_num", "_law_den"]) (qual := "_law_low") (k := 22) (body := b__law_low) F sc__law_low rfl fun cdv A outer s H E C0 => es_cons (es_if (et_cmp (bin_cmp hT rfl C0 (by decide)) (ex_var 1) (ex_int) (by rfl)) (es_cons (es_set sc__law_low.nd rfl (Or.inl rfl) (ex_un (un_negD hT rfl C0 (by decide)) (ex_var 0))) (es_one (es_set sc__law_low.nd rfl (Or.inl rfl) (ex_un (un_negD hT rfl C0 (by decide)) (ex_var 1))))) (es_nil)) (es_cons (es_set sc__law_low.nd rfl (Or.inl rfl) (ex_call D__law_gcd C0 (by decide) rfl (ea_cons (ex_var 0) (ea_cons (ex_var 1) ea_nil)))) (es_one (es_ret (ex_tup (ea_cons (ex_bin (bin_op hT rfl C0 (by decide)) (ex_var 0) (ex_var 2)) (ea_cons (ex_bin (bin_op hT rfl C0 (by decide)) (ex_var 1) (ex_var 2)) ea_nil))))))
abbrev st__law_add : Stmt := top 12
noncomputable def b__law_add : MS := mSeq (mAsg 2 (mBin (opD T5 .Add) (mBin (opD T5 .Mult) (mBin ixD (mVar 0) (mC (.int 0))) (mBin ixD (mVar 1) (mC (.int 1)))) (mBin (opD T5 .Mult) (mBin ixD (mVar 1) (mC (.int 0))) (mBin ixD (mVar 0) (mC (.int 1)))))) (mRet (mCall m__law_low [mVar 2, mBin (opD T5 .Mult) (mBin ixD (mVar 0) (mC (.int 1))) (mBin ixD (mVar 1) (mC (.int 1)))]))
noncomputable def m__law_add : Fn := mDef 3 b__law_add
theorem sc__law_add : FnScope ["_law_first", "_law_second", "_law_num"] ["_law_first", "_law_second"] (defScope st__law_add) := ⟨rfl, rfl, rfl, by decide +kernel, rfl, by decide +kernel, by decide +kernel⟩
theorem ok__law_add {f : Addr} {fd : FuncData} {dvs : List V} {kws : List (Str × V)} (G : Gn K mg) (hT : T5.Ok P w K mg base 18) (D__law_low : DefOk P w K mg base tn 23 "_law_low" 2 m__law_low) (F : FunD K "_law_add" "_law_add" (defArgs st__law_add) (defBody st__law_add) (defScope st__law_add) dvs kws f fd) : FnOk P w K mg base (L2.CX P w) 24 f fd ["_law_first", "_law_second"] (spM ⟨K, mg, tn, none⟩ 2 m__law_add) :=
  fn_mk (fl := ⟨tn, none⟩) (st := st__law_add) (N := ["_law_first", "_law_second", "_law_num"]) (ps := ["_law_first", "_law_second"]) (qual := "_law_add") (k := 23) (body := b__law_add) F sc__law_add rfl fun cdv A outer s H E C0 => es_cons (es_set sc__law_add.nd rfl (Or.inl rfl) (ex_bin (bin_op hT rfl C0 (by decide)) (ex_bin (bin_op hT rfl C0 (by decide)) (ex_ix (ex_var 0) (ex_int)) (ex_ix (ex_var 1) (ex_int))) (ex_bin (bin_op hT rfl C0 (by decide)) (ex_ix (ex_var 1) (ex_int)) (ex_ix (ex_var 0) (ex_int))))) (es_one (es_ret (ex_call D__law_low C0 (by decide) rfl (ea_cons (ex_var 2) (ea_cons (ex_bin (bin_op hT rfl C0 (by decide)) (ex_ix (ex_var 0) (ex_int)) (ex_ix (ex_var 1) (ex_int))) ea_nil)))))
abbrev st__law_mul : Stmt := top 13
noncomputable def b__law_mul : MS := mRet (mCall m__law_low [mBin (opD T5 .Mult) (mBin ixD (mVar 0) (mC (.int 0))) (mBin ixD (mVar 1) (mC (.int 0))), mBin (opD T5 .Mult) (mBin ixD (mVar 0) (mC (.int 1))) (mBin ixD (mVar 1) (mC (.int 1)))])
noncomputable def m__law_mul : Fn := mDef 2 b__law_mul
theorem sc__law_mul : FnScope ["_law_first", "_law_second"] ["_law_first", "_law_second"] (defScope st__law_mul) := ⟨rfl, rfl, rfl, by decide +kernel, rfl, by decide +kernel, by decide +kernel⟩
theorem ok__law_mul {f : Addr} {fd : FuncData} {dvs : List V} {kws : List (Str × V)} (G : Gn K mg) (hT : T5.Ok P w K mg base 18) (D__law_low : DefOk P w K mg base tn 23 "_law_low" 2 m__law_low) (F : FunD K "_law_mul" "_law_mul" (defArgs st__law_mul) (defBody st__law_mul) (defScope st__law_mul) dvs kws f fd) : FnOk P w K mg base (L2.CX P w) 24 f fd ["_law_first", "_law_second"] (spM ⟨K, mg, tn, none⟩ 2 m__law_mul) :=
  fn_mk (fl := ⟨tn, none⟩) (st := st__law_mul) (N := ["_law_first", "_law_second"]) (ps := ["_law_first", "_law_second"]) (qual := "_law_mul") (k := 23) (body := b__law_mul) F sc__law_mul rfl fun cdv A outer s H E C0 => es_one (es_ret (ex_call D__law_low C0 (by decide) rfl (ea_cons (ex_bin (bin_op hT rfl C0 (by decide)) (ex_ix (ex_var 0) (ex_int)) (ex_ix (ex_var 1) (ex_int))) (ea_cons (ex_bin (bin_op hT rfl C0 (by decide)) (ex_ix (ex_var 0) (ex_int)) (ex_ix (ex_var 1) (ex_int))) ea_nil))))
abbrev st__law_floor : Stmt := top 14
noncomputable def b__law_floor : MS := mSeq (mAsg 2 (mBin (opD T5 .Mult) (mBin ixD (mVar 0) (mC (.int 0))) (mBin ixD (mVar 1) (mC (.int 1))))) (mSeq (mAsg 3 (mBin (opD T5 .Mult) (mBin ixD (mVar 0) (mC (.int 1))) (mBin ixD (mVar 1) (mC (.int 0))))) (mSeq (mIfS (mB (mBin (cmpD T5 .Lt) (mVar 3) (mC (.int 0)))) (mSeq (mAsg 2 (mUn (negD T5) (mVar 2))) (mAsg 3 (mUn (negD T5) (mVar 3)))) (mNext)) (mRet (mBin (opD T5 .FloorDiv) (mVar 2) (mVar 3)))))
noncomputable def m__law_floor : Fn := mDef 4 b__law_floor
theorem sc__law_floor : FnScope ["_law_first", "_law_second", "_law_num", "_law_den"] ["_law_first", "_law_second"] (defScope st__law_floor) := ⟨rfl, rfl, rfl, by decide +kernel, rfl, by decide +kernel, by decide +kernel⟩
theorem ok__law_floor {f : Addr} {fd : FuncData} {dvs : List V} {kws : List (Str × V)} (G : Gn K mg) (hT : T5.Ok P w K mg base 18) (F : FunD K "_law_floor" "_law_floor" (defArgs st__law_floor) (defBody st__law_floor) (defScope st__law_floor) dvs kws f fd) : FnOk P w K mg base (L2.CX P w) 22 f fd ["_law_first", "_law_second"] (spM ⟨K, mg, tn, none⟩ 2 m__law_floor) :=
  fn_mk (fl := ⟨tn, none⟩) (st := st__law_floor) (N := ["_law_first", "_law_second", "_law_num", "_law_den"]) (ps := ["_law_first", "_law_second"]) (qual := "_law_floor") (k := 21) (body := b__law_floor) F sc__law_floor rfl fun cdv A outer s H E C0 => es_cons (es_set sc__law_floor.nd rfl (Or.inl rfl) (ex_bin (bin_op hT rfl C0 (by decide)) (ex_ix (ex_var 0) (ex_int)) (ex_ix (ex_var 1) (ex_int)))) (es_cons (es_set sc__law_floor.nd rfl (Or.inl rfl) (ex_bin (bin_op hT rfl C0 (by decide)) (ex_ix (ex_var 0) (ex_int)) (ex_ix (ex_var 1) (ex_int)))) (es_cons (es_if (et_cmp (bin_cmp hT rfl C0 (by decide)) (ex_var 3) (ex_int) (by rfl)) (es_cons (es_set sc__law_floor.nd rfl (Or.inl rfl) (ex_un (un_negD hT rfl C0 (by decide)) (ex_var 2))) (es_one (es_set sc__law_floor.nd rfl (Or.inl rfl) (ex_un (un_negD hT rfl C0 (by decide)) (ex_var 3))))) (es_nil)) (es_one (es_ret (ex_bin (bin_op hT rfl C0 (by decide)) (ex_var 2) (ex_var 3))))))
abbrev st__law_great : Stmt := top 15
noncomputable def lb__law_great_0 : MS := mAsg 2 (mBin (opD T5 .Add) (mBin (opD T5 .Mult) (mVar 2) (mBin (opD T5 .Pow) (mC (.int 10)) (mC (.int 18)))) (mCall m__law_cell [mVar 0, mBin (opD T5 .Add) (mVar 1) (mVar 3)]))
noncomputable def b__law_great : MS := mSeq (mAsg 2 (mC (.int 0))) (mSeq (mFor (iRange1 (mC (.int 3))) (gNm 3) lb__law_great_0) (mRet (mVar 2)))
noncomputable def m__law_great : Fn := mDef 4 b__law_great
theorem sc__law_great : FnScope ["_law_script", "_law_k", "_law_great_here", "_law_j"] ["_law_script", "_law_k"] (defScope st__law_great) := ⟨rfl, rfl, rfl, by decide +kernel, rfl, by decide +kernel, by decide +kernel⟩
theorem ok__law_great {f : Addr} {fd : FuncData} {dvs : List V} {kws : List (Str × V)} (G : Gn K mg) (hT : T5.Ok P w K mg base 18) (D__law_cell : DefOk P w K mg base tn 22 "_law_cell" 2 m__law_cell) (F : FunD K "_law_great" "_law_great" (defArgs st__law_great) (defBody st__law_great) (defScope st__law_great) dvs kws f fd) : FnOk P w K mg base (L2.CX P w) 23 f fd ["_law_script", "_law_k"] (spM ⟨K, mg, tn, none⟩ 2 m__law_great) :=
  fn_mk (fl := ⟨tn, none⟩) (st := st__law_great) (N := ["_law_script", "_law_k", "_law_great_here", "_law_j"]) (ps := ["_law_script", "_law_k"]) (qual := "_law_great") (k := 22) (body := b__law_great) F sc__law_great rfl fun cdv A outer s H E C0 => es_cons (es_set sc__law_great.nd rfl (Or.inl rfl) (ex_int)) (es_cons (es_for C0.po C0.calm (ei_range1 rfl G.f_range (ea_cons (ex_int) ea_nil)) (eg_name sc__law_great.nd rfl (Or.inl rfl)) (plain_nm 3) (es_one (es_set sc__law_great.nd rfl (Or.inl rfl) (ex_bin (bin_op hT rfl C0 (by decide)) (ex_bin (bin_op hT rfl C0 (by decide)) (ex_var 2) (ex_bin (bin_op hT rfl C0 (by decide)) (ex_int) (ex_int))) (ex_call D__law_cell C0 (by decide) rfl (ea_cons (ex_var 0) (ea_cons (ex_bin (bin_op hT rfl C0 (by decide)) (ex_var 1) (ex_var 3)) ea_nil))))))) (es_one (es_ret (ex_var 2))))
abbrev st__law_numerator : Stmt := top 16
noncomputable def b__law_numerator : MS := mSeq (mAsg 2 (mCall m__law_cell [mVar 0, mVar 1])) (mSeq (mIfS (mB (mBin (cmpD T5 .Eq) (mBin (opD T5 .Mod) (mCall intD [mBin (opD T5 .FloorDiv) (mVar 2) (mC (.int 121))]) (mC (.int 8))) (mC (.int 7)))) (mRet (mBin (opD T5 .Sub) (mBin (opD T5 .Mod) (mCall intD [mCall m__law_great [mVar 0, mBin (opD T5 .Add) (mC (.int 7)) (mBin (opD T5 .Mult) (mC (.int 3)) (mVar 1))]]) (mBin (opD T5 .Add) (mBin (opD T5 .Mult) (mC (.int 2)) (mBin (opD T5 .Pow) (mC (.int 10)) (mC (.int 40)))) (mC (.int 1)))) (mBin (opD T5 .Pow) (mC (.int 10)) (mC (.int 40))))) (mNext)) (mRet (mBin (opD T5 .Sub) (mBin (opD T5 .Mod) (mCall intD [mVar 2]) (mC (.int 121))) (mC (.int 60)))))
noncomputable def m__law_numerator : Fn := mDef 3 b__law_numerator
theorem sc__law_numerator : FnScope ["_law_script", "_law_k", "_law_cell_here"] ["_law_script", "_law_k"] (defScope st__law_numerator) := ⟨rfl, rfl, rfl, by decide +kernel, rfl, by decide +kernel, by decide +kernel⟩
theorem ok__law_numerator {f : Addr} {fd : FuncData} {dvs : List V} {kws : List (Str × V)} (G : Gn K mg) (hT : T5.Ok P w K mg base 18) (D__law_cell : DefOk P w K mg base tn 22 "_law_cell" 2 m__law_cell) (D__law_great : DefOk P w K mg base tn 23 "_law_great" 2 m__law_great) (F : FunD K "_law_numerator" "_law_numerator" (defArgs st__law_numerator) (defBody st__law_numerator) (defScope st__law_numerator) dvs kws f fd) : FnOk P w K mg base (L2.CX P w) 24 f fd ["_law_script", "_law_k"] (spM ⟨K, mg, tn, none⟩ 2 m__law_numerator) :=
  fn_mk (fl := ⟨tn, none⟩) (st := st__law_numerator) (N := ["_law_script", "_law_k", "_law_cell_here"]) (ps := ["_law_script", "_law_k"]) (qual := "_law_numerator") (k := 23) (body := b__law_numerator) F sc__law_numerator rfl fun cdv A outer s H E C0 => es_cons (es_set sc__law_numerator.nd rfl (Or.inl rfl) (ex_call D__law_cell C0 (by decide) rfl (ea_cons (ex_var 0) (ea_cons (ex_var 1) ea_nil)))) (es_cons (es_if (et_cmp (bin_cmp hT rfl C0 (by decide)) (ex_bin (bin_op hT rfl C0 (by decide)) (ex_callTy bl_int rfl G.f_int (by kernel_rfl) (ea_cons (ex_bin (bin_op hT rfl C0 (by decide)) (ex_var 2) (ex_int)) ea_nil)) (ex_int)) (ex_int) (by rfl)) (es_one (es_ret (ex_bin (bin_op hT rfl C0 (by decide)) (ex_bin (bin_op hT rfl C0 (by decide)) (ex_callTy bl_int rfl G.f_int (by kernel_rfl) (ea_cons (ex_call D__law_great C0 (by decide) rfl (ea_cons (ex_var 0) (ea_cons (ex_bin (bin_op hT rfl C0 (by decide)) (ex_int) (ex_bin (bin_op hT rfl C0 (by decide)) (ex_int) (ex_var 1))) ea_nil))) ea_nil)) (ex_bin (bin_op hT rfl C0 (by decide)) (ex_bin (bin_op hT rfl C0 (by decide)) (ex_int) (ex_bin (bin_op hT rfl C0 (by decide)) (ex_int) (ex_int))) (ex_int))) (ex_bin (bin_op hT rfl C0 (by decide)) (ex_int) (ex_int))))) (es_nil)) (es_one (es_ret (ex_bin (bin_op hT rfl C0 (by decide)) (ex_bin (bin_op hT rfl C0 (by decide)) (ex_callTy bl_int rfl G.f_int (by kernel_rfl) (ea_cons (ex_var 2) ea_nil)) (ex_int)) (ex_int)))))
abbrev st__law_denominator : Stmt := top 17
noncomputable def b__law_denominator : MS := mSeq (mAsg 2 (mCall m__law_cell [mVar 0, mVar 1])) (mSeq (mIfS (mB (mBin (cmpD T5 .Eq) (mBin (opD T5 .Mod) (mCall intD [mBin (opD T5 .FloorDiv) (mVar 2) (mC (.int 12))]) (mC (.int 8))) (mC (.int 7)))) (mRet (mBin (opD T5 .Add) (mBin (opD T5 .Mod) (mCall intD [mCall m__law_great [mVar 0, mBin (opD T5 .Add) (mC (.int 7)) (mBin (opD T5 .Mult) (mC (.int 3)) (mVar 1))]]) (mBin (opD T5 .Pow) (mC (.int 10)) (mC (.int 40)))) (mC (.int 1)))) (mNext)) (mRet (mBin (opD T5 .Add) (mBin (opD T5 .Mod) (mCall intD [mVar 2]) (mC (.int 12))) (mC (.int 1)))))
noncomputable def m__law_denominator : Fn := mDef 3 b__law_denominator
theorem sc__law_denominator : FnScope ["_law_script", "_law_k", "_law_cell_here"] ["_law_script", "_law_k"] (defScope st__law_denominator) := ⟨rfl, rfl, rfl, by decide +kernel, rfl, by decide +kernel, by decide +kernel⟩
theorem ok__law_denominator {f : Addr} {fd : FuncData} {dvs : List V} {kws : List (Str × V)} (G : Gn K mg) (hT : T5.Ok P w K mg base 18) (D__law_cell : DefOk P w K mg base tn 22 "_law_cell" 2 m__law_cell) (D__law_great : DefOk P w K mg base tn 23 "_law_great" 2 m__law_great) (F : FunD K "_law_denominator" "_law_denominator" (defArgs st__law_denominator) (defBody st__law_denominator) (defScope st__law_denominator) dvs kws f fd) : FnOk P w K mg base (L2.CX P w) 24 f fd ["_law_script", "_law_k"] (spM ⟨K, mg, tn, none⟩ 2 m__law_denominator) :=
  fn_mk (fl := ⟨tn, none⟩) (st := st__law_denominator) (N := ["_law_script", "_law_k", "_law_cell_here"]) (ps := ["_law_script", "_law_k"]) (qual := "_law_denominator") (k := 23) (body := b__law_denominator) F sc__law_denominator rfl fun cdv A outer s H E C0 => es_cons (es_set sc__law_denominator.nd rfl (Or.inl rfl) (ex_call D__law_cell C0 (by decide) rfl (ea_cons (ex_var 0) (ea_cons (ex_var 1) ea_nil)))) (es_cons (es_if (et_cmp (bin_cmp hT rfl C0 (by decide)) (ex_bin (bin_op hT rfl C0 (by decide)) (ex_callTy bl_int rfl G.f_int (by kernel_rfl) (ea_cons (ex_bin (bin_op hT rfl C0 (by decide)) (ex_var 2) (ex_int)) ea_nil)) (ex_int)) (ex_int) (by rfl)) (es_one (es_ret (ex_bin (bin_op hT rfl C0 (by decide)) (ex_bin (bin_op hT rfl C0 (by decide)) (ex_callTy bl_int rfl G.f_int (by kernel_rfl) (ea_cons (ex_call D__law_great C0 (by decide) rfl (ea_cons (ex_var 0) (ea_cons (ex_bin (bin_op hT rfl C0 (by decide)) (ex_int) (ex_bin (bin_op hT rfl C0 (by decide)) (ex_int) (ex_var 1))) ea_nil))) ea_nil)) (ex_bin (bin_op hT rfl C0 (by decide)) (ex_int) (ex_int))) (ex_int)))) (es_nil)) (es_one (es_ret (ex_bin (bin_op hT rfl C0 (by decide)) (ex_bin (bin_op hT rfl C0 (by decide)) (ex_callTy bl_int rfl G.f_int (by kernel_rfl) (ea_cons (ex_var 2) ea_nil)) (ex_int)) (ex_int)))))
abbrev st__law_made : Stmt := top 18
noncomputable def b__law_made : MS := mSeq (mAsg 2 (mBin ixD (mLst [mC (.int 1), mC (.int 2), mC (.int 3), mUn (negD T5) (mC (.int 1)), mUn (negD T5) (mC (.int 2)), mUn (negD T5) (mC (.int 3))]) (mBin (opD T5 .Mod) (mCall intD [mVar 1]) (mC (.int 6))))) (mSeq (mIfS (mOr (mB (mBin (cmpD T5 .Gt) (mCall (absD T5) [mBin ixD (mVar 0) (mC (.int 0))]) (mBin (opD T5 .Pow) (mC (.int 10)) (mC (.int 11))))) (mB (mBin (cmpD T5 .Gt) (mBin ixD (mVar 0) (mC (.int 1))) (mBin (opD T5 .Pow) (mC (.int 10)) (mC (.int 11)))))) (mAsg 2 (mBin ixD (mLst [mC (.int 1), mUn (negD T5) (mC (.int 1))]) (mBin (opD T5 .Mod) (mCall intD [mVar 1]) (mC (.int 2))))) (mNext)) (mRet (mNew T5 n_Frac [mBin (opD T5 .Mult) (mBin ixD (mVar 0) (mC (.int 0))) (mVar 2), mBin (opD T5 .Mult) (mBin ixD (mVar 0) (mC (.int 1))) (mVar 2)])))
noncomputable def m__law_made : Fn := mDef 3 b__law_made
theorem sc__law_made : FnScope ["_law_value", "_law_cell_here", "_law_factor"] ["_law_value", "_law_cell_here"] (defScope st__law_made) := ⟨rfl, rfl, rfl, by decide +kernel, rfl, by decide +kernel, by decide +kernel⟩
theorem ok__law_made {f : Addr} {fd : FuncData} {dvs : List V} {kws : List (Str × V)} (G : Gn K mg) (hT : T5.Ok P w K mg base 18) (F : FunD K "_law_made" "_law_made" (defArgs st__law_made) (defBody st__law_made) (defScope st__law_made) dvs kws f fd) : FnOk P w K mg base (L2.CX P w) 22 f fd ["_law_value", "_law_cell_here"] (spM ⟨K, mg, tn, none⟩ 2 m__law_made) :=
  fn_mk (fl := ⟨tn, none⟩) (st := st__law_made) (N := ["_law_value", "_law_cell_here", "_law_factor"]) (ps := ["_law_value", "_law_cell_here"]) (qual := "_law_made") (k := 21) (body := b__law_made) F sc__law_made rfl fun cdv A outer s H E C0 => es_cons (es_set sc__law_made.nd rfl (Or.inl rfl) (ex_ix (ex_lst (ea_cons (ex_int) (ea_cons (ex_int) (ea_cons (ex_int) (ea_cons (ex_un (un_negD hT rfl C0 (by decide)) (ex_int)) (ea_cons (ex_un (un_negD hT rfl C0 (by decide)) (ex_int)) (ea_cons (ex_un (un_negD hT rfl C0 (by decide)) (ex_int)) ea_nil))))))) (ex_bin (bin_op hT rfl C0 (by decide)) (ex_callTy bl_int rfl G.f_int (by kernel_rfl) (ea_cons (ex_var 1) ea_nil)) (ex_int)))) (es_cons (es_if (EW.et (ew_or (et_cmp (bin_cmp hT rfl C0 (by decide)) (ex_callB (bl_abs hT rfl C0 (by decide)) rfl G.f_abs (by kernel_rfl) (ea_cons (ex_ix (ex_var 0) (ex_int)) ea_nil)) (ex_bin (bin_op hT rfl C0 (by decide)) (ex_int) (ex_int)) (by rfl)) (ew_or1 (et_cmp (bin_cmp hT rfl C0 (by decide)) (ex_ix (ex_var 0) (ex_int)) (ex_bin (bin_op hT rfl C0 (by decide)) (ex_int) (ex_int)) (by rfl))))) (es_one (es_set sc__law_made.nd rfl (Or.inl rfl) (ex_ix (ex_lst (ea_cons (ex_int) (ea_cons (ex_un (un_negD hT rfl C0 (by decide)) (ex_int)) ea_nil))) (ex_bin (bin_op hT rfl C0 (by decide)) (ex_callTy bl_int rfl G.f_int (by kernel_rfl) (ea_cons (ex_var 1) ea_nil)) (ex_int))))) (es_nil)) (es_one (es_ret (ex_new n_Frac rfl hT rfl C0 (by decide) rfl rfl (ea_cons (ex_bin (bin_op hT rfl C0 (by decide)) (ex_ix (ex_var 0) (ex_int)) (ex_var 2)) (ea_cons (ex_bin (bin_op hT rfl C0 (by decide)) (ex_ix (ex_var 0) (ex_int)) (ex_var 2)) ea_nil))))))
abbrev st__law_integer : Stmt := top 19
noncomputable def b__law_integer : MS := mRet (mAndV (mCall (isiD T5) [mVar 0, mC (.ty "int")]) (mAndV (mUn notD (mCall (isiD T5) [mVar 0, mC (.ty "bool")])) (mBin (cmpD T5 .Eq) (mVar 0) (mVar 1))))
noncomputable def m__law_integer : Fn := mDef 2 b__law_integer
theorem sc__law_integer : FnScope ["_law_told", "_law_due"] ["_law_told", "_law_due"] (defScope st__law_integer) := ⟨rfl, rfl, rfl, by decide +kernel, rfl, by decide +kernel, by decide +kernel⟩
theorem ok__law_integer {f : Addr} {fd : FuncData} {dvs : List V} {kws : List (Str × V)} (G : Gn K mg) (hT : T5.Ok P w K mg base 18) (F : FunD K "_law_integer" "_law_integer" (defArgs st__law_integer) (defBody st__law_integer) (defScope st__law_integer) dvs kws f fd) : FnOk P w K mg base (L2.CX P w) 22 f fd ["_law_told", "_law_due"] (spM ⟨K, mg, tn, none⟩ 2 m__law_integer) :=
  fn_mk (fl := ⟨tn, none⟩) (st := st__law_integer) (N := ["_law_told", "_law_due"]) (ps := ["_law_told", "_law_due"]) (qual := "_law_integer") (k := 21) (body := b__law_integer) F sc__law_integer rfl fun cdv A outer s H E C0 => es_one (es_ret (ex_and (ex_callB (bl_isi hT rfl) rfl G.f_isinstance (by kernel_rfl) (ea_cons (ex_var 0) (ea_cons (ex_ty rfl G.f_int (by kernel_rfl)) ea_nil))) (ex_and (ex_notv (ex_callB (bl_isi hT rfl) rfl G.f_isinstance (by kernel_rfl) (ea_cons (ex_var 0) (ea_cons (ex_ty rfl G.f_bool (by kernel_rfl)) ea_nil)))) (ex_one (ex_cmp (bin_cmp hT rfl C0 (by decide)) (ex_var 0) (ex_var 1) (by rfl))))))
abbrev st__law_truth : Stmt := top 20
noncomputable def b__law_truth : MS := mRet (mAndV (mCall (isiD T5) [mVar 0, mC (.ty "bool")]) (mBin (cmpD T5 .Eq) (mVar 0) (mVar 1)))
noncomputable def m__law_truth : Fn := mDef 2 b__law_truth
theorem sc__law_truth : FnScope ["_law_told", "_law_due"] ["_law_told", "_law_due"] (defScope st__law_truth) := ⟨rfl, rfl, rfl, by decide +kernel, rfl, by decide +kernel, by decide +kernel⟩
theorem ok__law_truth {f : Addr} {fd : FuncData} {dvs : List V} {kws : List (Str × V)} (G : Gn K mg) (hT : T5.Ok P w K mg base 18) (F : FunD K "_law_truth" "_law_truth" (defArgs st__law_truth) (defBody st__law_truth) (defScope st__law_truth) dvs kws f fd) : FnOk P w K mg base (L2.CX P w) 22 f fd ["_law_told", "_law_due"] (spM ⟨K, mg, tn, none⟩ 2 m__law_truth) :=
  fn_mk (fl := ⟨tn, none⟩) (st := st__law_truth) (N := ["_law_told", "_law_due"]) (ps := ["_law_told", "_law_due"]) (qual := "_law_truth") (k := 21) (body := b__law_truth) F sc__law_truth rfl fun cdv A outer s H E C0 => es_one (es_ret (ex_and (ex_callB (bl_isi hT rfl) rfl G.f_isinstance (by kernel_rfl) (ea_cons (ex_var 0) (ea_cons (ex_ty rfl G.f_bool (by kernel_rfl)) ea_nil))) (ex_one (ex_cmp (bin_cmp hT rfl C0 (by decide)) (ex_var 0) (ex_var 1) (by rfl)))))
abbrev st__law_is : Stmt := top 21
noncomputable def b__law_is : MS := mSeq (mIfS (mNot (mTru (mCall (isiD T5) [mVar 0, mC (.glob n_Frac)]))) (mRet (mC (.bl false))) (mNext)) (mRet (mAndV (mCall m__law_integer [mAttr T5 n_num (mVar 0), mBin ixD (mVar 1) (mC (.int 0))]) (mCall m__law_integer [mAttr T5 n_den (mVar 0), mBin ixD (mVar 1) (mC (.int 1))])))
noncomputable def m__law_is : Fn := mDef 2 b__law_is
theorem sc__law_is : FnScope ["_law_told", "_law_due"] ["_law_told", "_law_due"] (defScope st__law_is) := ⟨rfl, rfl, rfl, by decide +kernel, rfl, by decide +kernel, by decide +kernel⟩
theorem ok__law_is {f : Addr} {fd : FuncData} {dvs : List V} {kws : List (Str × V)} (G : Gn K mg) (hT : T5.Ok P w K mg base 18) (D__law_integer : DefOk P w K mg base tn 22 "_law_integer" 2 m__law_integer) (F : FunD K "_law_is" "_law_is" (defArgs st__law_is) (defBody st__law_is) (defScope st__law_is) dvs kws f fd) : FnOk P w K mg base (L2.CX P w) 23 f fd ["_law_told", "_law_due"] (spM ⟨K, mg, tn, none⟩ 2 m__law_is) :=
  fn_mk (fl := ⟨tn, none⟩) (st := st__law_is) (N := ["_law_told", "_law_due"]) (ps := ["_law_told", "_law_due"]) (qual := "_law_is") (k := 22) (body := b__law_is) F sc__law_is rfl fun cdv A outer s H E C0 => es_cons (es_if (et_not (et_val (ex_callB (bl_isi hT rfl) rfl G.f_isinstance (by kernel_rfl) (ea_cons (ex_var 0) (ea_cons (ex_glob n_Frac rfl rfl G.g_Frac) ea_nil))))) (es_one (es_ret (ex_bl))) (es_nil)) (es_one (es_ret (ex_and (ex_call D__law_integer C0 (by decide) rfl (ea_cons (ex_attr n_num rfl hT rfl C0 (by decide) (ex_var 0)) (ea_cons (ex_ix (ex_var 1) (ex_int)) ea_nil))) (ex_one (ex_call D__law_integer C0 (by decide) rfl (ea_cons (ex_attr n_den rfl hT rfl C0 (by decide) (ex_var 0)) (ea_cons (ex_ix (ex_var 1) (ex_int)) ea_nil)))))))
abbrev st__law_refused : Stmt := top 22
noncomputable def b__law_refused : MS := mSeq (mAsg 3 (mC .non)) (mSeq (mTryAs T5 4 (.c n_BestError) (mIfS (mB (mBin (cmpD T5 .Eq) (mVar 2) (mC (.int 0)))) (mAsg 3 (mBin (opD T5 .FloorDiv) (mVar 0) (mVar 1))) (mIfS (mB (mBin (cmpD T5 .Eq) (mVar 2) (mC (.int 1)))) (mAsg 3 (mBin (opD T5 .Mod) (mVar 0) (mVar 1))) (mIfS (mB (mBin (cmpD T5 .Eq) (mVar 2) (mC (.int 2)))) (mAsg 3 (mMeth T5 n_over (mVar 0) [mVar 1])) (mAsg 3 (mNew T5 n_Frac [mVar 0, mVar 1]))))) (mSeq (mIfS (mOr (mNot (mTru (mCall (isiX T5) [mVar 4, mC (.glob n_DivisionByZero)]))) (mTru (mCall (isiX T5) [mVar 4, mC (.glob n_BadNumber)]))) (mRet (mC (.bl false))) (mNext)) (mRet (mAndV (mCall (isiX T5) [mVar 4, mC (.ty "ValueError")]) (mBin isND (mVar 3) (mC .non)))))) (mRet (mC (.bl false))))
noncomputable def m__law_refused : Fn := mDef 5 b__law_refused
theorem sc__law_refused : FnScope ["_law_left", "_law_right", "_law_way", "_law_told", "e"] ["_law_left", "_law_right", "_law_way"] (defScope st__law_refused) := ⟨rfl, rfl, rfl, by decide +kernel, rfl, by decide +kernel, by decide +kernel⟩
theorem ok__law_refused {f : Addr} {fd : FuncData} {dvs : List V} {kws : List (Str × V)} (G : Gn K mg) (hT : T5.Ok P w K mg base 18) (F : FunD K "_law_refused" "_law_refused" (defArgs st__law_refused) (defBody st__law_refused) (defScope st__law_refused) dvs kws f fd) : FnOk P w K mg base (L2.CX P w) 22 f fd ["_law_left", "_law_right", "_law_way"] (spM ⟨K, mg, tn, none⟩ 3 m__law_refused) :=
  fn_mk (fl := ⟨tn, none⟩) (st := st__law_refused) (N := ["_law_left", "_law_right", "_law_way", "_law_told", "e"]) (ps := ["_law_left", "_law_right", "_law_way"]) (qual := "_law_refused") (k := 21) (body := b__law_refused) F sc__law_refused rfl fun cdv A outer s H E C0 => es_cons (es_set sc__law_refused.nd rfl (Or.inl rfl) (ex_non)) (es_cons (es_try_as 4 (.c n_BestError) hT rfl C0 sc__law_refused.nd rfl rfl ⟨rfl, by decide, .inl G.g_BestError⟩ (.c n_BestError _ G.g_BestError) (fun W pn xe C1 => es_one (es_if (et_cmp (bin_cmp hT rfl C1 (by decide)) (ex_var 2) (ex_int) (by rfl)) (es_one (es_set sc__law_refused.nd rfl (Or.inl rfl) (ex_bin (bin_op hT rfl C1 (by decide)) (ex_var 0) (ex_var 1)))) (es_one (es_if (et_cmp (bin_cmp hT rfl C1 (by decide)) (ex_var 2) (ex_int) (by rfl)) (es_one (es_set sc__law_refused.nd rfl (Or.inl rfl) (ex_bin (bin_op hT rfl C1 (by decide)) (ex_var 0) (ex_var 1)))) (es_one (es_if (et_cmp (bin_cmp hT rfl C1 (by decide)) (ex_var 2) (ex_int) (by rfl)) (es_one (es_set sc__law_refused.nd rfl (Or.inl rfl) (ex_meth n_over rfl hT rfl C1 (by decide) (ex_var 0) (ea_cons (ex_var 1) ea_nil)))) (es_one (es_set sc__law_refused.nd rfl (Or.inl rfl) (ex_new n_Frac rfl hT rfl C1 (by decide) rfl rfl (ea_cons (ex_var 0) (ea_cons (ex_var 1) ea_nil))))))))))) (fun a C oe d pn hz hf => es_cons (es_if (EW.et (ew_or (et_not (et_val (ex_callB (bl_isiX hT rfl hz hf) rfl G.f_isinstance (by kernel_rfl) (ea_cons (ex_var 4) (ea_cons (ex_glob n_DivisionByZero rfl rfl G.g_DivisionByZero) ea_nil))))) (ew_or1 (et_val (ex_callB (bl_isiX hT rfl hz hf) rfl G.f_isinstance (by kernel_rfl) (ea_cons (ex_var 4) (ea_cons (ex_glob n_BadNumber rfl rfl G.g_BadNumber) ea_nil))))))) (es_one (es_ret (ex_bl))) (es_nil)) (es_one (es_ret (ex_and (ex_callB (bl_isiX hT rfl hz hf) rfl G.f_isinstance (by kernel_rfl) (ea_cons (ex_var 4) (ea_cons (ex_ty rfl G.f_ValueError (by kernel_rfl)) ea_nil))) (ex_one (ex_cmp bin_is (ex_var 3) (ex_non) (by rfl)))))))) (es_one (es_ret (ex_bl))))
abbrev st__law_operators : Stmt := top 23
noncomputable def b__law_operators : MS := mSeq (mIfS (mNot (mTru (mCall m__law_is [mBin (opD T5 .Add) (mVar 0) (mVar 1), mCall m__law_add [mVar 2, mVar 3]]))) (mRet (mC (.bl false))) (mNext)) (mSeq (mIfS (mNot (mTru (mCall m__law_is [mBin (opD T5 .Sub) (mVar 0) (mVar 1), mCall m__law_add [mVar 2, mTup [mUn (negD T5) (mBin ixD (mVar 3) (mC (.int 0))), mBin ixD (mVar 3) (mC (.int 1))]]]))) (mRet (mC (.bl false))) (mNext)) (mSeq (mIfS (mNot (mTru (mCall m__law_is [mBin (opD T5 .Mult) (mVar 0) (mVar 1), mCall m__law_mul [mVar 2, mVar 3]]))) (mRet (mC (.bl false))) (mNext)) (mSeq (mIfS (mB (mBin (cmpD T5 .Eq) (mBin ixD (mVar 3) (mC (.int 0))) (mC (.int 0)))) (mRet (mAndV (mCall m__law_refused [mVar 0, mVar 1, mC (.int 0)]) (mCall m__law_refused [mVar 0, mVar 1, mC (.int 1)]))) (mNext)) (mSeq (mAsg 4 (mCall m__law_floor [mVar 2, mVar 3])) (mSeq (mIfS (mNot (mTru (mCall m__law_integer [mBin (opD T5 .FloorDiv) (mVar 0) (mVar 1), mVar 4]))) (mRet (mC (.bl false))) (mNext)) (mRet (mCall m__law_is [mBin (opD T5 .Mod) (mVar 0) (mVar 1), mCall m__law_add [mVar 2, mCall m__law_mul [mTup [mUn (negD T5) (mVar 4), mC (.int 1)], mVar 3]]])))))))
noncomputable def m__law_operators : Fn := mDef 5 b__law_operators
theorem sc__law_operators : FnScope ["_law_left", "_law_right", "_law_first", "_law_second", "_law_times"] ["_law_left", "_law_right", "_law_first", "_law_second"] (defScope st__law_operators) := ⟨rfl, rfl, rfl, by decide +kernel, rfl, by decide +kernel, by decide +kernel⟩
theorem ok__law_operators {f : Addr} {fd : FuncData} {dvs : List V} {kws : List (Str × V)} (G : Gn K mg) (hT : T5.Ok P w K mg base 18) (D__law_add : DefOk P w K mg base tn 24 "_law_add" 2 m__law_add) (D__law_is : DefOk P w K mg base tn 23 "_law_is" 2 m__law_is) (D__law_mul : DefOk P w K mg base tn 24 "_law_mul" 2 m__law_mul) (D__law_refused : DefOk P w K mg base tn 22 "_law_refused" 3 m__law_refused) (D__law_floor : DefOk P w K mg base tn 22 "_law_floor" 2 m__law_floor) (D__law_integer : DefOk P w K mg base tn 22 "_law_integer" 2 m__law_integer) (F : FunD K "_law_operators" "_law_operators" (defArgs st__law_operators) (defBody st__law_operators) (defScope st__law_operators) dvs kws f fd) : FnOk P w K mg base (L2.CX P w) 25 f fd ["_law_left", "_law_right", "_law_first", "_law_second"] (spM ⟨K, mg, tn, none⟩ 4 m__law_operators) :=
  fn_mk (fl := ⟨tn, none⟩) (st := st__law_operators) (N := ["_law_left", "_law_right", "_law_first", "_law_second", "_law_times"]) (ps := ["_law_left", "_law_right", "_law_first", "_law_second"]) (qual := "_law_operators") (k := 24) (body := b__law_operators) F sc__law_operators rfl fun cdv A outer s H E C0 => es_cons (es_if (et_not (et_val (ex_call D__law_is C0 (by decide) rfl (ea_cons (ex_bin (bin_op hT rfl C0 (by decide)) (ex_var 0) (ex_var 1)) (ea_cons (ex_call D__law_add C0 (by decide) rfl (ea_cons (ex_var 2) (ea_cons (ex_var 3) ea_nil))) ea_nil))))) (es_one (es_ret (ex_bl))) (es_nil)) (es_cons (es_if (et_not (et_val (ex_call D__law_is C0 (by decide) rfl (ea_cons (ex_bin (bin_op hT rfl C0 (by decide)) (ex_var 0) (ex_var 1)) (ea_cons (ex_call D__law_add C0 (by decide) rfl (ea_cons (ex_var 2) (ea_cons (ex_tup (ea_cons (ex_un (un_negD hT rfl C0 (by decide)) (ex_ix (ex_var 3) (ex_int))) (ea_cons (ex_ix (ex_var 3) (ex_int)) ea_nil))) ea_nil))) ea_nil))))) (es_one (es_ret (ex_bl))) (es_nil)) (es_cons (es_if (et_not (et_val (ex_call D__law_is C0 (by decide) rfl (ea_cons (ex_bin (bin_op hT rfl C0 (by decide)) (ex_var 0) (ex_var 1)) (ea_cons (ex_call D__law_mul C0 (by decide) rfl (ea_cons (ex_var 2) (ea_cons (ex_var 3) ea_nil))) ea_nil))))) (es_one (es_ret (ex_bl))) (es_nil)) (es_cons (es_if (et_cmp (bin_cmp hT rfl C0 (by decide)) (ex_ix (ex_var 3) (ex_int)) (ex_int) (by rfl)) (es_one (es_ret (ex_and (ex_call D__law_refused C0 (by decide) rfl (ea_cons (ex_var 0) (ea_cons (ex_var 1) (ea_cons (ex_int) ea_nil)))) (ex_one (ex_call D__law_refused C0 (by decide) rfl (ea_cons (ex_var 0) (ea_cons (ex_var 1) (ea_cons (ex_int) ea_nil)))))))) (es_nil)) (es_cons (es_set sc__law_operators.nd rfl (Or.inl rfl) (ex_call D__law_floor C0 (by decide) rfl (ea_cons (ex_var 2) (ea_cons (ex_var 3) ea_nil)))) (es_cons (es_if (et_not (et_val (ex_call D__law_integer C0 (by decide) rfl (ea_cons (ex_bin (bin_op hT rfl C0 (by decide)) (ex_var 0) (ex_var 1)) (ea_cons (ex_var 4) ea_nil))))) (es_one (es_ret (ex_bl))) (es_nil)) (es_one (es_ret (ex_call D__law_is C0 (by decide) rfl (ea_cons (ex_bin (bin_op hT rfl C0 (by decide)) (ex_var 0) (ex_var 1)) (ea_cons (ex_call D__law_add C0 (by decide) rfl (ea_cons (ex_var 2) (ea_cons (ex_call D__law_mul C0 (by decide) rfl (ea_cons (ex_tup (ea_cons (ex_un (un_negD hT rfl C0 (by decide)) (ex_var 4)) (ea_cons (ex_int) ea_nil))) (ea_cons (ex_var 3) ea_nil))) ea_nil))) ea_nil))))))))))
abbrev st__law_over : Stmt := top 24
noncomputable def b__law_over : MS := mSeq (mIfS (mB (mBin (cmpD T5 .Eq) (mBin ixD (mVar 3) (mC (.int 0))) (mC (.int 0)))) (mRet (mCall m__law_refused [mVar 0, mVar 1, mC (.int 2)])) (mNext)) (mSeq (mAsg 4 (mCall m__law_low [mBin (opD T5 .Mult) (mBin ixD (mVar 2) (mC (.int 0))) (mBin ixD (mVar 3) (mC (.int 1))), mBin (opD T5 .Mult) (mBin ixD (mVar 2) (mC (.int 1))) (mBin ixD (mVar 3) (mC (.int 0)))])) (mRet (mCall m__law_is [mMeth T5 n_over (mVar 0) [mVar 1], mVar 4])))
noncomputable def m__law_over : Fn := mDef 5 b__law_over
theorem sc__law_over : FnScope ["_law_left", "_law_right", "_law_first", "_law_second", "_law_due"] ["_law_left", "_law_right", "_law_first", "_law_second"] (defScope st__law_over) := ⟨rfl, rfl, rfl, by decide +kernel, rfl, by decide +kernel, by decide +kernel⟩
theorem ok__law_over {f : Addr} {fd : FuncData} {dvs : List V} {kws : List (Str × V)} (G : Gn K mg) (hT : T5.Ok P w K mg base 18) (D__law_refused : DefOk P w K mg base tn 22 "_law_refused" 3 m__law_refused) (D__law_low : DefOk P w K mg base tn 23 "_law_low" 2 m__law_low) (D__law_is : DefOk P w K mg base tn 23 "_law_is" 2 m__law_is) (F : FunD K "_law_over" "_law_over" (defArgs st__law_over) (defBody st__law_over) (defScope st__law_over) dvs kws f fd) : FnOk P w K mg base (L2.CX P w) 24 f fd ["_law_left", "_law_right", "_law_first", "_law_second"] (spM ⟨K, mg, tn, none⟩ 4 m__law_over) :=
  fn_mk (fl := ⟨tn, none⟩) (st := st__law_over) (N := ["_law_left", "_law_right", "_law_first", "_law_second", "_law_due"]) (ps := ["_law_left", "_law_right", "_law_first", "_law_second"]) (qual := "_law_over") (k := 23) (body := b__law_over) F sc__law_over rfl fun cdv A outer s H E C0 => es_cons (es_if (et_cmp (bin_cmp hT rfl C0 (by decide)) (ex_ix (ex_var 3) (ex_int)) (ex_int) (by rfl)) (es_one (es_ret (ex_call D__law_refused C0 (by decide) rfl (ea_cons (ex_var 0) (ea_cons (ex_var 1) (ea_cons (ex_int) ea_nil)))))) (es_nil)) (es_cons (es_set sc__law_over.nd rfl (Or.inl rfl) (ex_call D__law_low C0 (by decide) rfl (ea_cons (ex_bin (bin_op hT rfl C0 (by decide)) (ex_ix (ex_var 2) (ex_int)) (ex_ix (ex_var 3) (ex_int))) (ea_cons (ex_bin (bin_op hT rfl C0 (by decide)) (ex_ix (ex_var 2) (ex_int)) (ex_ix (ex_var 3) (ex_int))) ea_nil)))) (es_one (es_ret (ex_call D__law_is C0 (by decide) rfl (ea_cons (ex_meth n_over rfl hT rfl C0 (by decide) (ex_var 0) (ea_cons (ex_var 1) ea_nil)) (ea_cons (ex_var 4) ea_nil))))))
abbrev st__law_orders : Stmt := top 25
noncomputable def lb__law_orders_0 : MS := mIfS (mNot (mTru (mCall m__law_truth [mBin ixD (mVar 7) (mVar 8), mBin ixD (mVar 6) (mVar 8)]))) (mRet (mC (.bl false))) (mNext)
noncomputable def b__law_orders : MS := mSeq (mAsg 4 (mBin (cmpD T5 .Lt) (mBin (opD T5 .Mult) (mBin ixD (mVar 2) (mC (.int 0))) (mBin ixD (mVar 3) (mC (.int 1)))) (mBin (opD T5 .Mult) (mBin ixD (mVar 3) (mC (.int 0))) (mBin ixD (mVar 2) (mC (.int 1)))))) (mSeq (mAsg 5 (mBin (cmpD T5 .Eq) (mBin (opD T5 .Mult) (mBin ixD (mVar 2) (mC (.int 0))) (mBin ixD (mVar 3) (mC (.int 1)))) (mBin (opD T5 .Mult) (mBin ixD (mVar 3) (mC (.int 0))) (mBin ixD (mVar 2) (mC (.int 1)))))) (mSeq (mAsg 6 (mLst [mVar 5, mUn notD (mVar 5), mVar 4, mOrV (mVar 4) (mVar 5)])) (mSeq (mAsg 6 (mBin (opD T5 .Add) (mVar 6) (mLst [mAndV (mUn notD (mVar 4)) (mUn notD (mVar 5)), mUn notD (mVar 4)]))) (mSeq (mAsg 7 (mLst [mBin (cmpD T5 .Eq) (mVar 0) (mVar 1), mBin (cmpD T5 .NotEq) (mVar 0) (mVar 1), mBin (cmpD T5 .Lt) (mVar 0) (mVar 1)])) (mSeq (mAsg 7 (mBin (opD T5 .Add) (mVar 7) (mLst [mBin (cmpD T5 .LtE) (mVar 0) (mVar 1), mBin (cmpD T5 .Gt) (mVar 0) (mVar 1), mBin (cmpD T5 .GtE) (mVar 0) (mVar 1)]))) (mSeq (mFor (iRange1 (mC (.int 6))) (gNm 8) lb__law_orders_0) (mRet (mC (.bl true)))))))))
noncomputable def m__law_orders : Fn := mDef 9 b__law_orders
theorem sc__law_orders : FnScope ["_law_left", "_law_right", "_law_first", "_law_second", "_law_less", "_law_same", "_law_due", "_law_told", "_law_k"] ["_law_left", "_law_right", "_law_first", "_law_second"] (defScope st__law_orders) := ⟨rfl, rfl, rfl, by decide +kernel, rfl, by decide +kernel, by decide +kernel⟩
theorem ok__law_orders {f : Addr} {fd : FuncData} {dvs : List V} {kws : List (Str × V)} (G : Gn K mg) (hT : T5.Ok P w K mg base 18) (D__law_truth : DefOk P w K mg base tn 22 "_law_truth" 2 m__law_truth) (F : FunD K "_law_orders" "_law_orders" (defArgs st__law_orders) (defBody st__law_orders) (defScope st__law_orders) dvs kws f fd) : FnOk P w K mg base (L2.CX P w) 23 f fd ["_law_left", "_law_right", "_law_first", "_law_second"] (spM ⟨K, mg, tn, none⟩ 4 m__law_orders) :=
  fn_mk (fl := ⟨tn, none⟩) (st := st__law_orders) (N := ["_law_left", "_law_right", "_law_first", "_law_second", "_law_less", "_law_same", "_law_due", "_law_told", "_law_k"]) (ps := ["_law_left", "_law_right", "_law_first", "_law_second"]) (qual := "_law_orders") (k := 22) (body := b__law_orders) F sc__law_orders rfl fun cdv A outer s H E C0 => es_cons (es_set sc__law_orders.nd rfl (Or.inl rfl) (ex_cmp (bin_cmp hT rfl C0 (by decide)) (ex_bin (bin_op hT rfl C0 (by decide)) (ex_ix (ex_var 2) (ex_int)) (ex_ix (ex_var 3) (ex_int))) (ex_bin (bin_op hT rfl C0 (by decide)) (ex_ix (ex_var 3) (ex_int)) (ex_ix (ex_var 2) (ex_int))) (by rfl))) (es_cons (es_set sc__law_orders.nd rfl (Or.inl rfl) (ex_cmp (bin_cmp hT rfl C0 (by decide)) (ex_bin (bin_op hT rfl C0 (by decide)) (ex_ix (ex_var 2) (ex_int)) (ex_ix (ex_var 3) (ex_int))) (ex_bin (bin_op hT rfl C0 (by decide)) (ex_ix (ex_var 3) (ex_int)) (ex_ix (ex_var 2) (ex_int))) (by rfl))) (es_cons (es_set sc__law_orders.nd rfl (Or.inl rfl) (ex_lst (ea_cons (ex_var 5) (ea_cons (ex_notv (ex_var 5)) (ea_cons (ex_var 4) (ea_cons (ex_or (ex_var 4) (ex_one (ex_var 5))) ea_nil)))))) (es_cons (es_set sc__law_orders.nd rfl (Or.inl rfl) (ex_bin (bin_op hT rfl C0 (by decide)) (ex_var 6) (ex_lst (ea_cons (ex_and (ex_notv (ex_var 4)) (ex_one (ex_notv (ex_var 5)))) (ea_cons (ex_notv (ex_var 4)) ea_nil))))) (es_cons (es_set sc__law_orders.nd rfl (Or.inl rfl) (ex_lst (ea_cons (ex_cmp (bin_cmp hT rfl C0 (by decide)) (ex_var 0) (ex_var 1) (by rfl)) (ea_cons (ex_cmp (bin_cmp hT rfl C0 (by decide)) (ex_var 0) (ex_var 1) (by rfl)) (ea_cons (ex_cmp (bin_cmp hT rfl C0 (by decide)) (ex_var 0) (ex_var 1) (by rfl)) ea_nil))))) (es_cons (es_set sc__law_orders.nd rfl (Or.inl rfl) (ex_bin (bin_op hT rfl C0 (by decide)) (ex_var 7) (ex_lst (ea_cons (ex_cmp (bin_cmp hT rfl C0 (by decide)) (ex_var 0) (ex_var 1) (by rfl)) (ea_cons (ex_cmp (bin_cmp hT rfl C0 (by decide)) (ex_var 0) (ex_var 1) (by rfl)) (ea_cons (ex_cmp (bin_cmp hT rfl C0 (by decide)) (ex_var 0) (ex_var 1) (by rfl)) ea_nil)))))) (es_cons (es_for C0.po C0.calm (ei_range1 rfl G.f_range (ea_cons (ex_int) ea_nil)) (eg_name sc__law_orders.nd rfl (Or.inl rfl)) (plain_nm 8) (es_one (es_if (et_not (et_val (ex_call D__law_truth C0 (by decide) rfl (ea_cons (ex_ix (ex_var 7) (ex_var 8)) (ea_cons (ex_ix (ex_var 6) (ex_var 8)) ea_nil))))) (es_one (es_ret (ex_bl))) (es_nil)))) (es_one (es_ret (ex_bl)))))))))
abbrev st__law_powers : Stmt := top 26
noncomputable def lb__law_powers_0 : MS := mSeq (mIfS (mNot (mTru (mCall m__law_is [mVar 5, mTup [mVar 3, mVar 4]]))) (mRet (mC (.bl false))) (mNext)) (mSeq (mAsg 3 (mBin (opD T5 .Mult) (mVar 3) (mBin ixD (mVar 1) (mC (.int 0))))) (mAsg 4 (mBin (opD T5 .Mult) (mVar 4) (mBin ixD (mVar 1) (mC (.int 1))))))
noncomputable def b__law_powers : MS := mSeq (mAsg 2 (mLst [mBin (opD T5 .Pow) (mVar 0) (mC (.int 0)), mBin (opD T5 .Pow) (mVar 0) (mC (.int 1)), mBin (opD T5 .Pow) (mVar 0) (mC (.int 2)), mBin (opD T5 .Pow) (mVar 0) (mC (.int 3)), mBin (opD T5 .Pow) (mVar 0) (mC (.int 4))])) (mSeq (mAsg 2 (mBin (opD T5 .Add) (mVar 2) (mLst [mBin (opD T5 .Pow) (mVar 0) (mC (.int 5)), mBin (opD T5 .Pow) (mVar 0) (mC (.int 6)), mBin (opD T5 .Pow) (mVar 0) (mC (.int 7)), mBin (opD T5 .Pow) (mVar 0) (mC (.int 8))]))) (mSeq (mAsg 2 (mBin (opD T5 .Add) (mVar 2) (mLst [mBin (opD T5 .Pow) (mVar 0) (mC (.int 9)), mBin (opD T5 .Pow) (mVar 0) (mC (.int 10)), mBin (opD T5 .Pow) (mVar 0) (mC (.int 11)), mBin (opD T5 .Pow) (mVar 0) (mC (.int 12))]))) (mSeq (mAsg 2 (mBin (opD T5 .Add) (mVar 2) (mLst [mBin (opD T5 .Pow) (mVar 0) (mC (.int 13)), mBin (opD T5 .Pow) (mVar 0) (mC (.int 14)), mBin (opD T5 .Pow) (mVar 0) (mC (.int 15)), mBin (opD T5 .Pow) (mVar 0) (mC (.int 16))]))) (mSeq (mAsg 3 (mC (.int 1))) (mSeq (mAsg 4 (mC (.int 1))) (mSeq (mFor (iVal (mVar 2)) (gNm 5) lb__law_powers_0) (mRet (mCall m__law_is [mVar 0, mVar 1]))))))))
noncomputable def m__law_powers : Fn := mDef 6 b__law_powers
theorem sc__law_powers : FnScope ["_law_value", "_law_due", "_law_told", "_law_num", "_law_den", "_law_power"] ["_law_value", "_law_due"] (defScope st__law_powers) := ⟨rfl, rfl, rfl, by decide +kernel, rfl, by decide +kernel, by decide +kernel⟩
theorem ok__law_powers {f : Addr} {fd : FuncData} {dvs : List V} {kws : List (Str × V)} (G : Gn K mg) (hT : T5.Ok P w K mg base 18) (D__law_is : DefOk P w K mg base tn 23 "_law_is" 2 m__law_is) (F : FunD K "_law_powers" "_law_powers" (defArgs st__law_powers) (defBody st__law_powers) (defScope st__law_powers) dvs kws f fd) : FnOk P w K mg base (L2.CX P w) 24 f fd ["_law_value", "_law_due"] (spM ⟨K, mg, tn, none⟩ 2 m__law_powers) :=
  fn_mk (fl := ⟨tn, none⟩) (st := st__law_powers) (N := ["_law_value", "_law_due", "_law_told", "_law_num", "_law_den", "_law_power"]) (ps := ["_law_value", "_law_due"]) (qual := "_law_powers") (k := 23) (body := b__law_powers) F sc__law_powers rfl fun cdv A outer s H E C0 => es_cons (es_set sc__law_powers.nd rfl (Or.inl rfl) (ex_lst (ea_cons (ex_bin (bin_op hT rfl C0 (by decide)) (ex_var 0) (ex_int)) (ea_cons (ex_bin (bin_op hT rfl C0 (by decide)) (ex_var 0) (ex_int)) (ea_cons (ex_bin (bin_op hT rfl C0 (by decide)) (ex_var 0) (ex_int)) (ea_cons (ex_bin (bin_op hT rfl C0 (by decide)) (ex_var 0) (ex_int)) (ea_cons (ex_bin (bin_op hT rfl C0 (by decide)) (ex_var 0) (ex_int)) ea_nil))))))) (es_cons (es_set sc__law_powers.nd rfl (Or.inl rfl) (ex_bin (bin_op hT rfl C0 (by decide)) (ex_var 2) (ex_lst (ea_cons (ex_bin (bin_op hT rfl C0 (by decide)) (ex_var 0) (ex_int)) (ea_cons (ex_bin (bin_op hT rfl C0 (by decide)) (ex_var 0) (ex_int)) (ea_cons (ex_bin (bin_op hT rfl C0 (by decide)) (ex_var 0) (ex_int)) (ea_cons (ex_bin (bin_op hT rfl C0 (by decide)) (ex_var 0) (ex_int)) ea_nil))))))) (es_cons (es_set sc__law_powers.nd rfl (Or.inl rfl) (ex_bin (bin_op hT rfl C0 (by decide)) (ex_var 2) (ex_lst (ea_cons (ex_bin (bin_op hT rfl C0 (by decide)) (ex_var 0) (ex_int)) (ea_cons (ex_bin (bin_op hT rfl C0 (by decide)) (ex_var 0) (ex_int)) (ea_cons (ex_bin (bin_op hT rfl C0 (by decide)) (ex_var 0) (ex_int)) (ea_cons (ex_bin (bin_op hT rfl C0 (by decide)) (ex_var 0) (ex_int)) ea_nil))))))) (es_cons (es_set sc__law_powers.nd rfl (Or.inl rfl) (ex_bin (bin_op hT rfl C0 (by decide)) (ex_var 2) (ex_lst (ea_cons (ex_bin (bin_op hT rfl C0 (by decide)) (ex_var 0) (ex_int)) (ea_cons (ex_bin (bin_op hT rfl C0 (by decide)) (ex_var 0) (ex_int)) (ea_cons (ex_bin (bin_op hT rfl C0 (by decide)) (ex_var 0) (ex_int)) (ea_cons (ex_bin (bin_op hT rfl C0 (by decide)) (ex_var 0) (ex_int)) ea_nil))))))) (es_cons (es_set sc__law_powers.nd rfl (Or.inl rfl) (ex_int)) (es_cons (es_set sc__law_powers.nd rfl (Or.inl rfl) (ex_int)) (es_cons (es_for C0.po C0.calm (ei_val (ex_var 2)) (eg_name sc__law_powers.nd rfl (Or.inl rfl)) (plain_nm 5) (es_cons (es_if (et_not (et_val (ex_call D__law_is C0 (by decide) rfl (ea_cons (ex_var 5) (ea_cons (ex_tup (ea_cons (ex_var 3) (ea_cons (ex_var 4) ea_nil))) ea_nil))))) (es_one (es_ret (ex_bl))) (es_nil)) (es_cons (es_set sc__law_powers.nd rfl (Or.inl rfl) (ex_bin (bin_op hT rfl C0 (by decide)) (ex_var 3) (ex_ix (ex_var 1) (ex_int)))) (es_one (es_set sc__law_powers.nd rfl (Or.inl rfl) (ex_bin (bin_op hT rfl C0 (by decide)) (ex_var 4) (ex_ix (ex_var 1) (ex_int)))))))) (es_one (es_ret (ex_call D__law_is C0 (by decide) rfl (ea_cons (ex_var 0) (ea_cons (ex_var 1) ea_nil)))))))))))
abbrev st__law_single : Stmt := top 27
noncomputable def lb__law_single_0 : MS := mIfS (mOr (mNot (mTru (mCall m__law_truth [mBin (cmpD T5 .Eq) (mVar 0) (mVar 2), mC (.bl false)]))) (mNot (mTru (mCall m__law_truth [mBin (cmpD T5 .NotEq) (mVar 0) (mVar 2), mC (.bl true)])))) (mRet (mC (.bl false))) (mNext)
noncomputable def b__law_single : MS := mSeq (mIfS (mNot (mTru (mCall m__law_is [mUn (negD T5) (mVar 0), mTup [mUn (negD T5) (mBin ixD (mVar 1) (mC (.int 0))), mBin ixD (mVar 1) (mC (.int 1))]]))) (mRet (mC (.bl false))) (mNext)) (mSeq (mIfS (mNot (mTru (mCall m__law_is [mCall (absD T5) [mVar 0], mTup [mCall (absD T5) [mBin ixD (mVar 1) (mC (.int 0))], mBin ixD (mVar 1) (mC (.int 1))]]))) (mRet (mC (.bl false))) (mNext)) (mSeq (mIfS (mNot (mTru (mCall m__law_integer [mMeth T5 n_floor (mVar 0) [], mBin (opD T5 .FloorDiv) (mBin ixD (mVar 1) (mC (.int 0))) (mBin ixD (mVar 1) (mC (.int 1)))]))) (mRet (mC (.bl false))) (mNext)) (mSeq (mIfS (mNot (mTru (mCall m__law_integer [mMeth T5 n_ceiling (mVar 0) [], mUn (negD T5) (mBin (opD T5 .FloorDiv) (mUn (negD T5) (mBin ixD (mVar 1) (mC (.int 0)))) (mBin ixD (mVar 1) (mC (.int 1))))]))) (mRet (mC (.bl false))) (mNext)) (mSeq (mIfS (mOr (mNot (mTru (mCall m__law_truth [mAttr T5 n_is_whole (mVar 0), mBin (cmpD T5 .Eq) (mBin ixD (mVar 1) (mC (.int 1))) (mC (.int 1))]))) (mB (mBin (cmpD T5 .NotEq) (mCall (boolD T5) [mVar 0]) (mBin (cmpD T5 .NotEq) (mBin ixD (mVar 1) (mC (.int 0))) (mC (.int 0)))))) (mRet (mC (.bl false))) (mNext)) (mSeq (mFor (iVal (mLst [mC .non, mC (.str ""), mCall (strD T5) [mBin ixD (mVar 1) (mC (.int 0))], mBin (opD T5 .Add) (mBin (opD T5 .Add) (mCall (strD T5) [mBin ixD (mVar 1) (mC (.int 0))]) (mC (.str "/"))) (mCall (strD T5) [mBin ixD (mVar 1) (mC (.int 1))])])) (gNm 2) lb__law_single_0) (mRet (mC (.bl true))))))))
noncomputable def m__law_single : Fn := mDef 3 b__law_single
theorem sc__law_single : FnScope ["_law_value", "_law_due", "_law_word"] ["_law_value", "_law_due"] (defScope st__law_single) := ⟨rfl, rfl, rfl, by decide +kernel, rfl, by decide +kernel, by decide +kernel⟩
theorem ok__law_single {f : Addr} {fd : FuncData} {dvs : List V} {kws : List (Str × V)} (G : Gn K mg) (hT : T5.Ok P w K mg base 18) (D__law_is : DefOk P w K mg base tn 23 "_law_is" 2 m__law_is) (D__law_integer : DefOk P w K mg base tn 22 "_law_integer" 2 m__law_integer) (D__law_truth : DefOk P w K mg base tn 22 "_law_truth" 2 m__law_truth) (F : FunD K "_law_single" "_law_single" (defArgs st__law_single) (defBody st__law_single) (defScope st__law_single) dvs kws f fd) : FnOk P w K mg base (L2.CX P w) 24 f fd ["_law_value", "_law_due"] (spM ⟨K, mg, tn, none⟩ 2 m__law_single) :=
  fn_mk (fl := ⟨tn, none⟩) (st := st__law_single) (N := ["_law_value", "_law_due", "_law_word"]) (ps := ["_law_value", "_law_due"]) (qual := "_law_single") (k := 23) (body := b__law_single) F sc__law_single rfl fun cdv A outer s H E C0 => es_cons (es_if (et_not (et_val (ex_call D__law_is C0 (by decide) rfl (ea_cons (ex_un (un_negD hT rfl C0 (by decide)) (ex_var 0)) (ea_cons (ex_tup (ea_cons (ex_un (un_negD hT rfl C0 (by decide)) (ex_ix (ex_var 1) (ex_int))) (ea_cons (ex_ix (ex_var 1) (ex_int)) ea_nil))) ea_nil))))) (es_one (es_ret (ex_bl))) (es_nil)) (es_cons (es_if (et_not (et_val (ex_call D__law_is C0 (by decide) rfl (ea_cons (ex_callB (bl_abs hT rfl C0 (by decide)) rfl G.f_abs (by kernel_rfl) (ea_cons (ex_var 0) ea_nil)) (ea_cons (ex_tup (ea_cons (ex_callB (bl_abs hT rfl C0 (by decide)) rfl G.f_abs (by kernel_rfl) (ea_cons (ex_ix (ex_var 1) (ex_int)) ea_nil)) (ea_cons (ex_ix (ex_var 1) (ex_int)) ea_nil))) ea_nil))))) (es_one (es_ret (ex_bl))) (es_nil)) (es_cons (es_if (et_not (et_val (ex_call D__law_integer C0 (by decide) rfl (ea_cons (ex_meth0 n_floor rfl hT rfl C0 (by decide) (ex_var 0)) (ea_cons (ex_bin (bin_op hT rfl C0 (by decide)) (ex_ix (ex_var 1) (ex_int)) (ex_ix (ex_var 1) (ex_int))) ea_nil))))) (es_one (es_ret (ex_bl))) (es_nil)) (es_cons (es_if (et_not (et_val (ex_call D__law_integer C0 (by decide) rfl (ea_cons (ex_meth0 n_ceiling rfl hT rfl C0 (by decide) (ex_var 0)) (ea_cons (ex_un (un_negD hT rfl C0 (by decide)) (ex_bin (bin_op hT rfl C0 (by decide)) (ex_un (un_negD hT rfl C0 (by decide)) (ex_ix (ex_var 1) (ex_int))) (ex_ix (ex_var 1) (ex_int)))) ea_nil))))) (es_one (es_ret (ex_bl))) (es_nil)) (es_cons (es_if (EW.et (ew_or (et_not (et_val (ex_call D__law_truth C0 (by decide) rfl (ea_cons (ex_attr n_is_whole rfl hT rfl C0 (by decide) (ex_var 0)) (ea_cons (ex_cmp (bin_cmp hT rfl C0 (by decide)) (ex_ix (ex_var 1) (ex_int)) (ex_int) (by rfl)) ea_nil))))) (ew_or1 (et_cmp (bin_cmp hT rfl C0 (by decide)) (ex_callTy (bl_bool hT rfl C0 (by decide)) rfl G.f_bool (by kernel_rfl) (ea_cons (ex_var 0) ea_nil)) (ex_cmp (bin_cmp hT rfl C0 (by decide)) (ex_ix (ex_var 1) (ex_int)) (ex_int) (by rfl)) (by rfl))))) (es_one (es_ret (ex_bl))) (es_nil)) (es_cons (es_for C0.po C0.calm (ei_val (ex_lst (ea_cons (ex_non) (ea_cons (ex_str) (ea_cons (ex_callTy (bl_str hT rfl C0 (by decide)) rfl G.f_str (by kernel_rfl) (ea_cons (ex_ix (ex_var 1) (ex_int)) ea_nil)) (ea_cons (ex_bin (bin_op hT rfl C0 (by decide)) (ex_bin (bin_op hT rfl C0 (by decide)) (ex_callTy (bl_str hT rfl C0 (by decide)) rfl G.f_str (by kernel_rfl) (ea_cons (ex_ix (ex_var 1) (ex_int)) ea_nil)) (ex_str)) (ex_callTy (bl_str hT rfl C0 (by decide)) rfl G.f_str (by kernel_rfl) (ea_cons (ex_ix (ex_var 1) (ex_int)) ea_nil))) ea_nil)))))) (eg_name sc__law_single.nd rfl (Or.inl rfl)) (plain_nm 2) (es_one (es_if (EW.et (ew_or (et_not (et_val (ex_call D__law_truth C0 (by decide) rfl (ea_cons (ex_cmp (bin_cmp hT rfl C0 (by decide)) (ex_var 0) (ex_var 2) (by rfl)) (ea_cons (ex_bl) ea_nil))))) (ew_or1 (et_not (et_val (ex_call D__law_truth C0 (by decide) rfl (ea_cons (ex_cmp (bin_cmp hT rfl C0 (by decide)) (ex_var 0) (ex_var 2) (by rfl)) (ea_cons (ex_bl) ea_nil)))))))) (es_one (es_ret (ex_bl))) (es_nil)))) (es_one (es_ret (ex_bl))))))))
abbrev st__law_in_place : Stmt := top 28
noncomputable def b__law_in_place : MS := mSeq (mAsg 4 (mVar 0)) (mSeq (mAug 4 (ipD T5 .Add) (mVar 1)) (mSeq (mAsg 5 (mVar 0)) (mSeq (mAug 5 (ipD T5 .Sub) (mVar 1)) (mSeq (mAsg 6 (mVar 0)) (mSeq (mAug 6 (ipD T5 .Mult) (mVar 1)) (mSeq (mIfS (mNot (mTru (mCall m__law_is [mVar 4, mCall m__law_add [mVar 2, mVar 3]]))) (mRet (mC (.bl false))) (mNext)) (mSeq (mIfS (mNot (mTru (mCall m__law_is [mVar 6, mCall m__law_mul [mVar 2, mVar 3]]))) (mRet (mC (.bl false))) (mNext)) (mSeq (mIfS (mNot (mTru (mCall m__law_is [mVar 5, mCall m__law_add [mVar 2, mTup [mUn (negD T5) (mBin ixD (mVar 3) (mC (.int 0))), mBin ixD (mVar 3) (mC (.int 1))]]]))) (mRet (mC (.bl false))) (mNext)) (mSeq (mIfS (mB (mBin (cmpD T5 .NotEq) (mBin ixD (mVar 3) (mC (.int 0))) (mC (.int 0)))) (mSeq (mAsg 7 (mVar 0)) (mSeq (mAug 7 (ipD T5 .FloorDiv) (mVar 1)) (mIfS (mNot (mTru (mCall m__law_integer [mVar 7, mCall m__law_floor [mVar 2, mVar 3]]))) (mRet (mC (.bl false))) (mNext)))) (mNext)) (mRet (mAndV (mCall m__law_is [mVar 0, mVar 2]) (mCall m__law_is [mVar 1, mVar 3]))))))))))))
noncomputable def m__law_in_place : Fn := mDef 8 b__law_in_place
theorem sc__law_in_place : FnScope ["_law_kept", "_law_right", "_law_first", "_law_second", "_law_total", "_law_left", "_law_product", "_law_times"] ["_law_kept", "_law_right", "_law_first", "_law_second"] (defScope st__law_in_place) := ⟨rfl, rfl, rfl, by decide +kernel, rfl, by decide +kernel, by decide +kernel⟩
theorem ok__law_in_place {f : Addr} {fd : FuncData} {dvs : List V} {kws : List (Str × V)} (G : Gn K mg) (hT : T5.Ok P w K mg base 18) (D__law_add : DefOk P w K mg base tn 24 "_law_add" 2 m__law_add) (D__law_is : DefOk P w K mg base tn 23 "_law_is" 2 m__law_is) (D__law_mul : DefOk P w K mg base tn 24 "_law_mul" 2 m__law_mul) (D__law_floor : DefOk P w K mg base tn 22 "_law_floor" 2 m__law_floor) (D__law_integer : DefOk P w K mg base tn 22 "_law_integer" 2 m__law_integer) (F : FunD K "_law_in_place" "_law_in_place" (defArgs st__law_in_place) (defBody st__law_in_place) (defScope st__law_in_place) dvs kws f fd) : FnOk P w K mg base (L2.CX P w) 25 f fd ["_law_kept", "_law_right", "_law_first", "_law_second"] (spM ⟨K, mg, tn, none⟩ 4 m__law_in_place) :=
  fn_mk (fl := ⟨tn, none⟩) (st := st__law_in_place) (N := ["_law_kept", "_law_right", "_law_first", "_law_second", "_law_total", "_law_left", "_law_product", "_law_times"]) (ps := ["_law_kept", "_law_right", "_law_first", "_law_second"]) (qual := "_law_in_place") (k := 24) (body := b__law_in_place) F sc__law_in_place rfl fun cdv A outer s H E C0 => es_cons (es_set sc__law_in_place.nd rfl (Or.inl rfl) (ex_var 0)) (es_cons (es_aug (bin_ip hT rfl C0 (by decide)) sc__law_in_place.nd rfl (Or.inl rfl) (ex_var 1)) (es_cons (es_set sc__law_in_place.nd rfl (Or.inl rfl) (ex_var 0)) (es_cons (es_aug (bin_ip hT rfl C0 (by decide)) sc__law_in_place.nd rfl (Or.inl rfl) (ex_var 1)) (es_cons (es_set sc__law_in_place.nd rfl (Or.inl rfl) (ex_var 0)) (es_cons (es_aug (bin_ip hT rfl C0 (by decide)) sc__law_in_place.nd rfl (Or.inl rfl) (ex_var 1)) (es_cons (es_if (et_not (et_val (ex_call D__law_is C0 (by decide) rfl (ea_cons (ex_var 4) (ea_cons (ex_call D__law_add C0 (by decide) rfl (ea_cons (ex_var 2) (ea_cons (ex_var 3) ea_nil))) ea_nil))))) (es_one (es_ret (ex_bl))) (es_nil)) (es_cons (es_if (et_not (et_val (ex_call D__law_is C0 (by decide) rfl (ea_cons (ex_var 6) (ea_cons (ex_call D__law_mul C0 (by decide) rfl (ea_cons (ex_var 2) (ea_cons (ex_var 3) ea_nil))) ea_nil))))) (es_one (es_ret (ex_bl))) (es_nil)) (es_cons (es_if (et_not (et_val (ex_call D__law_is C0 (by decide) rfl (ea_cons (ex_var 5) (ea_cons (ex_call D__law_add C0 (by decide) rfl (ea_cons (ex_var 2) (ea_cons (ex_tup (ea_cons (ex_un (un_negD hT rfl C0 (by decide)) (ex_ix (ex_var 3) (ex_int))) (ea_cons (ex_ix (ex_var 3) (ex_int)) ea_nil))) ea_nil))) ea_nil))))) (es_one (es_ret (ex_bl))) (es_nil)) (es_cons (es_if (et_cmp (bin_cmp hT rfl C0 (by decide)) (ex_ix (ex_var 3) (ex_int)) (ex_int) (by rfl)) (es_cons (es_set sc__law_in_place.nd rfl (Or.inl rfl) (ex_var 0)) (es_cons (es_aug (bin_ip hT rfl C0 (by decide)) sc__law_in_place.nd rfl (Or.inl rfl) (ex_var 1)) (es_one (es_if (et_not (et_val (ex_call D__law_integer C0 (by decide) rfl (ea_cons (ex_var 7) (ea_cons (ex_call D__law_floor C0 (by decide) rfl (ea_cons (ex_var 2) (ea_cons (ex_var 3) ea_nil))) ea_nil))))) (es_one (es_ret (ex_bl))) (es_nil))))) (es_nil)) (es_one (es_ret (ex_and (ex_call D__law_is C0 (by decide) rfl (ea_cons (ex_var 0) (ea_cons (ex_var 2) ea_nil))) (ex_one (ex_call D__law_is C0 (by decide) rfl (ea_cons (ex_var 1) (ea_cons (ex_var 3) ea_nil))))))))))))))))
abbrev st__law_made_plain : Stmt := top 29
noncomputable def b__law_made_plain : MS := mSeq (mIfS (mOr (mNot (mTru (mCall m__law_is [mNew T5 n_Frac [], mTup [mC (.int 0), mC (.int 1)]]))) (mNot (mTru (mCall m__law_is [mNew T5 n_Frac [mBin ixD (mVar 0) (mC (.int 0))], mTup [mBin ixD (mVar 0) (mC (.int 0)), mC (.int 1)]])))) (mRet (mC (.bl false))) (mNext)) (mSeq (mIfS (mOr (mNot (mTru (mCall m__law_refused [mBin ixD (mVar 0) (mC (.int 0)), mC (.int 0), mC (.int 3)]))) (mNot (mTru (mCall m__law_refused [mC (.int 0), mC (.int 0), mC (.int 3)])))) (mRet (mC (.bl false))) (mNext)) (mRet (mCall m__law_is [mNew T5 n_Frac [mC (.int 0), mUn (negD T5) (mBin ixD (mVar 0) (mC (.int 1)))], mTup [mC (.int 0), mC (.int 1)]])))
noncomputable def m__law_made_plain : Fn := mDef 1 b__law_made_plain
theorem sc__law_made_plain : FnScope ["_law_first"] ["_law_first"] (defScope st__law_made_plain) := ⟨rfl, rfl, rfl, by decide +kernel, rfl, by decide +kernel, by decide +kernel⟩
theorem ok__law_made_plain {f : Addr} {fd : FuncData} {dvs : List V} {kws : List (Str × V)} (G : Gn K mg) (hT : T5.Ok P w K mg base 18) (D__law_is : DefOk P w K mg base tn 23 "_law_is" 2 m__law_is) (D__law_refused : DefOk P w K mg base tn 22 "_law_refused" 3 m__law_refused) (F : FunD K "_law_made_plain" "_law_made_plain" (defArgs st__law_made_plain) (defBody st__law_made_plain) (defScope st__law_made_plain) dvs kws f fd) : FnOk P w K mg base (L2.CX P w) 24 f fd ["_law_first"] (spM ⟨K, mg, tn, none⟩ 1 m__law_made_plain) :=
  fn_mk (fl := ⟨tn, none⟩) (st := st__law_made_plain) (N := ["_law_first"]) (ps := ["_law_first"]) (qual := "_law_made_plain") (k := 23) (body := b__law_made_plain) F sc__law_made_plain rfl fun cdv A outer s H E C0 => es_cons (es_if (EW.et (ew_or (et_not (et_val (ex_call D__law_is C0 (by decide) rfl (ea_cons (ex_new0 n_Frac rfl hT rfl C0 (by decide) rfl rfl) (ea_cons (ex_tup (ea_cons (ex_int) (ea_cons (ex_int) ea_nil))) ea_nil))))) (ew_or1 (et_not (et_val (ex_call D__law_is C0 (by decide) rfl (ea_cons (ex_new n_Frac rfl hT rfl C0 (by decide) rfl rfl (ea_cons (ex_ix (ex_var 0) (ex_int)) ea_nil)) (ea_cons (ex_tup (ea_cons (ex_ix (ex_var 0) (ex_int)) (ea_cons (ex_int) ea_nil))) ea_nil)))))))) (es_one (es_ret (ex_bl))) (es_nil)) (es_cons (es_if (EW.et (ew_or (et_not (et_val (ex_call D__law_refused C0 (by decide) rfl (ea_cons (ex_ix (ex_var 0) (ex_int)) (ea_cons (ex_int) (ea_cons (ex_int) ea_nil)))))) (ew_or1 (et_not (et_val (ex_call D__law_refused C0 (by decide) rfl (ea_cons (ex_int) (ea_cons (ex_int) (ea_cons (ex_int) ea_nil))))))))) (es_one (es_ret (ex_bl))) (es_nil)) (es_one (es_ret (ex_call D__law_is C0 (by decide) rfl (ea_cons (ex_new n_Frac rfl hT rfl C0 (by decide) rfl rfl (ea_cons (ex_int) (ea_cons (ex_un (un_negD hT rfl C0 (by decide)) (ex_ix (ex_var 0) (ex_int))) ea_nil))) (ea_cons (ex_tup (ea_cons (ex_int) (ea_cons (ex_int) ea_nil))) ea_nil))))))
abbrev st_law : Stmt := top 30
noncomputable def lb_law_0 : MS := mSeq (mIfS (mNot (mTru (mCall m__law_operators [mBin ixD (mVar 7) (mC (.int 0)), mBin ixD (mVar 7) (mC (.int 1)), mBin ixD (mVar 7) (mC (.int 2)), mBin ixD (mVar 7) (mC (.int 3))]))) (mRet (mC (.bl false))) (mNext)) (mSeq (mIfS (mNot (mTru (mCall m__law_operators [mBin ixD (mVar 7) (mC (.int 1)), mBin ixD (mVar 7) (mC (.int 0)), mBin ixD (mVar 7) (mC (.int 3)), mBin ixD (mVar 7) (mC (.int 2))]))) (mRet (mC (.bl false))) (mNext)) (mSeq (mIfS (mNot (mTru (mCall m__law_orders [mBin ixD (mVar 7) (mC (.int 0)), mBin ixD (mVar 7) (mC (.int 1)), mBin ixD (mVar 7) (mC (.int 2)), mBin ixD (mVar 7) (mC (.int 3))]))) (mRet (mC (.bl false))) (mNext)) (mSeq (mIfS (mNot (mTru (mCall m__law_orders [mBin ixD (mVar 7) (mC (.int 1)), mBin ixD (mVar 7) (mC (.int 0)), mBin ixD (mVar 7) (mC (.int 3)), mBin ixD (mVar 7) (mC (.int 2))]))) (mRet (mC (.bl false))) (mNext)) (mIfS (mNot (mTru (mCall m__law_over [mBin ixD (mVar 7) (mC (.int 0)), mBin ixD (mVar 7) (mC (.int 1)), mBin ixD (mVar 7) (mC (.int 2)), mBin ixD (mVar 7) (mC (.int 3))]))) (mRet (mC (.bl false))) (mNext)))))
noncomputable def b_law : MS := mSeq (mAsg 0 (mSl (mVar 0) (mPn) (mPs (mC (.int 63))))) (mSeq (mAsg 1 (mCall m__law_low [mCall m__law_numerator [mVar 0, mC (.int 0)], mCall m__law_denominator [mVar 0, mC (.int 1)]])) (mSeq (mAsg 2 (mCall m__law_low [mCall m__law_numerator [mVar 0, mC (.int 2)], mCall m__law_denominator [mVar 0, mC (.int 3)]])) (mSeq (mAsg 3 (mBin (opD T5 .Mod) (mCall intD [mCall m__law_cell [mVar 0, mC (.int 4)]]) (mC (.int 8)))) (mSeq (mIfS (mB (mBin (cmpD T5 .Eq) (mVar 3) (mC (.int 0)))) (mAsg 2 (mVar 1)) (mIfS (mB (mBin (cmpD T5 .Eq) (mVar 3) (mC (.int 1)))) (mAsg 2 (mTup [mUn (negD T5) (mBin ixD (mVar 1) (mC (.int 0))), mBin ixD (mVar 1) (mC (.int 1))])) (mIfS (mB (mBin (cmpD T5 .Eq) (mVar 3) (mC (.int 2)))) (mAsg 2 (mTup [mC (.int 0), mC (.int 1)])) (mIfS (mB (mBin (cmpD T5 .Eq) (mVar 3) (mC (.int 3)))) (mAsg 1 (mTup [mC (.int 0), mC (.int 1)])) (mIfS (mAnd (mB (mBin (cmpD T5 .Eq) (mVar 3) (mC (.int 4)))) (mB (mBin (cmpD T5 .NotEq) (mBin ixD (mVar 1) (mC (.int 0))) (mC (.int 0))))) (mAsg 2 (mCall m__law_low [mBin ixD (mVar 1) (mC (.int 1)), mBin ixD (mVar 1) (mC (.int 0))])) (mNext)))))) (mSeq (mAsg 4 (mCall m__law_made [mVar 1, mCall m__law_cell [mVar 0, mC (.int 5)]])) (mSeq (mAsg 5 (mCall m__law_made [mVar 2, mCall m__law_cell [mVar 0, mC (.int 6)]])) (mSeq (mIfS (mOr (mNot (mTru (mCall m__law_is [mVar 4, mVar 1]))) (mOr (mNot (mTru (mCall m__law_is [mVar 5, mVar 2]))) (mNot (mTru (mCall m__law_made_plain [mVar 1]))))) (mRet (mC (.bl false))) (mNext)) (mSeq (mIfS (mNot (mTru (mCall m__law_over [mVar 5, mVar 4, mVar 2, mVar 1]))) (mRet (mC (.bl false))) (mNext)) (mSeq (mAsg 6 (mLst [mTup [mVar 4, mVar 5, mVar 1, mVar 2], mTup [mVar 4, mVar 4, mVar 1, mVar 1]])) (mSeq (mIfS (mB (mBin (cmpD T5 .Eq) (mBin ixD (mVar 1) (mC (.int 1))) (mC (.int 1)))) (mDrop (mBm "list" appD (mVar 6) [mTup [mVar 5, mBin ixD (mVar 1) (mC (.int 0)), mVar 2, mVar 1]])) (mNext)) (mSeq (mIfS (mB (mBin (cmpD T5 .Eq) (mBin ixD (mVar 2) (mC (.int 1))) (mC (.int 1)))) (mDrop (mBm "list" appD (mVar 6) [mTup [mVar 4, mBin ixD (mVar 2) (mC (.int 0)), mVar 1, mVar 2]])) (mNext)) (mSeq (mFor (iVal (mVar 6)) (gNm 7) lb_law_0) (mSeq (mIfS (mOr (mNot (mTru (mCall m__law_single [mVar 4, mVar 1]))) (mNot (mTru (mCall m__law_single [mVar 5, mVar 2])))) (mRet (mC (.bl false))) (mNext)) (mSeq (mIfS (mOr (mNot (mTru (mCall m__law_powers [mVar 4, mVar 1]))) (mNot (mTru (mCall m__law_in_place [mVar 4, mVar 5, mVar 1, mVar 2])))) (mRet (mC (.bl false))) (mNext)) (mRet (mAndV (mCall m__law_is [mVar 4, mVar 1]) (mCall m__law_is [mVar 5, mVar 2])))))))))))))))))
noncomputable def m_law : Fn := mDef 8 b_law
theorem sc_law : FnScope ["_law_script", "_law_one", "_law_two", "_law_relation", "_law_left", "_law_right", "_law_asked", "_law_item"] ["_law_script"] (defScope st_law) := ⟨rfl, rfl, rfl, by decide +kernel, rfl, by decide +kernel, by decide +kernel⟩
theorem ok_law {f : Addr} {fd : FuncData} {dvs : List V} {kws : List (Str × V)} (G : Gn K mg) (hT : T5.Ok P w K mg base 18) (D__law_numerator : DefOk P w K mg base tn 24 "_law_numerator" 2 m__law_numerator) (D__law_denominator : DefOk P w K mg base tn 24 "_law_denominator" 2 m__law_denominator) (D__law_low : DefOk P w K mg base tn 23 "_law_low" 2 m__law_low) (D__law_cell : DefOk P w K mg base tn 22 "_law_cell" 2 m__law_cell) (D__law_made : DefOk P w K mg base tn 22 "_law_made" 2 m__law_made) (D__law_is : DefOk P w K mg base tn 23 "_law_is" 2 m__law_is) (D__law_made_plain : DefOk P w K mg base tn 24 "_law_made_plain" 1 m__law_made_plain) (D__law_over : DefOk P w K mg base tn 24 "_law_over" 4 m__law_over) (D__law_operators : DefOk P w K mg base tn 25 "_law_operators" 4 m__law_operators) (D__law_orders : DefOk P w K mg base tn 23 "_law_orders" 4 m__law_orders) (D__law_single : DefOk P w K mg base tn 24 "_law_single" 2 m__law_single) (D__law_powers : DefOk P w K mg base tn 24 "_law_powers" 2 m__law_powers) (D__law_in_place : DefOk P w K mg base tn 25 "_law_in_place" 4 m__law_in_place) (F : FunD K "law" "law" (defArgs st_law) (defBody st_law) (defScope st_law) dvs kws f fd) : FnOk P w K mg base (L2.CX P w) 26 f fd ["_law_script"] (spM ⟨K, mg, tn, none⟩ 1 m_law) :=
  fn_mk (fl := ⟨tn, none⟩) (st := st_law) (N := ["_law_script", "_law_one", "_law_two", "_law_relation", "_law_left", "_law_right", "_law_asked", "_law_item"]) (ps := ["_law_script"]) (qual := "law") (k := 25) (body := b_law) F sc_law rfl fun cdv A outer s H E C0 => es_cons (es_set sc_law.nd rfl (Or.inl rfl) (ex_slice (ex_var 0) (eo_none) (eo_some (ex_int)))) (es_cons (es_set sc_law.nd rfl (Or.inl rfl) (ex_call D__law_low C0 (by decide) rfl (ea_cons (ex_call D__law_numerator C0 (by decide) rfl (ea_cons (ex_var 0) (ea_cons (ex_int) ea_nil))) (ea_cons (ex_call D__law_denominator C0 (by decide) rfl (ea_cons (ex_var 0) (ea_cons (ex_int) ea_nil))) ea_nil)))) (es_cons (es_set sc_law.nd rfl (Or.inl rfl) (ex_call D__law_low C0 (by decide) rfl (ea_cons (ex_call D__law_numerator C0 (by decide) rfl (ea_cons (ex_var 0) (ea_cons (ex_int) ea_nil))) (ea_cons (ex_call D__law_denominator C0 (by decide) rfl (ea_cons (ex_var 0) (ea_cons (ex_int) ea_nil))) ea_nil)))) (es_cons (es_set sc_law.nd rfl (Or.inl rfl) (ex_bin (bin_op hT rfl C0 (by decide)) (ex_callTy bl_int rfl G.f_int (by kernel_rfl) (ea_cons (ex_call D__law_cell C0 (by decide) rfl (ea_cons (ex_var 0) (ea_cons (ex_int) ea_nil))) ea_nil)) (ex_int))) (es_cons (es_if (et_cmp (bin_cmp hT rfl C0 (by decide)) (ex_var 3) (ex_int) (by rfl)) (es_one (es_set sc_law.nd rfl (Or.inl rfl) (ex_var 1))) (es_one (es_if (et_cmp (bin_cmp hT rfl C0 (by decide)) (ex_var 3) (ex_int) (by rfl)) (es_one (es_set sc_law.nd rfl (Or.inl rfl) (ex_tup (ea_cons (ex_un (un_negD hT rfl C0 (by decide)) (ex_ix (ex_var 1) (ex_int))) (ea_cons (ex_ix (ex_var 1) (ex_int)) ea_nil))))) (es_one (es_if (et_cmp (bin_cmp hT rfl C0 (by decide)) (ex_var 3) (ex_int) (by rfl)) (es_one (es_set sc_law.nd rfl (Or.inl rfl) (ex_tup (ea_cons (ex_int) (ea_cons (ex_int) ea_nil))))) (es_one (es_if (et_cmp (bin_cmp hT rfl C0 (by decide)) (ex_var 3) (ex_int) (by rfl)) (es_one (es_set sc_law.nd rfl (Or.inl rfl) (ex_tup (ea_cons (ex_int) (ea_cons (ex_int) ea_nil))))) (es_one (es_if (EW.et (ew_and (et_cmp (bin_cmp hT rfl C0 (by decide)) (ex_var 3) (ex_int) (by rfl)) (ew_and1 (et_cmp (bin_cmp hT rfl C0 (by decide)) (ex_ix (ex_var 1) (ex_int)) (ex_int) (by rfl))))) (es_one (es_set sc_law.nd rfl (Or.inl rfl) (ex_call D__law_low C0 (by decide) rfl (ea_cons (ex_ix (ex_var 1) (ex_int)) (ea_cons (ex_ix (ex_var 1) (ex_int)) ea_nil))))) (es_nil)))))))))) (es_cons (es_set sc_law.nd rfl (Or.inl rfl) (ex_call D__law_made C0 (by decide) rfl (ea_cons (ex_var 1) (ea_cons (ex_call D__law_cell C0 (by decide) rfl (ea_cons (ex_var 0) (ea_cons (ex_int) ea_nil))) ea_nil)))) (es_cons (es_set sc_law.nd rfl (Or.inl rfl) (ex_call D__law_made C0 (by decide) rfl (ea_cons (ex_var 2) (ea_cons (ex_call D__law_cell C0 (by decide) rfl (ea_cons (ex_var 0) (ea_cons (ex_int) ea_nil))) ea_nil)))) (es_cons (es_if (EW.et (ew_or (et_not (et_val (ex_call D__law_is C0 (by decide) rfl (ea_cons (ex_var 4) (ea_cons (ex_var 1) ea_nil))))) (ew_or (et_not (et_val (ex_call D__law_is C0 (by decide) rfl (ea_cons (ex_var 5) (ea_cons (ex_var 2) ea_nil))))) (ew_or1 (et_not (et_val (ex_call D__law_made_plain C0 (by decide) rfl (ea_cons (ex_var 1) ea_nil)))))))) (es_one (es_ret (ex_bl))) (es_nil)) (es_cons (es_if (et_not (et_val (ex_call D__law_over C0 (by decide) rfl (ea_cons (ex_var 5) (ea_cons (ex_var 4) (ea_cons (ex_var 2) (ea_cons (ex_var 1) ea_nil))))))) (es_one (es_ret (ex_bl))) (es_nil)) (es_cons (es_set sc_law.nd rfl (Or.inl rfl) (ex_lst (ea_cons (ex_tup (ea_cons (ex_var 4) (ea_cons (ex_var 5) (ea_cons (ex_var 1) (ea_cons (ex_var 2) ea_nil))))) (ea_cons (ex_tup (ea_cons (ex_var 4) (ea_cons (ex_var 4) (ea_cons (ex_var 1) (ea_cons (ex_var 1) ea_nil))))) ea_nil)))) (es_cons (es_if (et_cmp (bin_cmp hT rfl C0 (by decide)) (ex_ix (ex_var 1) (ex_int)) (ex_int) (by rfl)) (es_one (es_expr (ex_bm PySem.F.plainAttrs_list PySem.F.slot_list_append PySem.F.type_list_append bl_append (ex_var 6) (ea_cons (ex_tup (ea_cons (ex_var 5) (ea_cons (ex_ix (ex_var 1) (ex_int)) (ea_cons (ex_var 2) (ea_cons (ex_var 1) ea_nil))))) ea_nil)))) (es_nil)) (es_cons (es_if (et_cmp (bin_cmp hT rfl C0 (by decide)) (ex_ix (ex_var 2) (ex_int)) (ex_int) (by rfl)) (es_one (es_expr (ex_bm PySem.F.plainAttrs_list PySem.F.slot_list_append PySem.F.type_list_append bl_append (ex_var 6) (ea_cons (ex_tup (ea_cons (ex_var 4) (ea_cons (ex_ix (ex_var 2) (ex_int)) (ea_cons (ex_var 1) (ea_cons (ex_var 2) ea_nil))))) ea_nil)))) (es_nil)) (es_cons (es_for C0.po C0.calm (ei_val (ex_var 6)) (eg_name sc_law.nd rfl (Or.inl rfl)) (plain_nm 7) (es_cons (es_if (et_not (et_val (ex_call D__law_operators C0 (by decide) rfl (ea_cons (ex_ix (ex_var 7) (ex_int)) (ea_cons (ex_ix (ex_var 7) (ex_int)) (ea_cons (ex_ix (ex_var 7) (ex_int)) (ea_cons (ex_ix (ex_var 7) (ex_int)) ea_nil))))))) (es_one (es_ret (ex_bl))) (es_nil)) (es_cons (es_if (et_not (et_val (ex_call D__law_operators C0 (by decide) rfl (ea_cons (ex_ix (ex_var 7) (ex_int)) (ea_cons (ex_ix (ex_var 7) (ex_int)) (ea_cons (ex_ix (ex_var 7) (ex_int)) (ea_cons (ex_ix (ex_var 7) (ex_int)) ea_nil))))))) (es_one (es_ret (ex_bl))) (es_nil)) (es_cons (es_if (et_not (et_val (ex_call D__law_orders C0 (by decide) rfl (ea_cons (ex_ix (ex_var 7) (ex_int)) (ea_cons (ex_ix (ex_var 7) (ex_int)) (ea_cons (ex_ix (ex_var 7) (ex_int)) (ea_cons (ex_ix (ex_var 7) (ex_int)) ea_nil))))))) (es_one (es_ret (ex_bl))) (es_nil)) (es_cons (es_if (et_not (et_val (ex_call D__law_orders C0 (by decide) rfl (ea_cons (ex_ix (ex_var 7) (ex_int)) (ea_cons (ex_ix (ex_var 7) (ex_int)) (ea_cons (ex_ix (ex_var 7) (ex_int)) (ea_cons (ex_ix (ex_var 7) (ex_int)) ea_nil))))))) (es_one (es_ret (ex_bl))) (es_nil)) (es_one (es_if (et_not (et_val (ex_call D__law_over C0 (by decide) rfl (ea_cons (ex_ix (ex_var 7) (ex_int)) (ea_cons (ex_ix (ex_var 7) (ex_int)) (ea_cons (ex_ix (ex_var 7) (ex_int)) (ea_cons (ex_ix (ex_var 7) (ex_int)) ea_nil))))))) (es_one (es_ret (ex_bl))) (es_nil)))))))) (es_cons (es_if (EW.et (ew_or (et_not (et_val (ex_call D__law_single C0 (by decide) rfl (ea_cons (ex_var 4) (ea_cons (ex_var 1) ea_nil))))) (ew_or1 (et_not (et_val (ex_call D__law_single C0 (by decide) rfl (ea_cons (ex_var 5) (ea_cons (ex_var 2) ea_nil)))))))) (es_one (es_ret (ex_bl))) (es_nil)) (es_cons (es_if (EW.et (ew_or (et_not (et_val (ex_call D__law_powers C0 (by decide) rfl (ea_cons (ex_var 4) (ea_cons (ex_var 1) ea_nil))))) (ew_or1 (et_not (et_val (ex_call D__law_in_place C0 (by decide) rfl (ea_cons (ex_var 4) (ea_cons (ex_var 5) (ea_cons (ex_var 1) (ea_cons (ex_var 2) ea_nil)))))))))) (es_one (es_ret (ex_bl))) (es_nil)) (es_one (es_ret (ex_and (ex_call D__law_is C0 (by decide) rfl (ea_cons (ex_var 4) (ea_cons (ex_var 1) ea_nil))) (ex_one (ex_call D__law_is C0 (by decide) rfl (ea_cons (ex_var 5) (ea_cons (ex_var 2) ea_nil)))))))))))))))))))))
def d_F_init : Fd := ⟨.m "Frac" "__init__", "__init__", "Frac.__init__", st_F_init, [.int 0, .int 1]⟩
def d_F_over : Fd := ⟨.m "Frac" "over", "over", "Frac.over", st_F_over, []⟩
def d_F_floor : Fd := ⟨.m "Frac" "floor", "floor", "Frac.floor", st_F_floor, []⟩
def d_F_ceiling : Fd := ⟨.m "Frac" "ceiling", "ceiling", "Frac.ceiling", st_F_ceiling, []⟩
def d_F_is_whole : Fd := ⟨.p "Frac" "is_whole", "is_whole", "Frac.is_whole", st_F_is_whole, []⟩
def d_F_bool : Fd := ⟨.m "Frac" "__bool__", "__bool__", "Frac.__bool__", st_F_bool, []⟩
def d_F_neg : Fd := ⟨.m "Frac" "__neg__", "__neg__", "Frac.__neg__", st_F_neg, []⟩
def d_F_abs : Fd := ⟨.m "Frac" "__abs__", "__abs__", "Frac.__abs__", st_F_abs, []⟩
def d_F_add : Fd := ⟨.m "Frac" "__add__", "__add__", "Frac.__add__", st_F_add, []⟩
def d_F_radd : Fd := ⟨.m "Frac" "__radd__", "__radd__", "Frac.__radd__", st_F_radd, []⟩
def d_F_sub : Fd := ⟨.m "Frac" "__sub__", "__sub__", "Frac.__sub__", st_F_sub, []⟩
def d_F_rsub : Fd := ⟨.m "Frac" "__rsub__", "__rsub__", "Frac.__rsub__", st_F_rsub, []⟩
def d_F_mul : Fd := ⟨.m "Frac" "__mul__", "__mul__", "Frac.__mul__", st_F_mul, []⟩
def d_F_rmul : Fd := ⟨.m "Frac" "__rmul__", "__rmul__", "Frac.__rmul__", st_F_rmul, []⟩
def d_F_floordiv : Fd := ⟨.m "Frac" "__floordiv__", "__floordiv__", "Frac.__floordiv__", st_F_floordiv, []⟩
def d_F_pow : Fd := ⟨.m "Frac" "__pow__", "__pow__", "Frac.__pow__", st_F_pow, []⟩
def d_F_eq : Fd := ⟨.m "Frac" "__eq__", "__eq__", "Frac.__eq__", st_F_eq, []⟩
def d_F_lt : Fd := ⟨.m "Frac" "__lt__", "__lt__", "Frac.__lt__", st_F_lt, []⟩
def d_F_le : Fd := ⟨.m "Frac" "__le__", "__le__", "Frac.__le__", st_F_le, []⟩
def d_F_gt : Fd := ⟨.m "Frac" "__gt__", "__gt__", "Frac.__gt__", st_F_gt, []⟩
def d_F_ge : Fd := ⟨.m "Frac" "__ge__", "__ge__", "Frac.__ge__", st_F_ge, []⟩
def d_F_rfloordiv : Fd := ⟨.m "Frac" "__rfloordiv__", "__rfloordiv__", "Frac.__rfloordiv__", st_F_rfloordiv, []⟩
def d_F_mod : Fd := ⟨.m "Frac" "__mod__", "__mod__", "Frac.__mod__", st_F_mod, []⟩
def d_F_rmod : Fd := ⟨.m "Frac" "__rmod__", "__rmod__", "Frac.__rmod__", st_F_rmod, []⟩
def d__law_cell : Fd := ⟨.g "_law_cell", "_law_cell", "_law_cell", st__law_cell, []⟩
def d__law_gcd : Fd := ⟨.g "_law_gcd", "_law_gcd", "_law_gcd", st__law_gcd, []⟩
def d__law_low : Fd := ⟨.g "_law_low", "_law_low", "_law_low", st__law_low, []⟩
def d__law_add : Fd := ⟨.g "_law_add", "_law_add", "_law_add", st__law_add, []⟩
def d__law_mul : Fd := ⟨.g "_law_mul", "_law_mul", "_law_mul", st__law_mul, []⟩
def d__law_floor : Fd := ⟨.g "_law_floor", "_law_floor", "_law_floor", st__law_floor, []⟩
def d__law_great : Fd := ⟨.g "_law_great", "_law_great", "_law_great", st__law_great, []⟩
def d__law_numerator : Fd := ⟨.g "_law_numerator", "_law_numerator", "_law_numerator", st__law_numerator, []⟩
def d__law_denominator : Fd := ⟨.g "_law_denominator", "_law_denominator", "_law_denominator", st__law_denominator, []⟩
def d__law_made : Fd := ⟨.g "_law_made", "_law_made", "_law_made", st__law_made, []⟩
def d__law_integer : Fd := ⟨.g "_law_integer", "_law_integer", "_law_integer", st__law_integer, []⟩
def d__law_truth : Fd := ⟨.g "_law_truth", "_law_truth", "_law_truth", st__law_truth, []⟩
def d__law_is : Fd := ⟨.g "_law_is", "_law_is", "_law_is", st__law_is, []⟩
def d__law_refused : Fd := ⟨.g "_law_refused", "_law_refused", "_law_refused", st__law_refused, []⟩
def d__law_operators : Fd := ⟨.g "_law_operators", "_law_operators", "_law_operators", st__law_operators, []⟩
def d__law_over : Fd := ⟨.g "_law_over", "_law_over", "_law_over", st__law_over, []⟩
def d__law_orders : Fd := ⟨.g "_law_orders", "_law_orders", "_law_orders", st__law_orders, []⟩
def d__law_powers : Fd := ⟨.g "_law_powers", "_law_powers", "_law_powers", st__law_powers, []⟩
def d__law_single : Fd := ⟨.g "_law_single", "_law_single", "_law_single", st__law_single, []⟩
def d__law_in_place : Fd := ⟨.g "_law_in_place", "_law_in_place", "_law_in_place", st__law_in_place, []⟩
def d__law_made_plain : Fd := ⟨.g "_law_made_plain", "_law_made_plain", "_law_made_plain", st__law_made_plain, []⟩
def d_law : Fd := ⟨.g "law", "law", "law", st_law, []⟩
def fns : List Fd := [d_F_init, d_F_over, d_F_floor, d_F_ceiling, d_F_is_whole, d_F_bool, d_F_neg, d_F_abs, d_F_add, d_F_radd, d_F_sub, d_F_rsub, d_F_mul, d_F_rmul, d_F_floordiv, d_F_pow, d_F_eq, d_F_lt, d_F_le, d_F_gt, d_F_ge, d_F_rfloordiv, d_F_mod, d_F_rmod, d__law_cell, d__law_gcd, d__law_low, d__law_add, d__law_mul, d__law_floor, d__law_great, d__law_numerator, d__law_denominator, d__law_made, d__law_integer, d__law_truth, d__law_is, d__law_refused, d__law_operators, d__law_over, d__law_orders, d__law_powers, d__law_single, d__law_in_place, d__law_made_plain, d_law]
def fal : List Fa := [.free "NotImplemented", .free "ValueError", .free "abs", .free "bool", .free "int", .free "isinstance", .free "len", .free "range", .free "str", .glo "BadNumber", .glo "BestError", .glo "DivisionByZero", .glo "Frac", .glo "_law_add", .glo "_law_cell", .glo "_law_denominator", .glo "_law_floor", .glo "_law_gcd", .glo "_law_great", .glo "_law_in_place", .glo "_law_integer", .glo "_law_is", .glo "_law_low", .glo "_law_made", .glo "_law_made_plain", .glo "_law_mul", .glo "_law_numerator", .glo "_law_operators", .glo "_law_orders", .glo "_law_over", .glo "_law_powers", .glo "_law_refused", .glo "_law_single", .glo "_law_truth", .glo "law", .meth "Frac" "over", .meth "Frac" "floor", .meth "Frac" "ceiling", .meth "Frac" "__bool__", .meth "Frac" "__neg__", .meth "Frac" "__abs__", .meth "Frac" "__add__", .meth "Frac" "__radd__", .meth "Frac" "__sub__", .meth "Frac" "__rsub__", .meth "Frac" "__mul__", .meth "Frac" "__rmul__", .meth "Frac" "__floordiv__", .meth "Frac" "__pow__", .meth "Frac" "__eq__", .meth "Frac" "__lt__", .meth "Frac" "__le__", .meth "Frac" "__gt__", .meth "Frac" "__ge__", .meth "Frac" "__rfloordiv__", .meth "Frac" "__mod__", .meth "Frac" "__rmod__", .mkr "Frac"]
def ck (K : PySem.W.Frag) : Bool := S0.ck K && ((fal.all fun f => f.ok K) && (propCk K "Frac" "is_whole" && eqO (PySem.W.nsIn K mainGlobals "gcd") (some (some (.builtin "math.gcd")))))
section
variable {h : Heap}
theorem fact (c : ck K = true) (i : Nat) {f : Fa} (e : fal[i]? = some f := by rfl) : f.ok K = true := List.all_eq_true.mp (ba (ba c).2).1 f (List.mem_of_getElem? e)
theorem gn (X : K.In h) (G : h.Ns mainGlobals mg) (c : ck K = true) : Gn K mg := ⟨He.free_ok X G (fact c 0), He.free_ok X G (fact c 1), He.free_ok X G (fact c 2), He.free_ok X G (fact c 3), He.free_ok X G (fact c 4), He.free_ok X G (fact c 5), He.free_ok X G (fact c 6), He.free_ok X G (fact c 7), He.free_ok X G (fact c 8), He.glo_ok X G (fact c 9), He.glo_ok X G (fact c 10), He.glo_ok X G (fact c 11), He.glo_ok X G (fact c 12), He.glo_ok X G (fact c 13), He.glo_ok X G (fact c 14), He.glo_ok X G (fact c 15), He.glo_ok X G (fact c 16), He.glo_ok X G (fact c 17), He.glo_ok X G (fact c 18), He.glo_ok X G (fact c 19), He.glo_ok X G (fact c 20), He.glo_ok X G (fact c 21), He.glo_ok X G (fact c 22), He.glo_ok X G (fact c 23), He.glo_ok X G (fact c 24), He.glo_ok X G (fact c 25), He.glo_ok X G (fact c 26), He.glo_ok X G (fact c 27), He.glo_ok X G (fact c 28), He.glo_ok X G (fact c 29), He.glo_ok X G (fact c 30), He.glo_ok X G (fact c 31), He.glo_ok X G (fact c 32), He.glo_ok X G (fact c 33), He.glo_ok X G (fact c 34), PySem.W.mg_of X G (eqO_ok (ba (ba (ba c).2).2).2)⟩
theorem dn_ok : ∀ k, k < 40 → S0.nm k = dnm k := fun k hk => if_pos hk
theorem inj_ok : ((List.range S0.N).map S0.nm).Nodup := by decide +kernel
theorem fl_ok : ∀ c ∈ S0.cls, ((S0.fl c).map S0.nm).Nodup ∧ ∀ f ∈ S0.fl c, f < S0.N := by decide +kernel
theorem bi_init {f : Addr} {fd : FuncData} (F : FunD K "__init__" "Frac.__init__" (defArgs st_F_init) (defBody st_F_init) (defScope st_F_init) [.int 0, .int 1] [] f fd) : ∀ j, j ≤ 2 → ∃ dus, Vals (([.int 0, .int 1] : List V).drop j) dus ∧ Binds K fd ["self", "num", "den"] dus
  | 0, _ => F.binds1 1 0 (by simp) rfl fun T kV doc pm an cdv ct us its h1 h2 => match us, its, h1, h2 with
    | [a], [x, y], _, _ => ⟨_, rfl, rfl⟩
  | 1, _ => F.binds1 2 1 (by simp) rfl fun T kV doc pm an cdv ct us its h1 h2 => match us, its, h1, h2 with
    | [a, b], [x, y], _, _ => ⟨_, rfl, rfl⟩
  | 2, _ => F.binds1 3 2 (by simp) rfl fun T kV doc pm an cdv ct us its h1 h2 => match us, its, h1, h2 with
    | [a, b, c], [x, y], _, _ => ⟨_, rfl, rfl⟩
  | j + 3, h => absurd h (by omega)
theorem ni_F_eq {f : Addr} {fd : FuncData} (G : Gn K mg) (hT : T1.Ok P w K mg base 2) (F : FunD K "__eq__" "Frac.__eq__" (defArgs st_F_eq) (defBody st_F_eq) (defScope st_F_eq) [] [] f fd) : NiOk P w K mg base tn 18 n_Frac f fd :=
  ni_mk (tn := tn) (st := st_F_eq) (N := ["self", "other"]) (qual := "Frac.__eq__") (k := 17) (m1 := mIfS (mTru (mCall (isiD T1) [mVar 1, mC (.glob n_Frac)])) (fun _ _ => .bad) mNext) (m2 := mIfS (mTru (mCall (isiD T1) [mVar 1, mC (.ty "int")])) (fun _ _ => .bad) mNext) F sc_F_eq rfl G.f_NotImplemented (fun _ _ _ _ _ => rfl)
    (fun _ _ _ _ _ => es_if (et_val (ex_callB (bl_isi hT rfl) rfl G.f_isinstance (by kernel_rfl) (ea_cons (ex_var 1) (ea_cons (ex_glob n_Frac rfl rfl G.g_Frac) ea_nil)))) (es_one es_bad) es_nil)
    (fun _ _ _ _ _ => es_if (et_val (ex_callB (bl_isi hT rfl) rfl G.f_isinstance (by kernel_rfl) (ea_cons (ex_var 1) (ea_cons (ex_ty rfl G.f_int (by kernel_rfl)) ea_nil)))) (es_one es_bad) es_nil)
    (by
      rintro xs y env S (rfl | ⟨z, rfl⟩) rfl
      · exact ⟨by kernel_rfl, by kernel_rfl⟩
      · exact ⟨by kernel_rfl, by kernel_rfl⟩)
theorem all_ok (X : K.In h) (Gm : h.Ns mainGlobals mg) (c : SaysB ck fns K) : ∃ fd, FunD K "law" "law" (defArgs st_law) (defBody st_law) (defScope st_law) [] [] (ga K "law") fd ∧ FnOk P w K mg base (L2.CX P w) 26 (ga K "law") fd ["_law_script"] (spM ⟨K, mg, tn, none⟩ 1 m_law) := by
  have cc := c.ck
  have G := gn X Gm cc
  have h0 : T0.Ok P w K mg base 0 := St.fine X Gm (ba cc).1 dn_ok inj_ok fl_ok
  obtain ⟨fd_F_init, D_F_init⟩ : ∃ fd, FunD K "__init__" "Frac.__init__" (defArgs st_F_init) (defBody st_F_init) (defScope st_F_init) [.int 0, .int 1] [] (Pl.ad K (.m "Frac" "__init__")) fd := c.def_ 0 (d := d_F_init)
  have h1 : T1.Ok P w K mg base 2 := (h0.mono (by decide)).ak (x := "Frac") rfl rfl G.g_Frac (fact cc 57) rfl (ok_F_init G h0 D_F_init) (fun W => .cons (.int 0) (.cons (.int 1) .nil)) (bi_init D_F_init)
  obtain ⟨fd_F_over, D_F_over⟩ : ∃ fd, FunD K "over" "Frac.over" (defArgs st_F_over) (defBody st_F_over) (defScope st_F_over) [] [] (Pl.ad K (.m "Frac" "over")) fd := c.def_ 1 (d := d_F_over)
  have h2_0 := CT.Ok.am (c := n_Frac) (m := n_over) (L := 6) (h1.mono (by decide)) rfl rfl G.g_Frac (fact cc 35) rfl (ok_F_over G h1 D_F_over) (D_F_over.bindsN fun _ _ _ _ _ _ us hl => match us, hl with | [_, _], _ => rfl)
  obtain ⟨fd_F_floor, D_F_floor⟩ : ∃ fd, FunD K "floor" "Frac.floor" (defArgs st_F_floor) (defBody st_F_floor) (defScope st_F_floor) [] [] (Pl.ad K (.m "Frac" "floor")) fd := c.def_ 2 (d := d_F_floor)
  have h2_1 := CT.Ok.am (c := n_Frac) (m := n_floor) (L := 6) h2_0 rfl rfl G.g_Frac (fact cc 36) rfl (ok_F_floor G h1 D_F_floor) (D_F_floor.bindsN fun _ _ _ _ _ _ us hl => match us, hl with | [_], _ => rfl)
  obtain ⟨fd_F_ceiling, D_F_ceiling⟩ : ∃ fd, FunD K "ceiling" "Frac.ceiling" (defArgs st_F_ceiling) (defBody st_F_ceiling) (defScope st_F_ceiling) [] [] (Pl.ad K (.m "Frac" "ceiling")) fd := c.def_ 3 (d := d_F_ceiling)
  have h2_2 := CT.Ok.am (c := n_Frac) (m := n_ceiling) (L := 6) h2_1 rfl rfl G.g_Frac (fact cc 37) rfl (ok_F_ceiling G h1 D_F_ceiling) (D_F_ceiling.bindsN fun _ _ _ _ _ _ us hl => match us, hl with | [_], _ => rfl)
  obtain ⟨fd_F_is_whole, D_F_is_whole⟩ : ∃ fd, FunD K "is_whole" "Frac.is_whole" (defArgs st_F_is_whole) (defBody st_F_is_whole) (defScope st_F_is_whole) [] [] (Pl.ad K (.p "Frac" "is_whole")) fd := c.def_ 4 (d := d_F_is_whole)
  have h2_3 := CT.Ok.ap (c := n_Frac) (m := n_is_whole) (L := 6) h2_2 rfl rfl G.g_Frac (ba (ba (ba cc).2).2).1 rfl (ok_F_is_whole G h1 D_F_is_whole) (D_F_is_whole.bindsN fun _ _ _ _ _ _ us hl => match us, hl with | [_], _ => rfl)
  obtain ⟨fd_F_bool, D_F_bool⟩ : ∃ fd, FunD K "__bool__" "Frac.__bool__" (defArgs st_F_bool) (defBody st_F_bool) (defScope st_F_bool) [] [] (Pl.ad K (.m "Frac" "__bool__")) fd := c.def_ 5 (d := d_F_bool)
  have h2_4 := CT.Ok.am (c := n_Frac) (m := 21) (L := 6) h2_3 rfl rfl G.g_Frac (fact cc 38) rfl (ok_F_bool G h1 D_F_bool) (D_F_bool.bindsN fun _ _ _ _ _ _ us hl => match us, hl with | [_], _ => rfl)
  obtain ⟨fd_F_neg, D_F_neg⟩ : ∃ fd, FunD K "__neg__" "Frac.__neg__" (defArgs st_F_neg) (defBody st_F_neg) (defScope st_F_neg) [] [] (Pl.ad K (.m "Frac" "__neg__")) fd := c.def_ 6 (d := d_F_neg)
  have h2_5 := CT.Ok.am (c := n_Frac) (m := 19) (L := 6) h2_4 rfl rfl G.g_Frac (fact cc 39) rfl (ok_F_neg G h1 D_F_neg) (D_F_neg.bindsN fun _ _ _ _ _ _ us hl => match us, hl with | [_], _ => rfl)
  obtain ⟨fd_F_abs, D_F_abs⟩ : ∃ fd, FunD K "__abs__" "Frac.__abs__" (defArgs st_F_abs) (defBody st_F_abs) (defScope st_F_abs) [] [] (Pl.ad K (.m "Frac" "__abs__")) fd := c.def_ 7 (d := d_F_abs)
  have h2_6 := CT.Ok.am (c := n_Frac) (m := 20) (L := 6) h2_5 rfl rfl G.g_Frac (fact cc 40) rfl (ok_F_abs G h1 D_F_abs) (D_F_abs.bindsN fun _ _ _ _ _ _ us hl => match us, hl with | [_], _ => rfl)
  obtain ⟨fd_F_add, D_F_add⟩ : ∃ fd, FunD K "__add__" "Frac.__add__" (defArgs st_F_add) (defBody st_F_add) (defScope st_F_add) [] [] (Pl.ad K (.m "Frac" "__add__")) fd := c.def_ 8 (d := d_F_add)
  have h2_7 := CT.Ok.am (c := n_Frac) (m := 1) (L := 6) h2_6 rfl rfl G.g_Frac (fact cc 41) rfl (ok_F_add G h1 D_F_add) (D_F_add.bindsN fun _ _ _ _ _ _ us hl => match us, hl with | [_, _], _ => rfl)
  obtain ⟨fd_F_radd, D_F_radd⟩ : ∃ fd, FunD K "__radd__" "Frac.__radd__" (defArgs st_F_radd) (defBody st_F_radd) (defScope st_F_radd) [] [] (Pl.ad K (.m "Frac" "__radd__")) fd := c.def_ 9 (d := d_F_radd)
  have h2_8 := CT.Ok.am (c := n_Frac) (m := 2) (L := 6) h2_7 rfl rfl G.g_Frac (fact cc 42) rfl (ok_F_radd G h1 D_F_radd) (D_F_radd.bindsN fun _ _ _ _ _ _ us hl => match us, hl with | [_, _], _ => rfl)
  obtain ⟨fd_F_sub, D_F_sub⟩ : ∃ fd, FunD K "__sub__" "Frac.__sub__" (defArgs st_F_sub) (defBody st_F_sub) (defScope st_F_sub) [] [] (Pl.ad K (.m "Frac" "__sub__")) fd := c.def_ 10 (d := d_F_sub)
  have h2_9 := CT.Ok.am (c := n_Frac) (m := 3) (L := 6) h2_8 rfl rfl G.g_Frac (fact cc 43) rfl (ok_F_sub G h1 D_F_sub) (D_F_sub.bindsN fun _ _ _ _ _ _ us hl => match us, hl with | [_, _], _ => rfl)
  obtain ⟨fd_F_rsub, D_F_rsub⟩ : ∃ fd, FunD K "__rsub__" "Frac.__rsub__" (defArgs st_F_rsub) (defBody st_F_rsub) (defScope st_F_rsub) [] [] (Pl.ad K (.m "Frac" "__rsub__")) fd := c.def_ 11 (d := d_F_rsub)
  have h2_10 := CT.Ok.am (c := n_Frac) (m := 4) (L := 6) h2_9 rfl rfl G.g_Frac (fact cc 44) rfl (ok_F_rsub G h1 D_F_rsub) (D_F_rsub.bindsN fun _ _ _ _ _ _ us hl => match us, hl with | [_, _], _ => rfl)
  obtain ⟨fd_F_mul, D_F_mul⟩ : ∃ fd, FunD K "__mul__" "Frac.__mul__" (defArgs st_F_mul) (defBody st_F_mul) (defScope st_F_mul) [] [] (Pl.ad K (.m "Frac" "__mul__")) fd := c.def_ 12 (d := d_F_mul)
  have h2_11 := CT.Ok.am (c := n_Frac) (m := 5) (L := 6) h2_10 rfl rfl G.g_Frac (fact cc 45) rfl (ok_F_mul G h1 D_F_mul) (D_F_mul.bindsN fun _ _ _ _ _ _ us hl => match us, hl with | [_, _], _ => rfl)
  obtain ⟨fd_F_rmul, D_F_rmul⟩ : ∃ fd, FunD K "__rmul__" "Frac.__rmul__" (defArgs st_F_rmul) (defBody st_F_rmul) (defScope st_F_rmul) [] [] (Pl.ad K (.m "Frac" "__rmul__")) fd := c.def_ 13 (d := d_F_rmul)
  have h2_12 := CT.Ok.am (c := n_Frac) (m := 6) (L := 6) h2_11 rfl rfl G.g_Frac (fact cc 46) rfl (ok_F_rmul G h1 D_F_rmul) (D_F_rmul.bindsN fun _ _ _ _ _ _ us hl => match us, hl with | [_, _], _ => rfl)
  obtain ⟨fd_F_floordiv, D_F_floordiv⟩ : ∃ fd, FunD K "__floordiv__" "Frac.__floordiv__" (defArgs st_F_floordiv) (defBody st_F_floordiv) (defScope st_F_floordiv) [] [] (Pl.ad K (.m "Frac" "__floordiv__")) fd := c.def_ 14 (d := d_F_floordiv)
  have h2_13 := CT.Ok.am (c := n_Frac) (m := 7) (L := 6) h2_12 rfl rfl G.g_Frac (fact cc 47) rfl (ok_F_floordiv G h1 D_F_floordiv) (D_F_floordiv.bindsN fun _ _ _ _ _ _ us hl => match us, hl with | [_, _], _ => rfl)
  obtain ⟨fd_F_pow, D_F_pow⟩ : ∃ fd, FunD K "__pow__" "Frac.__pow__" (defArgs st_F_pow) (defBody st_F_pow) (defScope st_F_pow) [] [] (Pl.ad K (.m "Frac" "__pow__")) fd := c.def_ 15 (d := d_F_pow)
  have h2_14 := CT.Ok.am (c := n_Frac) (m := 11) (L := 6) h2_13 rfl rfl G.g_Frac (fact cc 48) rfl (ok_F_pow G h1 D_F_pow) (D_F_pow.bindsN fun _ _ _ _ _ _ us hl => match us, hl with | [_, _], _ => rfl)
  obtain ⟨fd_F_eq, D_F_eq⟩ : ∃ fd, FunD K "__eq__" "Frac.__eq__" (defArgs st_F_eq) (defBody st_F_eq) (defScope st_F_eq) [] [] (Pl.ad K (.m "Frac" "__eq__")) fd := c.def_ 16 (d := d_F_eq)
  have h2_15 := CT.Ok.am (c := n_Frac) (m := 13) (L := 6) h2_14 rfl rfl G.g_Frac (fact cc 49) rfl (ok_F_eq G h1 D_F_eq) (D_F_eq.bindsN fun _ _ _ _ _ _ us hl => match us, hl with | [_, _], _ => rfl)
  obtain ⟨fd_F_lt, D_F_lt⟩ : ∃ fd, FunD K "__lt__" "Frac.__lt__" (defArgs st_F_lt) (defBody st_F_lt) (defScope st_F_lt) [] [] (Pl.ad K (.m "Frac" "__lt__")) fd := c.def_ 17 (d := d_F_lt)
  have h2_16 := CT.Ok.am (c := n_Frac) (m := 15) (L := 6) h2_15 rfl rfl G.g_Frac (fact cc 50) rfl (ok_F_lt G h1 D_F_lt) (D_F_lt.bindsN fun _ _ _ _ _ _ us hl => match us, hl with | [_, _], _ => rfl)
  obtain ⟨fd_F_le, D_F_le⟩ : ∃ fd, FunD K "__le__" "Frac.__le__" (defArgs st_F_le) (defBody st_F_le) (defScope st_F_le) [] [] (Pl.ad K (.m "Frac" "__le__")) fd := c.def_ 18 (d := d_F_le)
  have h2_17 := CT.Ok.am (c := n_Frac) (m := 16) (L := 6) h2_16 rfl rfl G.g_Frac (fact cc 51) rfl (ok_F_le G h1 D_F_le) (D_F_le.bindsN fun _ _ _ _ _ _ us hl => match us, hl with | [_, _], _ => rfl)
  obtain ⟨fd_F_gt, D_F_gt⟩ : ∃ fd, FunD K "__gt__" "Frac.__gt__" (defArgs st_F_gt) (defBody st_F_gt) (defScope st_F_gt) [] [] (Pl.ad K (.m "Frac" "__gt__")) fd := c.def_ 19 (d := d_F_gt)
  have h2_18 := CT.Ok.am (c := n_Frac) (m := 17) (L := 6) h2_17 rfl rfl G.g_Frac (fact cc 52) rfl (ok_F_gt G h1 D_F_gt) (D_F_gt.bindsN fun _ _ _ _ _ _ us hl => match us, hl with | [_, _], _ => rfl)
  obtain ⟨fd_F_ge, D_F_ge⟩ : ∃ fd, FunD K "__ge__" "Frac.__ge__" (defArgs st_F_ge) (defBody st_F_ge) (defScope st_F_ge) [] [] (Pl.ad K (.m "Frac" "__ge__")) fd := c.def_ 20 (d := d_F_ge)
  have h2_19 := CT.Ok.am (c := n_Frac) (m := 18) (L := 6) h2_18 rfl rfl G.g_Frac (fact cc 53) rfl (ok_F_ge G h1 D_F_ge) (D_F_ge.bindsN fun _ _ _ _ _ _ us hl => match us, hl with | [_, _], _ => rfl)
  have h2 : T2.Ok P w K mg base 6 := h2_19
  obtain ⟨fd_F_rfloordiv, D_F_rfloordiv⟩ : ∃ fd, FunD K "__rfloordiv__" "Frac.__rfloordiv__" (defArgs st_F_rfloordiv) (defBody st_F_rfloordiv) (defScope st_F_rfloordiv) [] [] (Pl.ad K (.m "Frac" "__rfloordiv__")) fd := c.def_ 21 (d := d_F_rfloordiv)
  have h3_0 := CT.Ok.am (c := n_Frac) (m := 8) (L := 10) (h2.mono (by decide)) rfl rfl G.g_Frac (fact cc 54) rfl (ok_F_rfloordiv G h2 D_F_rfloordiv) (D_F_rfloordiv.bindsN fun _ _ _ _ _ _ us hl => match us, hl with | [_, _], _ => rfl)
  have h3 : T3.Ok P w K mg base 10 := h3_0
  obtain ⟨fd_F_mod, D_F_mod⟩ : ∃ fd, FunD K "__mod__" "Frac.__mod__" (defArgs st_F_mod) (defBody st_F_mod) (defScope st_F_mod) [] [] (Pl.ad K (.m "Frac" "__mod__")) fd := c.def_ 22 (d := d_F_mod)
  have h3b_0 := CT.Ok.am (c := n_Frac) (m := 9) (L := 14) (h3.mono (by decide)) rfl rfl G.g_Frac (fact cc 55) rfl (ok_F_mod G h3 D_F_mod) (D_F_mod.bindsN fun _ _ _ _ _ _ us hl => match us, hl with | [_, _], _ => rfl)
  have h3b : T3b.Ok P w K mg base 14 := h3b_0
  obtain ⟨fd_F_rmod, D_F_rmod⟩ : ∃ fd, FunD K "__rmod__" "Frac.__rmod__" (defArgs st_F_rmod) (defBody st_F_rmod) (defScope st_F_rmod) [] [] (Pl.ad K (.m "Frac" "__rmod__")) fd := c.def_ 23 (d := d_F_rmod)
  have h4_0 := CT.Ok.am (c := n_Frac) (m := 10) (L := 18) (h3b.mono (by decide)) rfl rfl G.g_Frac (fact cc 56) rfl (ok_F_rmod G h3b D_F_rmod) (D_F_rmod.bindsN fun _ _ _ _ _ _ us hl => match us, hl with | [_, _], _ => rfl)
  have h4 : T4.Ok P w K mg base 18 := h4_0
  have h5 : T5.Ok P w K mg base 18 := CT.Ok.an h4 rfl rfl G.g_Frac (fact cc 49) (ni_F_eq G h1 D_F_eq) (D_F_eq.bindsN fun _ _ _ _ _ _ us hl => match us, hl with | [_, _], _ => rfl)
  obtain ⟨fd__law_cell, D__law_cell⟩ : ∃ fd, FunD K "_law_cell" "_law_cell" (defArgs st__law_cell) (defBody st__law_cell) (defScope st__law_cell) [] [] (Pl.ad K (.g "_law_cell")) fd := c.def_ 24 (d := d__law_cell)
  have K__law_cell : DefOk P w K mg base tn 22 "_law_cell" 2 m__law_cell := DefOk.of D__law_cell G.g__law_cell rfl (ok__law_cell G h5  D__law_cell) (D__law_cell.bindsN fun _ _ _ _ _ _ us hl => match us, hl with | [_, _], _ => rfl)
  obtain ⟨fd__law_gcd, D__law_gcd⟩ : ∃ fd, FunD K "_law_gcd" "_law_gcd" (defArgs st__law_gcd) (defBody st__law_gcd) (defScope st__law_gcd) [] [] (Pl.ad K (.g "_law_gcd")) fd := c.def_ 25 (d := d__law_gcd)
  have K__law_gcd : DefOk P w K mg base tn 22 "_law_gcd" 2 m__law_gcd := DefOk.of D__law_gcd G.g__law_gcd rfl (ok__law_gcd G h5  D__law_gcd) (D__law_gcd.bindsN fun _ _ _ _ _ _ us hl => match us, hl with | [_, _], _ => rfl)
  obtain ⟨fd__law_low, D__law_low⟩ : ∃ fd, FunD K "_law_low" "_law_low" (defArgs st__law_low) (defBody st__law_low) (defScope st__law_low) [] [] (Pl.ad K (.g "_law_low")) fd := c.def_ 26 (d := d__law_low)
  have K__law_low : DefOk P w K mg base tn 23 "_law_low" 2 m__law_low := DefOk.of D__law_low G.g__law_low rfl (ok__law_low G h5 K__law_gcd D__law_low) (D__law_low.bindsN fun _ _ _ _ _ _ us hl => match us, hl with | [_, _], _ => rfl)
  obtain ⟨fd__law_add, D__law_add⟩ : ∃ fd, FunD K "_law_add" "_law_add" (defArgs st__law_add) (defBody st__law_add) (defScope st__law_add) [] [] (Pl.ad K (.g "_law_add")) fd := c.def_ 27 (d := d__law_add)
  have K__law_add : DefOk P w K mg base tn 24 "_law_add" 2 m__law_add := DefOk.of D__law_add G.g__law_add rfl (ok__law_add G h5 K__law_low D__law_add) (D__law_add.bindsN fun _ _ _ _ _ _ us hl => match us, hl with | [_, _], _ => rfl)
  obtain ⟨fd__law_mul, D__law_mul⟩ : ∃ fd, FunD K "_law_mul" "_law_mul" (defArgs st__law_mul) (defBody st__law_mul) (defScope st__law_mul) [] [] (Pl.ad K (.g "_law_mul")) fd := c.def_ 28 (d := d__law_mul)
  have K__law_mul : DefOk P w K mg base tn 24 "_law_mul" 2 m__law_mul := DefOk.of D__law_mul G.g__law_mul rfl (ok__law_mul G h5 K__law_low D__law_mul) (D__law_mul.bindsN fun _ _ _ _ _ _ us hl => match us, hl with | [_, _], _ => rfl)
  obtain ⟨fd__law_floor, D__law_floor⟩ : ∃ fd, FunD K "_law_floor" "_law_floor" (defArgs st__law_floor) (defBody st__law_floor) (defScope st__law_floor) [] [] (Pl.ad K (.g "_law_floor")) fd := c.def_ 29 (d := d__law_floor)
  have K__law_floor : DefOk P w K mg base tn 22 "_law_floor" 2 m__law_floor := DefOk.of D__law_floor G.g__law_floor rfl (ok__law_floor G h5  D__law_floor) (D__law_floor.bindsN fun _ _ _ _ _ _ us hl => match us, hl with | [_, _], _ => rfl)
  obtain ⟨fd__law_great, D__law_great⟩ : ∃ fd, FunD K "_law_great" "_law_great" (defArgs st__law_great) (defBody st__law_great) (defScope st__law_great) [] [] (Pl.ad K (.g "_law_great")) fd := c.def_ 30 (d := d__law_great)
  have K__law_great : DefOk P w K mg base tn 23 "_law_great" 2 m__law_great := DefOk.of D__law_great G.g__law_great rfl (ok__law_great G h5 K__law_cell D__law_great) (D__law_great.bindsN fun _ _ _ _ _ _ us hl => match us, hl with | [_, _], _ => rfl)
  obtain ⟨fd__law_numerator, D__law_numerator⟩ : ∃ fd, FunD K "_law_numerator" "_law_numerator" (defArgs st__law_numerator) (defBody st__law_numerator) (defScope st__law_numerator) [] [] (Pl.ad K (.g "_law_numerator")) fd := c.def_ 31 (d := d__law_numerator)
  have K__law_numerator : DefOk P w K mg base tn 24 "_law_numerator" 2 m__law_numerator := DefOk.of D__law_numerator G.g__law_numerator rfl (ok__law_numerator G h5 K__law_cell K__law_great D__law_numerator) (D__law_numerator.bindsN fun _ _ _ _ _ _ us hl => match us, hl with | [_, _], _ => rfl)
  obtain ⟨fd__law_denominator, D__law_denominator⟩ : ∃ fd, FunD K "_law_denominator" "_law_denominator" (defArgs st__law_denominator) (defBody st__law_denominator) (defScope st__law_denominator) [] [] (Pl.ad K (.g "_law_denominator")) fd := c.def_ 32 (d := d__law_denominator)
  have K__law_denominator : DefOk P w K mg base tn 24 "_law_denominator" 2 m__law_denominator := DefOk.of D__law_denominator G.g__law_denominator rfl (ok__law_denominator G h5 K__law_cell K__law_great D__law_denominator) (D__law_denominator.bindsN fun _ _ _ _ _ _ us hl => match us, hl with | [_, _], _ => rfl)
  obtain ⟨fd__law_made, D__law_made⟩ : ∃ fd, FunD K "_law_made" "_law_made" (defArgs st__law_made) (defBody st__law_made) (defScope st__law_made) [] [] (Pl.ad K (.g "_law_made")) fd := c.def_ 33 (d := d__law_made)
  have K__law_made : DefOk P w K mg base tn 22 "_law_made" 2 m__law_made := DefOk.of D__law_made G.g__law_made rfl (ok__law_made G h5  D__law_made) (D__law_made.bindsN fun _ _ _ _ _ _ us hl => match us, hl with | [_, _], _ => rfl)
  obtain ⟨fd__law_integer, D__law_integer⟩ : ∃ fd, FunD K "_law_integer" "_law_integer" (defArgs st__law_integer) (defBody st__law_integer) (defScope st__law_integer) [] [] (Pl.ad K (.g "_law_integer")) fd := c.def_ 34 (d := d__law_integer)
  have K__law_integer : DefOk P w K mg base tn 22 "_law_integer" 2 m__law_integer := DefOk.of D__law_integer G.g__law_integer rfl (ok__law_integer G h5  D__law_integer) (D__law_integer.bindsN fun _ _ _ _ _ _ us hl => match us, hl with | [_, _], _ => rfl)
  obtain ⟨fd__law_truth, D__law_truth⟩ : ∃ fd, FunD K "_law_truth" "_law_truth" (defArgs st__law_truth) (defBody st__law_truth) (defScope st__law_truth) [] [] (Pl.ad K (.g "_law_truth")) fd := c.def_ 35 (d := d__law_truth)
  have K__law_truth : DefOk P w K mg base tn 22 "_law_truth" 2 m__law_truth := DefOk.of D__law_truth G.g__law_truth rfl (ok__law_truth G h5  D__law_truth) (D__law_truth.bindsN fun _ _ _ _ _ _ us hl => match us, hl with | [_, _], _ => rfl)
  obtain ⟨fd__law_is, D__law_is⟩ : ∃ fd, FunD K "_law_is" "_law_is" (defArgs st__law_is) (defBody st__law_is) (defScope st__law_is) [] [] (Pl.ad K (.g "_law_is")) fd := c.def_ 36 (d := d__law_is)
  have K__law_is : DefOk P w K mg base tn 23 "_law_is" 2 m__law_is := DefOk.of D__law_is G.g__law_is rfl (ok__law_is G h5 K__law_integer D__law_is) (D__law_is.bindsN fun _ _ _ _ _ _ us hl => match us, hl with | [_, _], _ => rfl)
  obtain ⟨fd__law_refused, D__law_refused⟩ : ∃ fd, FunD K "_law_refused" "_law_refused" (defArgs st__law_refused) (defBody st__law_refused) (defScope st__law_refused) [] [] (Pl.ad K (.g "_law_refused")) fd := c.def_ 37 (d := d__law_refused)
  have K__law_refused : DefOk P w K mg base tn 22 "_law_refused" 3 m__law_refused := DefOk.of D__law_refused G.g__law_refused rfl (ok__law_refused G h5  D__law_refused) (D__law_refused.bindsN fun _ _ _ _ _ _ us hl => match us, hl with | [_, _, _], _ => rfl)
  obtain ⟨fd__law_operators, D__law_operators⟩ : ∃ fd, FunD K "_law_operators" "_law_operators" (defArgs st__law_operators) (defBody st__law_operators) (defScope st__law_operators) [] [] (Pl.ad K (.g "_law_operators")) fd := c.def_ 38 (d := d__law_operators)
  have K__law_operators : DefOk P w K mg base tn 25 "_law_operators" 4 m__law_operators := DefOk.of D__law_operators G.g__law_operators rfl (ok__law_operators G h5 K__law_add K__law_is K__law_mul K__law_refused K__law_floor K__law_integer D__law_operators) (D__law_operators.bindsN fun _ _ _ _ _ _ us hl => match us, hl with | [_, _, _, _], _ => rfl)
  obtain ⟨fd__law_over, D__law_over⟩ : ∃ fd, FunD K "_law_over" "_law_over" (defArgs st__law_over) (defBody st__law_over) (defScope st__law_over) [] [] (Pl.ad K (.g "_law_over")) fd := c.def_ 39 (d := d__law_over)
  have K__law_over : DefOk P w K mg base tn 24 "_law_over" 4 m__law_over := DefOk.of D__law_over G.g__law_over rfl (ok__law_over G h5 K__law_refused K__law_low K__law_is D__law_over) (D__law_over.bindsN fun _ _ _ _ _ _ us hl => match us, hl with | [_, _, _, _], _ => rfl)
  obtain ⟨fd__law_orders, D__law_orders⟩ : ∃ fd, FunD K "_law_orders" "_law_orders" (defArgs st__law_orders) (defBody st__law_orders) (defScope st__law_orders) [] [] (Pl.ad K (.g "_law_orders")) fd := c.def_ 40 (d := d__law_orders)
  have K__law_orders : DefOk P w K mg base tn 23 "_law_orders" 4 m__law_orders := DefOk.of D__law_orders G.g__law_orders rfl (ok__law_orders G h5 K__law_truth D__law_orders) (D__law_orders.bindsN fun _ _ _ _ _ _ us hl => match us, hl with | [_, _, _, _], _ => rfl)
  obtain ⟨fd__law_powers, D__law_powers⟩ : ∃ fd, FunD K "_law_powers" "_law_powers" (defArgs st__law_powers) (defBody st__law_powers) (defScope st__law_powers) [] [] (Pl.ad K (.g "_law_powers")) fd := c.def_ 41 (d := d__law_powers)
  have K__law_powers : DefOk P w K mg base tn 24 "_law_powers" 2 m__law_powers := DefOk.of D__law_powers G.g__law_powers rfl (ok__law_powers G h5 K__law_is D__law_powers) (D__law_powers.bindsN fun _ _ _ _ _ _ us hl => match us, hl with | [_, _], _ => rfl)
  obtain ⟨fd__law_single, D__law_single⟩ : ∃ fd, FunD K "_law_single" "_law_single" (defArgs st__law_single) (defBody st__law_single) (defScope st__law_single) [] [] (Pl.ad K (.g "_law_single")) fd := c.def_ 42 (d := d__law_single)
  have K__law_single : DefOk P w K mg base tn 24 "_law_single" 2 m__law_single := DefOk.of D__law_single G.g__law_single rfl (ok__law_single G h5 K__law_is K__law_integer K__law_truth D__law_single) (D__law_single.bindsN fun _ _ _ _ _ _ us hl => match us, hl with | [_, _], _ => rfl)
  obtain ⟨fd__law_in_place, D__law_in_place⟩ : ∃ fd, FunD K "_law_in_place" "_law_in_place" (defArgs st__law_in_place) (defBody st__law_in_place) (defScope st__law_in_place) [] [] (Pl.ad K (.g "_law_in_place")) fd := c.def_ 43 (d := d__law_in_place)
  have K__law_in_place : DefOk P w K mg base tn 25 "_law_in_place" 4 m__law_in_place := DefOk.of D__law_in_place G.g__law_in_place rfl (ok__law_in_place G h5 K__law_add K__law_is K__law_mul K__law_floor K__law_integer D__law_in_place) (D__law_in_place.bindsN fun _ _ _ _ _ _ us hl => match us, hl with | [_, _, _, _], _ => rfl)
  obtain ⟨fd__law_made_plain, D__law_made_plain⟩ : ∃ fd, FunD K "_law_made_plain" "_law_made_plain" (defArgs st__law_made_plain) (defBody st__law_made_plain) (defScope st__law_made_plain) [] [] (Pl.ad K (.g "_law_made_plain")) fd := c.def_ 44 (d := d__law_made_plain)
  have K__law_made_plain : DefOk P w K mg base tn 24 "_law_made_plain" 1 m__law_made_plain := DefOk.of D__law_made_plain G.g__law_made_plain rfl (ok__law_made_plain G h5 K__law_is K__law_refused D__law_made_plain) (D__law_made_plain.bindsN fun _ _ _ _ _ _ us hl => match us, hl with | [_], _ => rfl)
  obtain ⟨fd_law, D_law⟩ : ∃ fd, FunD K "law" "law" (defArgs st_law) (defBody st_law) (defScope st_law) [] [] (Pl.ad K (.g "law")) fd := c.def_ 45 (d := d_law)
  exact ⟨fd_law, D_law, ok_law G h5 K__law_numerator K__law_denominator K__law_low K__law_cell K__law_made K__law_is K__law_made_plain K__law_over K__law_operators K__law_orders K__law_single K__law_powers K__law_in_place D_law⟩
end
end
end Lw


set_option Elab.async false
set_option linter.all false
set_option maxRecDepth 100000
set_option maxHeartbeats 1000000
/-! PF: Frac's methods by integers. -/
namespace Lw
open PySem L2 PyProof.Rows He Bp
abbrev Fr (n d : Int) : D := .ins n_Frac [.int n, .int d]
def mkF (n d : Int) : D := Fr (n.fdiv (sg n d)) (d.fdiv (sg n d))
theorem t0a : T0.no n_Frac n_num = true := by decide +kernel
theorem t0b : T0.no n_Frac n_den = true := by decide +kernel
theorem t0c : T0.kn n_Frac = true := by decide +kernel
theorem t0d : n_num < T0.N := by decide +kernel
theorem t0e : n_den < T0.N := by decide +kernel
theorem t0f : T0.exo n_DivisionByZero = true := by decide +kernel
theorem nne : ¬ n_num = n_den := by decide
theorem lg0 : lg 0 = 0 := by decide
theorem init_eq {S : Store} {n d : Int} (hd : d ≠ 0) (h1 : (Nat.gcd n.natAbs d.natAbs).log2 < 9000) : m_F_init [.ref S.length, .int n, .int d] (S ++ [.obj n_Frac []]) = .ok .non (S ++ [.obj n_Frac [(n_num, .int (n.fdiv (sg n d))), (n_den, .int (d.fdiv (sg n d)))]]) := by
  have hg : Nat.gcd n.natAbs d.natAbs ≠ 0 := gcd_ne hd
  have hg2 : ¬ (n = 0 ∧ d = 0) := fun h => hd h.2
  have e : b_F_init (([D.ref S.length, .int n, .int d] : List D).map some ++ List.replicate (4 - 3) none) (S ++ [.obj n_Frac []]) = .nx [some (.ref S.length), some (.int n), some (.int d), some (.int (sg n d))] (S ++ [.obj n_Frac [(n_num, .int (n.fdiv (sg n d))), (n_den, .int (d.fdiv (sg n d)))]]) := by
    unfold b_F_init sg
    by_cases h : d < 0
    · simp [gcdD, setD, opD, Bp.intOp, h, hd, putD, h1, hg2, t0a, t0b, t0c, t0d, t0e, nne]
    · simp [gcdD, setD, opD, Bp.intOp, h, hd, putD, h1, hg2, t0a, t0b, t0c, t0d, t0e, nne]
  unfold m_F_init mDef
  show gc _ (finD (b_F_init _ _)) = _
  rw [show (List.map some ([D.ref S.length, D.int n, D.int d] : List D) ++ List.replicate (4 - ([D.ref S.length, D.int n, D.int d] : List D).length) none) = (([D.ref S.length, .int n, .int d] : List D).map some ++ List.replicate (4 - 3) none) from rfl, e]
  exact gc_non (by simp)
theorem init_zero {S : Store} {n : Int} : m_F_init [.ref S.length, .int n, .int 0] (S ++ [.obj n_Frac []]) = .exc ⟨n_DivisionByZero, [], []⟩ (S ++ [.obj n_Frac []]) := by
  unfold m_F_init b_F_init
  simp [t0f]
theorem new_eq {T : CT} (hm : T.mkr n_Frac = some (3, [.int 0, .int 1], m_F_init)) (hf : T.tn.fl n_Frac = [n_num, n_den]) {S : Store} {n d : Int} (hd : d ≠ 0) (h1 : (Nat.gcd n.natAbs d.natAbs).log2 < 9000) : newD T n_Frac [.int n, .int d] S = .ok (mkF n d) S := by
  unfold newD
  rw [hm]
  simp [init_eq hd h1, newFin, hf, belows, below, mkF]
theorem new_zero {T : CT} (hm : T.mkr n_Frac = some (3, [.int 0, .int 1], m_F_init)) {S : Store} {n : Int} : newD T n_Frac [.int n, .int 0] S = .exc ⟨n_DivisionByZero, [], []⟩ S := by
  unfold newD
  rw [hm]
  simp [init_zero, newFin, belows]
theorem new_one {T : CT} (hm : T.mkr n_Frac = some (3, [.int 0, .int 1], m_F_init)) (hf : T.tn.fl n_Frac = [n_num, n_den]) {S : Store} {n : Int} : newD T n_Frac [.int n] S = .ok (Fr n 1) S := by
  unfold newD
  rw [hm]
  have := init_eq (S := S) (n := n) (d := 1) (by decide) (by simp; decide)
  simp [this, newFin, hf, belows, below, sg]
theorem new_none {T : CT} (hm : T.mkr n_Frac = some (3, [.int 0, .int 1], m_F_init)) (hf : T.tn.fl n_Frac = [n_num, n_den]) {S : Store} : newD T n_Frac [] S = .ok (Fr 0 1) S := by
  unfold newD
  rw [hm]
  have := init_eq (S := S) (n := 0) (d := 1) (by decide) (by decide)
  simp [this, newFin, hf, belows, below, sg]
/-! ### the tables' facts at any level -/
structure Tab (T : CT) : Prop where
  nonum : T.no n_Frac n_num = true
  noden : T.no n_Frac n_den = true
  kn : T.kn n_Frac = true
  fl : T.tn.fl n_Frac = [n_num, n_den]
  mkr : T.mkr n_Frac = some (3, [.int 0, .int 1], m_F_init)
  i1 : T.isi (.c n_Frac) (.c n_Frac) = some true
  i2 : T.isi (.b "int") (.c n_Frac) = some false
  i3 : T.isi (.b "int") (.b "int") = some true
  i4 : T.isi (.c n_Frac) (.b "int") = some false
  i5 : T.isi (.c n_Frac) (.b "bool") = some false
  i6 : T.isi (.b "int") (.b "bool") = some false
  i7 : T.isi (.b "bool") (.b "int") = some true
  i8 : T.isi (.b "bool") (.b "bool") = some true

theorem tab1 : Tab T1 := ⟨by kernel_rfl, by kernel_rfl, by kernel_rfl, by kernel_rfl, by kernel_rfl, by kernel_rfl, by kernel_rfl, by kernel_rfl, by kernel_rfl, by kernel_rfl, by kernel_rfl, by kernel_rfl, by kernel_rfl⟩
theorem tab2 : Tab T2 := ⟨by kernel_rfl, by kernel_rfl, by kernel_rfl, by kernel_rfl, by kernel_rfl, by kernel_rfl, by kernel_rfl, by kernel_rfl, by kernel_rfl, by kernel_rfl, by kernel_rfl, by kernel_rfl, by kernel_rfl⟩
theorem tab3 : Tab T3 := ⟨by kernel_rfl, by kernel_rfl, by kernel_rfl, by kernel_rfl, by kernel_rfl, by kernel_rfl, by kernel_rfl, by kernel_rfl, by kernel_rfl, by kernel_rfl, by kernel_rfl, by kernel_rfl, by kernel_rfl⟩
theorem tab3b : Tab T3b := ⟨by kernel_rfl, by kernel_rfl, by kernel_rfl, by kernel_rfl, by kernel_rfl, by kernel_rfl, by kernel_rfl, by kernel_rfl, by kernel_rfl, by kernel_rfl, by kernel_rfl, by kernel_rfl, by kernel_rfl⟩
theorem tab5 : Tab T5 := ⟨by kernel_rfl, by kernel_rfl, by kernel_rfl, by kernel_rfl, by kernel_rfl, by kernel_rfl, by kernel_rfl, by kernel_rfl, by kernel_rfl, by kernel_rfl, by kernel_rfl, by kernel_rfl, by kernel_rfl⟩
theorem at_num {T : CT} (t : Tab T) {S : Store} {a b : Int} : attrD T n_num (Fr a b) S = .ok (.int a) S := by simp [attrD, t.nonum, t.kn, t.fl, List.idxOf?, List.findIdx?, List.findIdx?.go]
theorem at_den {T : CT} (t : Tab T) {S : Store} {a b : Int} : attrD T n_den (Fr a b) S = .ok (.int b) S := by simp [attrD, t.noden, t.kn, t.fl, nne, List.idxOf?, List.findIdx?, List.findIdx?.go]
theorem is_ff {T : CT} (t : Tab T) {S : Store} {a b : Int} : isiD T [Fr a b, .glob n_Frac] S = .ok (.bl true) S := by simp [isiD, tagD, clsTg, t.kn, t.i1]
theorem is_if {T : CT} (t : Tab T) {S : Store} {a : Int} : isiD T [.int a, .glob n_Frac] S = .ok (.bl false) S := by simp [isiD, tagD, clsTg, t.i2]
theorem is_ii {T : CT} (t : Tab T) {S : Store} {a : Int} : isiD T [.int a, .ty "int"] S = .ok (.bl true) S := by simp [isiD, tagD, clsTg, t.i3]
theorem is_fi {T : CT} (t : Tab T) {S : Store} {a b : Int} : isiD T [Fr a b, .ty "int"] S = .ok (.bl false) S := by simp [isiD, tagD, clsTg, t.kn, t.i4]
theorem is_ib {T : CT} (t : Tab T) {S : Store} {a : Int} : isiD T [.int a, .ty "bool"] S = .ok (.bl false) S := by simp [isiD, tagD, clsTg, t.i6]
theorem is_bb {T : CT} (t : Tab T) {S : Store} {x : Bool} : isiD T [.bl x, .ty "bool"] S = .ok (.bl true) S := by simp [isiD, tagD, clsTg, t.i8]
theorem is_fp {T : CT} (t : Tab T) {S : Store} {a b : Int} : isiD T [Fr a b, .tup [.ty "int", .glob n_Frac]] S = .ok (.bl true) S := by simp [isiD, isiAny, tagD, clsTg, t.kn, t.i1, t.i4]
theorem is_ip {T : CT} (t : Tab T) {S : Store} {a : Int} : isiD T [.int a, .tup [.ty "int", .glob n_Frac]] S = .ok (.bl true) S := by simp [isiD, isiAny, tagD, clsTg, t.i2, t.i3]

theorem add_ff {S : Store} {a b c d : Int} (ha : lg a ≤ 4000) (hb : lg b ≤ 4000) (hc : lg c ≤ 4000) (hd : lg d ≤ 4000) (h0 : b * d ≠ 0) (h1 : lg (b * d) < 9000) : m_F_add [Fr a b, Fr c d] S = .ok (mkF (a * d + c * b) (b * d)) S := by
  have hn := new_eq (S := S) tab1.mkr tab1.fl (n := a * d + c * b) (d := b * d) h0 (Nat.lt_of_le_of_lt (lg_gcd h0 (Nat.le_refl _)) h1)
  have qab : lg a + lg b < 1000000 := by omega
  have qac : lg a + lg c < 1000000 := by omega
  have qad : lg a + lg d < 1000000 := by omega
  have qbc : lg b + lg c < 1000000 := by omega
  have qbd : lg b + lg d < 1000000 := by omega
  have qcb : lg c + lg b < 1000000 := by omega
  have qcd : lg c + lg d < 1000000 := by omega
  have qca : lg c + lg a < 1000000 := by omega
  unfold m_F_add b_F_add
  simp [at_num tab1, at_den tab1, is_ff tab1, is_if tab1, is_ii tab1, is_fi tab1, hn, opi_mul qab, opi_mul qac, opi_mul qad, opi_mul qbc, opi_mul qbd, opi_mul qcb, opi_mul qcd, opi_mul qca]
theorem sub_ff {S : Store} {a b c d : Int} (ha : lg a ≤ 4000) (hb : lg b ≤ 4000) (hc : lg c ≤ 4000) (hd : lg d ≤ 4000) (h0 : b * d ≠ 0) (h1 : lg (b * d) < 9000) : m_F_sub [Fr a b, Fr c d] S = .ok (mkF (a * d - c * b) (b * d)) S := by
  have hn := new_eq (S := S) tab1.mkr tab1.fl (n := a * d - c * b) (d := b * d) h0 (Nat.lt_of_le_of_lt (lg_gcd h0 (Nat.le_refl _)) h1)
  have qab : lg a + lg b < 1000000 := by omega
  have qac : lg a + lg c < 1000000 := by omega
  have qad : lg a + lg d < 1000000 := by omega
  have qbc : lg b + lg c < 1000000 := by omega
  have qbd : lg b + lg d < 1000000 := by omega
  have qcb : lg c + lg b < 1000000 := by omega
  have qcd : lg c + lg d < 1000000 := by omega
  have qca : lg c + lg a < 1000000 := by omega
  unfold m_F_sub b_F_sub
  simp [at_num tab1, at_den tab1, is_ff tab1, is_if tab1, is_ii tab1, is_fi tab1, hn, opi_mul qab, opi_mul qac, opi_mul qad, opi_mul qbc, opi_mul qbd, opi_mul qcb, opi_mul qcd, opi_mul qca]
theorem mul_ff {S : Store} {a b c d : Int} (ha : lg a ≤ 4000) (hb : lg b ≤ 4000) (hc : lg c ≤ 4000) (hd : lg d ≤ 4000) (h0 : b * d ≠ 0) (h1 : lg (b * d) < 9000) : m_F_mul [Fr a b, Fr c d] S = .ok (mkF (a * c) (b * d)) S := by
  have hn := new_eq (S := S) tab1.mkr tab1.fl (n := a * c) (d := b * d) h0 (Nat.lt_of_le_of_lt (lg_gcd h0 (Nat.le_refl _)) h1)
  have qab : lg a + lg b < 1000000 := by omega
  have qac : lg a + lg c < 1000000 := by omega
  have qad : lg a + lg d < 1000000 := by omega
  have qbc : lg b + lg c < 1000000 := by omega
  have qbd : lg b + lg d < 1000000 := by omega
  have qcb : lg c + lg b < 1000000 := by omega
  have qcd : lg c + lg d < 1000000 := by omega
  have qca : lg c + lg a < 1000000 := by omega
  unfold m_F_mul b_F_mul
  simp [at_num tab1, at_den tab1, is_ff tab1, is_if tab1, is_ii tab1, is_fi tab1, hn, opi_mul qab, opi_mul qac, opi_mul qad, opi_mul qbc, opi_mul qbd, opi_mul qcb, opi_mul qcd, opi_mul qca]
theorem add_fi {S : Store} {a b c d : Int} (ha : lg a ≤ 4000) (hb : lg b ≤ 4000) (hc : lg c ≤ 4000) (hd : lg d ≤ 4000) (h0 : b ≠ 0) (h1 : lg (b) < 9000) : m_F_add [Fr a b, .int c] S = .ok (mkF (a + c * b) (b)) S := by
  have hn := new_eq (S := S) tab1.mkr tab1.fl (n := a + c * b) (d := b) h0 (Nat.lt_of_le_of_lt (lg_gcd h0 (Nat.le_refl _)) h1)
  have qab : lg a + lg b < 1000000 := by omega
  have qac : lg a + lg c < 1000000 := by omega
  have qad : lg a + lg d < 1000000 := by omega
  have qbc : lg b + lg c < 1000000 := by omega
  have qbd : lg b + lg d < 1000000 := by omega
  have qcb : lg c + lg b < 1000000 := by omega
  have qcd : lg c + lg d < 1000000 := by omega
  have qca : lg c + lg a < 1000000 := by omega
  unfold m_F_add b_F_add
  simp [at_num tab1, at_den tab1, is_ff tab1, is_if tab1, is_ii tab1, is_fi tab1, hn, opi_mul qab, opi_mul qac, opi_mul qad, opi_mul qbc, opi_mul qbd, opi_mul qcb, opi_mul qcd, opi_mul qca]
theorem sub_fi {S : Store} {a b c d : Int} (ha : lg a ≤ 4000) (hb : lg b ≤ 4000) (hc : lg c ≤ 4000) (hd : lg d ≤ 4000) (h0 : b ≠ 0) (h1 : lg (b) < 9000) : m_F_sub [Fr a b, .int c] S = .ok (mkF (a - c * b) (b)) S := by
  have hn := new_eq (S := S) tab1.mkr tab1.fl (n := a - c * b) (d := b) h0 (Nat.lt_of_le_of_lt (lg_gcd h0 (Nat.le_refl _)) h1)
  have qab : lg a + lg b < 1000000 := by omega
  have qac : lg a + lg c < 1000000 := by omega
  have qad : lg a + lg d < 1000000 := by omega
  have qbc : lg b + lg c < 1000000 := by omega
  have qbd : lg b + lg d < 1000000 := by omega
  have qcb : lg c + lg b < 1000000 := by omega
  have qcd : lg c + lg d < 1000000 := by omega
  have qca : lg c + lg a < 1000000 := by omega
  unfold m_F_sub b_F_sub
  simp [at_num tab1, at_den tab1, is_ff tab1, is_if tab1, is_ii tab1, is_fi tab1, hn, opi_mul qab, opi_mul qac, opi_mul qad, opi_mul qbc, opi_mul qbd, opi_mul qcb, opi_mul qcd, opi_mul qca]
theorem mul_fi {S : Store} {a b c d : Int} (ha : lg a ≤ 4000) (hb : lg b ≤ 4000) (hc : lg c ≤ 4000) (hd : lg d ≤ 4000) (h0 : b ≠ 0) (h1 : lg (b) < 9000) : m_F_mul [Fr a b, .int c] S = .ok (mkF (a * c) (b)) S := by
  have hn := new_eq (S := S) tab1.mkr tab1.fl (n := a * c) (d := b) h0 (Nat.lt_of_le_of_lt (lg_gcd h0 (Nat.le_refl _)) h1)
  have qab : lg a + lg b < 1000000 := by omega
  have qac : lg a + lg c < 1000000 := by omega
  have qad : lg a + lg d < 1000000 := by omega
  have qbc : lg b + lg c < 1000000 := by omega
  have qbd : lg b + lg d < 1000000 := by omega
  have qcb : lg c + lg b < 1000000 := by omega
  have qcd : lg c + lg d < 1000000 := by omega
  have qca : lg c + lg a < 1000000 := by omega
  unfold m_F_mul b_F_mul
  simp [at_num tab1, at_den tab1, is_ff tab1, is_if tab1, is_ii tab1, is_fi tab1, hn, opi_mul qab, opi_mul qac, opi_mul qad, opi_mul qbc, opi_mul qbd, opi_mul qcb, opi_mul qcd, opi_mul qca]
theorem radd_fi {S : Store} {a b c d : Int} (ha : lg a ≤ 4000) (hb : lg b ≤ 4000) (hc : lg c ≤ 4000) (hd : lg d ≤ 4000) (h0 : b ≠ 0) (h1 : lg (b) < 9000) : m_F_radd [Fr a b, .int c] S = .ok (mkF (c * b + a) (b)) S := by
  have hn := new_eq (S := S) tab1.mkr tab1.fl (n := c * b + a) (d := b) h0 (Nat.lt_of_le_of_lt (lg_gcd h0 (Nat.le_refl _)) h1)
  have qab : lg a + lg b < 1000000 := by omega
  have qac : lg a + lg c < 1000000 := by omega
  have qad : lg a + lg d < 1000000 := by omega
  have qbc : lg b + lg c < 1000000 := by omega
  have qbd : lg b + lg d < 1000000 := by omega
  have qcb : lg c + lg b < 1000000 := by omega
  have qcd : lg c + lg d < 1000000 := by omega
  have qca : lg c + lg a < 1000000 := by omega
  unfold m_F_radd b_F_radd
  simp [at_num tab1, at_den tab1, is_ff tab1, is_if tab1, is_ii tab1, is_fi tab1, hn, opi_mul qab, opi_mul qac, opi_mul qad, opi_mul qbc, opi_mul qbd, opi_mul qcb, opi_mul qcd, opi_mul qca]
theorem rsub_fi {S : Store} {a b c d : Int} (ha : lg a ≤ 4000) (hb : lg b ≤ 4000) (hc : lg c ≤ 4000) (hd : lg d ≤ 4000) (h0 : b ≠ 0) (h1 : lg (b) < 9000) : m_F_rsub [Fr a b, .int c] S = .ok (mkF (c * b - a) (b)) S := by
  have hn := new_eq (S := S) tab1.mkr tab1.fl (n := c * b - a) (d := b) h0 (Nat.lt_of_le_of_lt (lg_gcd h0 (Nat.le_refl _)) h1)
  have qab : lg a + lg b < 1000000 := by omega
  have qac : lg a + lg c < 1000000 := by omega
  have qad : lg a + lg d < 1000000 := by omega
  have qbc : lg b + lg c < 1000000 := by omega
  have qbd : lg b + lg d < 1000000 := by omega
  have qcb : lg c + lg b < 1000000 := by omega
  have qcd : lg c + lg d < 1000000 := by omega
  have qca : lg c + lg a < 1000000 := by omega
  unfold m_F_rsub b_F_rsub
  simp [at_num tab1, at_den tab1, is_ff tab1, is_if tab1, is_ii tab1, is_fi tab1, hn, opi_mul qab, opi_mul qac, opi_mul qad, opi_mul qbc, opi_mul qbd, opi_mul qcb, opi_mul qcd, opi_mul qca]
theorem rmul_fi {S : Store} {a b c d : Int} (ha : lg a ≤ 4000) (hb : lg b ≤ 4000) (hc : lg c ≤ 4000) (hd : lg d ≤ 4000) (h0 : b ≠ 0) (h1 : lg (b) < 9000) : m_F_rmul [Fr a b, .int c] S = .ok (mkF (c * a) (b)) S := by
  have hn := new_eq (S := S) tab1.mkr tab1.fl (n := c * a) (d := b) h0 (Nat.lt_of_le_of_lt (lg_gcd h0 (Nat.le_refl _)) h1)
  have qab : lg a + lg b < 1000000 := by omega
  have qac : lg a + lg c < 1000000 := by omega
  have qad : lg a + lg d < 1000000 := by omega
  have qbc : lg b + lg c < 1000000 := by omega
  have qbd : lg b + lg d < 1000000 := by omega
  have qcb : lg c + lg b < 1000000 := by omega
  have qcd : lg c + lg d < 1000000 := by omega
  have qca : lg c + lg a < 1000000 := by omega
  unfold m_F_rmul b_F_rmul
  simp [at_num tab1, at_den tab1, is_ff tab1, is_if tab1, is_ii tab1, is_fi tab1, hn, opi_mul qab, opi_mul qac, opi_mul qad, opi_mul qbc, opi_mul qbd, opi_mul qcb, opi_mul qcd, opi_mul qca]
theorem over_ff {S : Store} {a b c d : Int} (ha : lg a ≤ 4000) (hb : lg b ≤ 4000) (hc : lg c ≤ 4000) (hd : lg d ≤ 4000) (h0 : b * c ≠ 0) (h1 : lg (b * c) < 9000) : m_F_over [Fr a b, Fr c d] S = .ok (mkF (a * d) (b * c)) S := by
  have hn := new_eq (S := S) tab1.mkr tab1.fl (n := a * d) (d := b * c) h0 (Nat.lt_of_le_of_lt (lg_gcd h0 (Nat.le_refl _)) h1)
  have qab : lg a + lg b < 1000000 := by omega
  have qac : lg a + lg c < 1000000 := by omega
  have qad : lg a + lg d < 1000000 := by omega
  have qbc : lg b + lg c < 1000000 := by omega
  have qbd : lg b + lg d < 1000000 := by omega
  have qcb : lg c + lg b < 1000000 := by omega
  have qcd : lg c + lg d < 1000000 := by omega
  have qca : lg c + lg a < 1000000 := by omega
  unfold m_F_over b_F_over
  simp [at_num tab1, at_den tab1, is_ff tab1, is_if tab1, is_ii tab1, is_fi tab1, hn, opi_mul qab, opi_mul qac, opi_mul qad, opi_mul qbc, opi_mul qbd, opi_mul qcb, opi_mul qcd, opi_mul qca]
theorem over_fi {S : Store} {a b c d : Int} (ha : lg a ≤ 4000) (hb : lg b ≤ 4000) (hc : lg c ≤ 4000) (hd : lg d ≤ 4000) (h0 : b * c ≠ 0) (h1 : lg (b * c) < 9000) : m_F_over [Fr a b, .int c] S = .ok (mkF (a) (b * c)) S := by
  have hn := new_eq (S := S) tab1.mkr tab1.fl (n := a) (d := b * c) h0 (Nat.lt_of_le_of_lt (lg_gcd h0 (Nat.le_refl _)) h1)
  have qab : lg a + lg b < 1000000 := by omega
  have qac : lg a + lg c < 1000000 := by omega
  have qad : lg a + lg d < 1000000 := by omega
  have qbc : lg b + lg c < 1000000 := by omega
  have qbd : lg b + lg d < 1000000 := by omega
  have qcb : lg c + lg b < 1000000 := by omega
  have qcd : lg c + lg d < 1000000 := by omega
  have qca : lg c + lg a < 1000000 := by omega
  unfold m_F_over b_F_over
  simp [at_num tab1, at_den tab1, is_ff tab1, is_if tab1, is_ii tab1, is_fi tab1, hn, opi_mul qab, opi_mul qac, opi_mul qad, opi_mul qbc, opi_mul qbd, opi_mul qcb, opi_mul qcd, opi_mul qca]
theorem neg_f {S : Store} {a b c d : Int} (ha : lg a ≤ 4000) (hb : lg b ≤ 4000) (hc : lg c ≤ 4000) (hd : lg d ≤ 4000) (h0 : b ≠ 0) (h1 : lg (b) < 9000) : m_F_neg [Fr a b] S = .ok (mkF (-a) (b)) S := by
  have hn := new_eq (S := S) tab1.mkr tab1.fl (n := -a) (d := b) h0 (Nat.lt_of_le_of_lt (lg_gcd h0 (Nat.le_refl _)) h1)
  have qab : lg a + lg b < 1000000 := by omega
  have qac : lg a + lg c < 1000000 := by omega
  have qad : lg a + lg d < 1000000 := by omega
  have qbc : lg b + lg c < 1000000 := by omega
  have qbd : lg b + lg d < 1000000 := by omega
  have qcb : lg c + lg b < 1000000 := by omega
  have qcd : lg c + lg d < 1000000 := by omega
  have qca : lg c + lg a < 1000000 := by omega
  unfold m_F_neg b_F_neg
  simp [at_num tab1, at_den tab1, is_ff tab1, is_if tab1, is_ii tab1, is_fi tab1, hn, opi_mul qab, opi_mul qac, opi_mul qad, opi_mul qbc, opi_mul qbd, opi_mul qcb, opi_mul qcd, opi_mul qca]
theorem abs_f {S : Store} {a b c d : Int} (ha : lg a ≤ 4000) (hb : lg b ≤ 4000) (hc : lg c ≤ 4000) (hd : lg d ≤ 4000) (h0 : b ≠ 0) (h1 : lg (b) < 9000) : m_F_abs [Fr a b] S = .ok (mkF (if a < 0 then -a else a) (b)) S := by
  have hn := new_eq (S := S) tab1.mkr tab1.fl (n := if a < 0 then -a else a) (d := b) h0 (Nat.lt_of_le_of_lt (lg_gcd h0 (Nat.le_refl _)) h1)
  have qab : lg a + lg b < 1000000 := by omega
  have qac : lg a + lg c < 1000000 := by omega
  have qad : lg a + lg d < 1000000 := by omega
  have qbc : lg b + lg c < 1000000 := by omega
  have qbd : lg b + lg d < 1000000 := by omega
  have qcb : lg c + lg b < 1000000 := by omega
  have qcd : lg c + lg d < 1000000 := by omega
  have qca : lg c + lg a < 1000000 := by omega
  unfold m_F_abs b_F_abs
  simp [at_num tab1, at_den tab1, is_ff tab1, is_if tab1, is_ii tab1, is_fi tab1, hn, opi_mul qab, opi_mul qac, opi_mul qad, opi_mul qbc, opi_mul qbd, opi_mul qcb, opi_mul qcd, opi_mul qca]
theorem exo1 : T1.exo n_DivisionByZero = true := by kernel_rfl
theorem over_z {S : Store} {a b c d : Int} (ha : lg a ≤ 4000) (hb : lg b ≤ 4000) (hc : lg c ≤ 4000) (hd : lg d ≤ 4000) : m_F_over [Fr a b, Fr 0 d] S = .exc ⟨n_DivisionByZero, [], []⟩ S := by
  have hn := new_zero (S := S) tab1.mkr (n := a * d)
  have qab : lg a + lg b < 1000000 := by omega
  have qac : lg a + lg c < 1000000 := by omega
  have qad : lg a + lg d < 1000000 := by omega
  have qbc : lg b + lg c < 1000000 := by omega
  have qbd : lg b + lg d < 1000000 := by omega
  have qcb : lg c + lg b < 1000000 := by omega
  have qcd : lg c + lg d < 1000000 := by omega
  have qca : lg c + lg a < 1000000 := by omega
  have hz := opi_mul (T := T1) (S := S) (i := b) (j := 0) (by rw [lg0]; omega)
  rw [Int.mul_zero] at hz
  unfold m_F_over b_F_over
  simp [at_num tab1, at_den tab1, is_ff tab1, is_if tab1, is_ii tab1, is_fi tab1, hn, hz, opi_mul qab, opi_mul qac, opi_mul qad, opi_mul qbc, opi_mul qbd, opi_mul qcb, opi_mul qcd, opi_mul qca]
theorem over_zi {S : Store} {a b c d : Int} (ha : lg a ≤ 4000) (hb : lg b ≤ 4000) (hc : lg c ≤ 4000) (hd : lg d ≤ 4000) : m_F_over [Fr a b, .int 0] S = .exc ⟨n_DivisionByZero, [], []⟩ S := by
  have hn := new_zero (S := S) tab1.mkr (n := a)
  have hz := opi_mul (T := T1) (S := S) (i := b) (j := 0) (by rw [lg0]; omega)
  rw [Int.mul_zero] at hz
  unfold m_F_over b_F_over
  simp [at_num tab1, at_den tab1, is_ff tab1, is_if tab1, is_ii tab1, is_fi tab1, hn, hz]
theorem floordiv_ff {S : Store} {a b c d : Int} (ha : lg a ≤ 4000) (hb : lg b ≤ 4000) (hc : lg c ≤ 4000) (hd : lg d ≤ 4000) (h0 : b * c ≠ 0) (h2 : lg (b * c) < 9000) : m_F_floordiv [Fr a b, Fr c d] S = .ok (.int ((a * d).fdiv (b * c))) S := by
  have qab : lg a + lg b < 1000000 := by omega
  have qac : lg a + lg c < 1000000 := by omega
  have qad : lg a + lg d < 1000000 := by omega
  have qbc : lg b + lg c < 1000000 := by omega
  have qbd : lg b + lg d < 1000000 := by omega
  have qcb : lg c + lg b < 1000000 := by omega
  have qcd : lg c + lg d < 1000000 := by omega
  have qca : lg c + lg a < 1000000 := by omega
  have h3 : b ≠ 0 := fun z => h0 (by rw [z, Int.zero_mul])
  have h4 : c ≠ 0 := fun z => h0 (by rw [z, Int.mul_zero])
  have hf := opi_fdiv (T := T1) (S := S) (i := a * d) h0 h2
  unfold m_F_floordiv b_F_floordiv
  simp [at_num tab1, at_den tab1, is_ff tab1, is_if tab1, is_ii tab1, is_fi tab1, opi_mul qab, opi_mul qac, opi_mul qad, opi_mul qbc, opi_mul qbd, opi_mul qcb, opi_mul qcd, opi_mul qca, h0, hf]
theorem floordiv_fi {S : Store} {a b c d : Int} (ha : lg a ≤ 4000) (hb : lg b ≤ 4000) (hc : lg c ≤ 4000) (hd : lg d ≤ 4000) (h0 : b * c ≠ 0) (h2 : lg (b * c) < 9000) : m_F_floordiv [Fr a b, .int c] S = .ok (.int ((a).fdiv (b * c))) S := by
  have qab : lg a + lg b < 1000000 := by omega
  have qac : lg a + lg c < 1000000 := by omega
  have qad : lg a + lg d < 1000000 := by omega
  have qbc : lg b + lg c < 1000000 := by omega
  have qbd : lg b + lg d < 1000000 := by omega
  have qcb : lg c + lg b < 1000000 := by omega
  have qcd : lg c + lg d < 1000000 := by omega
  have qca : lg c + lg a < 1000000 := by omega
  have h3 : b ≠ 0 := fun z => h0 (by rw [z, Int.zero_mul])
  have h4 : c ≠ 0 := fun z => h0 (by rw [z, Int.mul_zero])
  have hf := opi_fdiv (T := T1) (S := S) (i := a) h0 h2
  unfold m_F_floordiv b_F_floordiv
  simp [at_num tab1, at_den tab1, is_ff tab1, is_if tab1, is_ii tab1, is_fi tab1, opi_mul qab, opi_mul qac, opi_mul qad, opi_mul qbc, opi_mul qbd, opi_mul qcb, opi_mul qcd, opi_mul qca, h0, hf]
theorem floordiv_z {S : Store} {a b c d : Int} (ha : lg a ≤ 4000) (hb : lg b ≤ 4000) (hc : lg c ≤ 4000) (hd : lg d ≤ 4000) : m_F_floordiv [Fr a b, Fr 0 d] S = .exc ⟨n_DivisionByZero, [], []⟩ S := by
  have qab : lg a + lg b < 1000000 := by omega
  have qac : lg a + lg c < 1000000 := by omega
  have qad : lg a + lg d < 1000000 := by omega
  have qbc : lg b + lg c < 1000000 := by omega
  have qbd : lg b + lg d < 1000000 := by omega
  have qcb : lg c + lg b < 1000000 := by omega
  have qcd : lg c + lg d < 1000000 := by omega
  have qca : lg c + lg a < 1000000 := by omega
  have hz := opi_mul (T := T1) (S := S) (i := b) (j := 0) (by rw [lg0]; omega)
  rw [Int.mul_zero] at hz
  unfold m_F_floordiv b_F_floordiv
  simp [at_num tab1, at_den tab1, is_ff tab1, is_if tab1, is_ii tab1, is_fi tab1, opi_mul qab, opi_mul qac, opi_mul qad, opi_mul qbc, opi_mul qbd, opi_mul qcb, opi_mul qcd, opi_mul qca, hz, exo1]
theorem floordiv_zi {S : Store} {a b c d : Int} (ha : lg a ≤ 4000) (hb : lg b ≤ 4000) (hc : lg c ≤ 4000) (hd : lg d ≤ 4000) : m_F_floordiv [Fr a b, .int 0] S = .exc ⟨n_DivisionByZero, [], []⟩ S := by
  have qab : lg a + lg b < 1000000 := by omega
  have qac : lg a + lg c < 1000000 := by omega
  have qad : lg a + lg d < 1000000 := by omega
  have qbc : lg b + lg c < 1000000 := by omega
  have qbd : lg b + lg d < 1000000 := by omega
  have qcb : lg c + lg b < 1000000 := by omega
  have qcd : lg c + lg d < 1000000 := by omega
  have qca : lg c + lg a < 1000000 := by omega
  have hz := opi_mul (T := T1) (S := S) (i := b) (j := 0) (by rw [lg0]; omega)
  rw [Int.mul_zero] at hz
  unfold m_F_floordiv b_F_floordiv
  simp [at_num tab1, at_den tab1, is_ff tab1, is_if tab1, is_ii tab1, is_fi tab1, opi_mul qab, opi_mul qac, opi_mul qad, opi_mul qbc, opi_mul qbd, opi_mul qcb, opi_mul qcd, opi_mul qca, hz, exo1]
theorem lt_ff {S : Store} {a b c d : Int} (ha : lg a ≤ 4000) (hb : lg b ≤ 4000) (hc : lg c ≤ 4000) (hd : lg d ≤ 4000) : m_F_lt [Fr a b, Fr c d] S = .ok (.bl (decide (a * d < c * b))) S := by
  have qab : lg a + lg b < 1000000 := by omega
  have qac : lg a + lg c < 1000000 := by omega
  have qad : lg a + lg d < 1000000 := by omega
  have qbc : lg b + lg c < 1000000 := by omega
  have qbd : lg b + lg d < 1000000 := by omega
  have qcb : lg c + lg b < 1000000 := by omega
  have qcd : lg c + lg d < 1000000 := by omega
  have qca : lg c + lg a < 1000000 := by omega
  unfold m_F_lt b_F_lt
  simp [at_num tab1, at_den tab1, is_ff tab1, is_if tab1, is_ii tab1, is_fi tab1, opi_mul qab, opi_mul qac, opi_mul qad, opi_mul qbc, opi_mul qbd, opi_mul qcb, opi_mul qcd, opi_mul qca]
theorem lt_fi {S : Store} {a b c d : Int} (ha : lg a ≤ 4000) (hb : lg b ≤ 4000) (hc : lg c ≤ 4000) (hd : lg d ≤ 4000) : m_F_lt [Fr a b, .int c] S = .ok (.bl (decide (a < c * b))) S := by
  have qab : lg a + lg b < 1000000 := by omega
  have qac : lg a + lg c < 1000000 := by omega
  have qad : lg a + lg d < 1000000 := by omega
  have qbc : lg b + lg c < 1000000 := by omega
  have qbd : lg b + lg d < 1000000 := by omega
  have qcb : lg c + lg b < 1000000 := by omega
  have qcd : lg c + lg d < 1000000 := by omega
  have qca : lg c + lg a < 1000000 := by omega
  unfold m_F_lt b_F_lt
  simp [at_num tab1, at_den tab1, is_ff tab1, is_if tab1, is_ii tab1, is_fi tab1, opi_mul qab, opi_mul qac, opi_mul qad, opi_mul qbc, opi_mul qbd, opi_mul qcb, opi_mul qcd, opi_mul qca]
theorem le_ff {S : Store} {a b c d : Int} (ha : lg a ≤ 4000) (hb : lg b ≤ 4000) (hc : lg c ≤ 4000) (hd : lg d ≤ 4000) : m_F_le [Fr a b, Fr c d] S = .ok (.bl (decide (a * d ≤ c * b))) S := by
  have qab : lg a + lg b < 1000000 := by omega
  have qac : lg a + lg c < 1000000 := by omega
  have qad : lg a + lg d < 1000000 := by omega
  have qbc : lg b + lg c < 1000000 := by omega
  have qbd : lg b + lg d < 1000000 := by omega
  have qcb : lg c + lg b < 1000000 := by omega
  have qcd : lg c + lg d < 1000000 := by omega
  have qca : lg c + lg a < 1000000 := by omega
  unfold m_F_le b_F_le
  simp [at_num tab1, at_den tab1, is_ff tab1, is_if tab1, is_ii tab1, is_fi tab1, opi_mul qab, opi_mul qac, opi_mul qad, opi_mul qbc, opi_mul qbd, opi_mul qcb, opi_mul qcd, opi_mul qca]
theorem le_fi {S : Store} {a b c d : Int} (ha : lg a ≤ 4000) (hb : lg b ≤ 4000) (hc : lg c ≤ 4000) (hd : lg d ≤ 4000) : m_F_le [Fr a b, .int c] S = .ok (.bl (decide (a ≤ c * b))) S := by
  have qab : lg a + lg b < 1000000 := by omega
  have qac : lg a + lg c < 1000000 := by omega
  have qad : lg a + lg d < 1000000 := by omega
  have qbc : lg b + lg c < 1000000 := by omega
  have qbd : lg b + lg d < 1000000 := by omega
  have qcb : lg c + lg b < 1000000 := by omega
  have qcd : lg c + lg d < 1000000 := by omega
  have qca : lg c + lg a < 1000000 := by omega
  unfold m_F_le b_F_le
  simp [at_num tab1, at_den tab1, is_ff tab1, is_if tab1, is_ii tab1, is_fi tab1, opi_mul qab, opi_mul qac, opi_mul qad, opi_mul qbc, opi_mul qbd, opi_mul qcb, opi_mul qcd, opi_mul qca]
theorem gt_ff {S : Store} {a b c d : Int} (ha : lg a ≤ 4000) (hb : lg b ≤ 4000) (hc : lg c ≤ 4000) (hd : lg d ≤ 4000) : m_F_gt [Fr a b, Fr c d] S = .ok (.bl (decide (c * b < a * d))) S := by
  have qab : lg a + lg b < 1000000 := by omega
  have qac : lg a + lg c < 1000000 := by omega
  have qad : lg a + lg d < 1000000 := by omega
  have qbc : lg b + lg c < 1000000 := by omega
  have qbd : lg b + lg d < 1000000 := by omega
  have qcb : lg c + lg b < 1000000 := by omega
  have qcd : lg c + lg d < 1000000 := by omega
  have qca : lg c + lg a < 1000000 := by omega
  unfold m_F_gt b_F_gt
  simp [at_num tab1, at_den tab1, is_ff tab1, is_if tab1, is_ii tab1, is_fi tab1, opi_mul qab, opi_mul qac, opi_mul qad, opi_mul qbc, opi_mul qbd, opi_mul qcb, opi_mul qcd, opi_mul qca]
theorem gt_fi {S : Store} {a b c d : Int} (ha : lg a ≤ 4000) (hb : lg b ≤ 4000) (hc : lg c ≤ 4000) (hd : lg d ≤ 4000) : m_F_gt [Fr a b, .int c] S = .ok (.bl (decide (c * b < a))) S := by
  have qab : lg a + lg b < 1000000 := by omega
  have qac : lg a + lg c < 1000000 := by omega
  have qad : lg a + lg d < 1000000 := by omega
  have qbc : lg b + lg c < 1000000 := by omega
  have qbd : lg b + lg d < 1000000 := by omega
  have qcb : lg c + lg b < 1000000 := by omega
  have qcd : lg c + lg d < 1000000 := by omega
  have qca : lg c + lg a < 1000000 := by omega
  unfold m_F_gt b_F_gt
  simp [at_num tab1, at_den tab1, is_ff tab1, is_if tab1, is_ii tab1, is_fi tab1, opi_mul qab, opi_mul qac, opi_mul qad, opi_mul qbc, opi_mul qbd, opi_mul qcb, opi_mul qcd, opi_mul qca]
theorem ge_ff {S : Store} {a b c d : Int} (ha : lg a ≤ 4000) (hb : lg b ≤ 4000) (hc : lg c ≤ 4000) (hd : lg d ≤ 4000) : m_F_ge [Fr a b, Fr c d] S = .ok (.bl (decide (c * b ≤ a * d))) S := by
  have qab : lg a + lg b < 1000000 := by omega
  have qac : lg a + lg c < 1000000 := by omega
  have qad : lg a + lg d < 1000000 := by omega
  have qbc : lg b + lg c < 1000000 := by omega
  have qbd : lg b + lg d < 1000000 := by omega
  have qcb : lg c + lg b < 1000000 := by omega
  have qcd : lg c + lg d < 1000000 := by omega
  have qca : lg c + lg a < 1000000 := by omega
  unfold m_F_ge b_F_ge
  simp [at_num tab1, at_den tab1, is_ff tab1, is_if tab1, is_ii tab1, is_fi tab1, opi_mul qab, opi_mul qac, opi_mul qad, opi_mul qbc, opi_mul qbd, opi_mul qcb, opi_mul qcd, opi_mul qca]
theorem ge_fi {S : Store} {a b c d : Int} (ha : lg a ≤ 4000) (hb : lg b ≤ 4000) (hc : lg c ≤ 4000) (hd : lg d ≤ 4000) : m_F_ge [Fr a b, .int c] S = .ok (.bl (decide (c * b ≤ a))) S := by
  have qab : lg a + lg b < 1000000 := by omega
  have qac : lg a + lg c < 1000000 := by omega
  have qad : lg a + lg d < 1000000 := by omega
  have qbc : lg b + lg c < 1000000 := by omega
  have qbd : lg b + lg d < 1000000 := by omega
  have qcb : lg c + lg b < 1000000 := by omega
  have qcd : lg c + lg d < 1000000 := by omega
  have qca : lg c + lg a < 1000000 := by omega
  unfold m_F_ge b_F_ge
  simp [at_num tab1, at_den tab1, is_ff tab1, is_if tab1, is_ii tab1, is_fi tab1, opi_mul qab, opi_mul qac, opi_mul qad, opi_mul qbc, opi_mul qbd, opi_mul qcb, opi_mul qcd, opi_mul qca]
theorem eq_ff {S : Store} {a b c d : Int} (ha : lg a ≤ 4000) (hb : lg b ≤ 4000) (hc : lg c ≤ 4000) (hd : lg d ≤ 4000) : m_F_eq [Fr a b, Fr c d] S = .ok (.bl (decide (a = c) && decide (b = d))) S := by
  unfold m_F_eq b_F_eq
  by_cases h : a = c
  all_goals simp [h, at_num tab1, at_den tab1, is_ff tab1, is_if tab1, is_ii tab1, is_fi tab1]
theorem eq_fi {S : Store} {a b c d : Int} (ha : lg a ≤ 4000) (hb : lg b ≤ 4000) (hc : lg c ≤ 4000) (hd : lg d ≤ 4000) : m_F_eq [Fr a b, .int c] S = .ok (.bl (decide (b = 1) && decide (a = c))) S := by
  unfold m_F_eq b_F_eq
  by_cases h : b = 1
  all_goals simp [h, at_num tab1, at_den tab1, is_ff tab1, is_if tab1, is_ii tab1, is_fi tab1]
theorem floor_f {S : Store} {a b c d : Int} (ha : lg a ≤ 4000) (hb : lg b ≤ 4000) (hc : lg c ≤ 4000) (hd : lg d ≤ 4000) (h0 : b ≠ 0) : m_F_floor [Fr a b] S = .ok (.int (a.fdiv b)) S := by
  have hf := opi_fdiv (T := T1) (S := S) (i := a) h0 (by omega)
  unfold m_F_floor b_F_floor
  simp [at_num tab1, at_den tab1, is_ff tab1, is_if tab1, is_ii tab1, is_fi tab1, hf]
theorem ceiling_f {S : Store} {a b c d : Int} (ha : lg a ≤ 4000) (hb : lg b ≤ 4000) (hc : lg c ≤ 4000) (hd : lg d ≤ 4000) (h0 : b ≠ 0) : m_F_ceiling [Fr a b] S = .ok (.int (-((-a).fdiv b))) S := by
  have hf := opi_fdiv (T := T1) (S := S) (i := -a) h0 (by omega)
  unfold m_F_ceiling b_F_ceiling
  simp [at_num tab1, at_den tab1, is_ff tab1, is_if tab1, is_ii tab1, is_fi tab1, hf]
theorem bool_f {S : Store} {a b c d : Int} (ha : lg a ≤ 4000) (hb : lg b ≤ 4000) (hc : lg c ≤ 4000) (hd : lg d ≤ 4000) : m_F_bool [Fr a b] S = .ok (.bl (!decide (a = 0))) S := by
  unfold m_F_bool b_F_bool
  simp [at_num tab1, at_den tab1, is_ff tab1, is_if tab1, is_ii tab1, is_fi tab1, boolD]
theorem is_whole_f {S : Store} {a b c d : Int} (ha : lg a ≤ 4000) (hb : lg b ≤ 4000) (hc : lg c ≤ 4000) (hd : lg d ≤ 4000) : m_F_is_whole [Fr a b] S = .ok (.bl (decide (b = 1))) S := by
  unfold m_F_is_whole b_F_is_whole
  simp [at_num tab1, at_den tab1, is_ff tab1, is_if tab1, is_ii tab1, is_fi tab1]
structure OpT (T : CT) : Prop where
  m1 : T.meth n_Frac 1 = some (2, m_F_add)
  m2 : T.meth n_Frac 2 = some (2, m_F_radd)
  m3 : T.meth n_Frac 3 = some (2, m_F_sub)
  m4 : T.meth n_Frac 4 = some (2, m_F_rsub)
  m5 : T.meth n_Frac 5 = some (2, m_F_mul)
  m6 : T.meth n_Frac 6 = some (2, m_F_rmul)
  m7 : T.meth n_Frac 7 = some (2, m_F_floordiv)
  m13 : T.meth n_Frac 13 = some (2, m_F_eq)
  m15 : T.meth n_Frac 15 = some (2, m_F_lt)
  m16 : T.meth n_Frac 16 = some (2, m_F_le)
  m17 : T.meth n_Frac 17 = some (2, m_F_gt)
  m18 : T.meth n_Frac 18 = some (2, m_F_ge)
  m19 : T.meth n_Frac 19 = some (1, m_F_neg)
  m20 : T.meth n_Frac 20 = some (1, m_F_abs)
  m21 : T.meth n_Frac 21 = some (1, m_F_bool)
  mov : T.meth n_Frac n_over = some (2, m_F_over)
  mfl : T.meth n_Frac n_floor = some (1, m_F_floor)
  mce : T.meth n_Frac n_ceiling = some (1, m_F_ceiling)
  pwh : T.prop n_Frac n_is_whole = some m_F_is_whole
  nov : n_over < T.N
  nfl : n_floor < T.N
  nce : n_ceiling < T.N
structure OpT5 (T : CT) : Prop extends OpT T where
  m8 : T.meth n_Frac 8 = some (2, m_F_rfloordiv)
  m9 : T.meth n_Frac 9 = some (2, m_F_mod)
  m10 : T.meth n_Frac 10 = some (2, m_F_rmod)
  m11 : T.meth n_Frac 11 = some (2, m_F_pow)
  n12 : T.no n_Frac 12 = true
  one : T.one n_Frac = true
  inp : T.inp n_Frac = true
  kn : T.kn n_Frac = true
  ni : T.ni n_Frac = true
theorem op2 : OpT T2 := ⟨rfl, rfl, rfl, rfl, rfl, rfl, rfl, rfl, rfl, rfl, rfl, rfl, rfl, rfl, rfl, rfl, rfl, rfl, rfl, by decide +kernel, by decide +kernel, by decide +kernel⟩
theorem op3 : OpT T3 := ⟨rfl, rfl, rfl, rfl, rfl, rfl, rfl, rfl, rfl, rfl, rfl, rfl, rfl, rfl, rfl, rfl, rfl, rfl, rfl, by decide +kernel, by decide +kernel, by decide +kernel⟩
theorem op5 : OpT5 T5 := ⟨⟨rfl, rfl, rfl, rfl, rfl, rfl, rfl, rfl, rfl, rfl, rfl, rfl, rfl, rfl, rfl, rfl, rfl, rfl, rfl, by decide +kernel, by decide +kernel, by decide +kernel⟩, rfl, rfl, rfl, rfl, by kernel_rfl, by kernel_rfl, by kernel_rfl, by kernel_rfl, by kernel_rfl⟩
theorem oadd_ff {T : CT} (t : OpT T) {S : Store} {a b c d : Int} : opD T .Add (Fr a b) (Fr c d) S = m_F_add [Fr a b, Fr c d] S := by simp [opD, dop, dund, t.m1]
theorem oadd_fi {T : CT} (t : OpT T) {S : Store} {a b c : Int} : opD T .Add (Fr a b) (.int c) S = m_F_add [Fr a b, .int c] S := by simp [opD, dop, rop, dund, t.m1, t.m2]
theorem oadd_if {T : CT} (t : OpT T) {S : Store} {a b c : Int} : opD T .Add (.int c) (Fr a b) S = m_F_radd [Fr a b, .int c] S := by simp [opD, dop, rop, dund, t.m1, t.m2]
theorem osub_ff {T : CT} (t : OpT T) {S : Store} {a b c d : Int} : opD T .Sub (Fr a b) (Fr c d) S = m_F_sub [Fr a b, Fr c d] S := by simp [opD, dop, dund, t.m3]
theorem osub_fi {T : CT} (t : OpT T) {S : Store} {a b c : Int} : opD T .Sub (Fr a b) (.int c) S = m_F_sub [Fr a b, .int c] S := by simp [opD, dop, rop, dund, t.m3, t.m4]
theorem osub_if {T : CT} (t : OpT T) {S : Store} {a b c : Int} : opD T .Sub (.int c) (Fr a b) S = m_F_rsub [Fr a b, .int c] S := by simp [opD, dop, rop, dund, t.m3, t.m4]
theorem omul_ff {T : CT} (t : OpT T) {S : Store} {a b c d : Int} : opD T .Mult (Fr a b) (Fr c d) S = m_F_mul [Fr a b, Fr c d] S := by simp [opD, dop, dund, t.m5]
theorem omul_fi {T : CT} (t : OpT T) {S : Store} {a b c : Int} : opD T .Mult (Fr a b) (.int c) S = m_F_mul [Fr a b, .int c] S := by simp [opD, dop, rop, dund, t.m5, t.m6]
theorem omul_if {T : CT} (t : OpT T) {S : Store} {a b c : Int} : opD T .Mult (.int c) (Fr a b) S = m_F_rmul [Fr a b, .int c] S := by simp [opD, dop, rop, dund, t.m5, t.m6]
theorem ofloordiv_ff {T : CT} (t : OpT T) {S : Store} {a b c d : Int} : opD T .FloorDiv (Fr a b) (Fr c d) S = m_F_floordiv [Fr a b, Fr c d] S := by simp [opD, dop, dund, t.m7]
end Lw


set_option Elab.async false
set_option linter.all false
set_option maxRecDepth 100000
set_option maxHeartbeats 1000000
/-! QF: the operators of Frac by rationals. -/
namespace Lw
open PySem L2 PyProof.Rows He Bp
namespace F
abbrev fQ (q : Rat) : D := Fr q.num q.den
theorem mkF_q {n d : Int} (hd : d ≠ 0) : mkF n d = fQ (Rat.divInt n d) := by unfold mkF; rw [sg_num hd, sg_den hd]
theorem numz {q : Rat} (h : q ≠ 0) : q.num ≠ 0 := fun z => h (Rat.num_eq_zero.mp z)
section
variable {S : Store} {p q : Rat} {i : Int}
theorem add_qq (hp : Sz 4000 p) (hq : Sz 4000 q) : m_F_add [fQ p, fQ q] S = .ok (fQ (p + q)) S := by
  have h0 := Int.mul_ne_zero (den_ne p) (den_ne q)
  rw [add_ff hp.1 hp.2 hq.1 hq.2 h0 (by have := lg_mul hp.2 hq.2; omega), mkF_q h0, q_add]
theorem sub_qq (hp : Sz 4000 p) (hq : Sz 4000 q) : m_F_sub [fQ p, fQ q] S = .ok (fQ (p - q)) S := by
  have h0 := Int.mul_ne_zero (den_ne p) (den_ne q)
  rw [sub_ff hp.1 hp.2 hq.1 hq.2 h0 (by have := lg_mul hp.2 hq.2; omega), mkF_q h0, q_sub]
theorem mul_qq (hp : Sz 4000 p) (hq : Sz 4000 q) : m_F_mul [fQ p, fQ q] S = .ok (fQ (p * q)) S := by
  have h0 := Int.mul_ne_zero (den_ne p) (den_ne q)
  rw [mul_ff hp.1 hp.2 hq.1 hq.2 h0 (by have := lg_mul hp.2 hq.2; omega), mkF_q h0, q_mul]
theorem over_qq (hp : Sz 4000 p) (hq : Sz 4000 q) (hz : q ≠ 0) : m_F_over [fQ p, fQ q] S = .ok (fQ (p / q)) S := by
  have h0 := Int.mul_ne_zero (den_ne p) (numz hz)
  rw [over_ff hp.1 hp.2 hq.1 hq.2 h0 (by have := lg_mul hp.2 hq.1; omega), mkF_q h0, q_div]
theorem i_add (p : Rat) (i : Int) : Rat.divInt (p.num + i * p.den) p.den = p + (i : Rat) := by rw [← q_add]; simp
theorem i_sub (p : Rat) (i : Int) : Rat.divInt (p.num - i * p.den) p.den = p - (i : Rat) := by rw [← q_sub]; simp
theorem i_radd (p : Rat) (i : Int) : Rat.divInt (i * p.den + p.num) p.den = (i : Rat) + p := by rw [← q_add]; simp
theorem i_rsub (p : Rat) (i : Int) : Rat.divInt (i * p.den - p.num) p.den = (i : Rat) - p := by rw [← q_sub]; simp
theorem i_mul (p : Rat) (i : Int) : Rat.divInt (p.num * i) p.den = p * (i : Rat) := by rw [← q_mul]; simp
theorem i_rmul (p : Rat) (i : Int) : Rat.divInt (i * p.num) p.den = (i : Rat) * p := by rw [← q_mul]; simp
theorem i_div (p : Rat) (i : Int) : Rat.divInt p.num (p.den * i) = p / (i : Rat) := by rw [← q_div]; simp
theorem add_qi (hp : Sz 4000 p) (hi : lg i ≤ 4000) : m_F_add [fQ p, .int i] S = .ok (fQ (p + i)) S := by
  rw [add_fi (d := 0) hp.1 hp.2 hi (by decide) (den_ne p) (by have := hp.2; omega), mkF_q (den_ne p), i_add]
theorem sub_qi (hp : Sz 4000 p) (hi : lg i ≤ 4000) : m_F_sub [fQ p, .int i] S = .ok (fQ (p - i)) S := by
  rw [sub_fi (d := 0) hp.1 hp.2 hi (by decide) (den_ne p) (by have := hp.2; omega), mkF_q (den_ne p), i_sub]
theorem mul_qi (hp : Sz 4000 p) (hi : lg i ≤ 4000) : m_F_mul [fQ p, .int i] S = .ok (fQ (p * i)) S := by
  rw [mul_fi (d := 0) hp.1 hp.2 hi (by decide) (den_ne p) (by have := hp.2; omega), mkF_q (den_ne p), i_mul]
theorem radd_qi (hp : Sz 4000 p) (hi : lg i ≤ 4000) : m_F_radd [fQ p, .int i] S = .ok (fQ (i + p)) S := by
  rw [radd_fi (d := 0) hp.1 hp.2 hi (by decide) (den_ne p) (by have := hp.2; omega), mkF_q (den_ne p), i_radd]
theorem rsub_qi (hp : Sz 4000 p) (hi : lg i ≤ 4000) : m_F_rsub [fQ p, .int i] S = .ok (fQ (i - p)) S := by
  rw [rsub_fi (d := 0) hp.1 hp.2 hi (by decide) (den_ne p) (by have := hp.2; omega), mkF_q (den_ne p), i_rsub]
theorem rmul_qi (hp : Sz 4000 p) (hi : lg i ≤ 4000) : m_F_rmul [fQ p, .int i] S = .ok (fQ (i * p)) S := by
  rw [rmul_fi (d := 0) hp.1 hp.2 hi (by decide) (den_ne p) (by have := hp.2; omega), mkF_q (den_ne p), i_rmul]
theorem over_qi (hp : Sz 4000 p) (hi : lg i ≤ 4000) (hz : i ≠ 0) : m_F_over [fQ p, .int i] S = .ok (fQ (p / i)) S := by
  have h0 := Int.mul_ne_zero (den_ne p) hz
  rw [over_fi (d := 0) hp.1 hp.2 hi (by decide) h0 (by have := lg_mul hp.2 hi; omega), mkF_q h0, i_div]
theorem neg_q (hp : Sz 4000 p) : m_F_neg [fQ p] S = .ok (fQ (-p)) S := by
  rw [neg_f (c := 0) (d := 0) hp.1 hp.2 (by decide) (by decide) (den_ne p) (by have := hp.2; omega), mkF_q (den_ne p)]
  rw [show -p.num = (-p).num from rfl, show (p.den : Int) = ((-p).den : Int) from rfl, Rat.num_divInt_den]
theorem abs_q (hp : Sz 4000 p) : m_F_abs [fQ p] S = .ok (fQ p.abs) S := by
  rw [abs_f (c := 0) (d := 0) hp.1 hp.2 (by decide) (by decide) (den_ne p) (by have := hp.2; omega), mkF_q (den_ne p)]
  rw [← (q_absnum p).1, ← (q_absnum p).2, Rat.num_divInt_den]
theorem lt_qq (hp : Sz 4000 p) (hq : Sz 4000 q) : m_F_lt [fQ p, fQ q] S = .ok (.bl (decide (p < q))) S := by
  rw [lt_ff hp.1 hp.2 hq.1 hq.2]; simp only [q_lt]
theorem le_qq (hp : Sz 4000 p) (hq : Sz 4000 q) : m_F_le [fQ p, fQ q] S = .ok (.bl (decide (p ≤ q))) S := by
  rw [le_ff hp.1 hp.2 hq.1 hq.2]; simp only [q_le]
theorem gt_qq (hp : Sz 4000 p) (hq : Sz 4000 q) : m_F_gt [fQ p, fQ q] S = .ok (.bl (decide (q < p))) S := by
  rw [gt_ff hp.1 hp.2 hq.1 hq.2]; simp only [q_lt]
theorem ge_qq (hp : Sz 4000 p) (hq : Sz 4000 q) : m_F_ge [fQ p, fQ q] S = .ok (.bl (decide (q ≤ p))) S := by
  rw [ge_ff hp.1 hp.2 hq.1 hq.2]; simp only [q_le]
theorem i_lt (p : Rat) (i : Int) : (p.num < i * p.den) ↔ p < (i : Rat) := by rw [← q_lt]; simp
theorem i_le (p : Rat) (i : Int) : (p.num ≤ i * p.den) ↔ p ≤ (i : Rat) := by rw [← q_le]; simp
theorem i_gt (p : Rat) (i : Int) : (i * p.den < p.num) ↔ (i : Rat) < p := by rw [← q_lt]; simp
theorem i_ge (p : Rat) (i : Int) : (i * p.den ≤ p.num) ↔ (i : Rat) ≤ p := by rw [← q_le]; simp
theorem lt_qi (hp : Sz 4000 p) (hi : lg i ≤ 4000) : m_F_lt [fQ p, .int i] S = .ok (.bl (decide (p < i))) S := by
  rw [lt_fi (d := 0) hp.1 hp.2 hi (by decide)]; simp only [i_lt]
theorem le_qi (hp : Sz 4000 p) (hi : lg i ≤ 4000) : m_F_le [fQ p, .int i] S = .ok (.bl (decide (p ≤ i))) S := by
  rw [le_fi (d := 0) hp.1 hp.2 hi (by decide)]; simp only [i_le]
theorem gt_qi (hp : Sz 4000 p) (hi : lg i ≤ 4000) : m_F_gt [fQ p, .int i] S = .ok (.bl (decide ((i : Rat) < p))) S := by
  rw [gt_fi (d := 0) hp.1 hp.2 hi (by decide)]; simp only [i_gt]
theorem ge_qi (hp : Sz 4000 p) (hi : lg i ≤ 4000) : m_F_ge [fQ p, .int i] S = .ok (.bl (decide ((i : Rat) ≤ p))) S := by
  rw [ge_fi (d := 0) hp.1 hp.2 hi (by decide)]; simp only [i_ge]
theorem bl_and {a b : Prop} [Decidable a] [Decidable b] {c : Prop} [Decidable c] (h : (a ∧ b) ↔ c) : (decide a && decide b) = decide c := by
  rw [← Bool.decide_and]; exact decide_eq_decide.mpr h
theorem eq_qq (hp : Sz 4000 p) (hq : Sz 4000 q) : m_F_eq [fQ p, fQ q] S = .ok (.bl (decide (p = q))) S := by
  rw [eq_ff hp.1 hp.2 hq.1 hq.2, bl_and (q_ext p q)]
theorem i_eq (p : Rat) (i : Int) : ((p.den : Int) = 1 ∧ p.num = i) ↔ p = (i : Rat) := by
  rw [← q_ext]
  simp
  exact ⟨fun h => ⟨h.2, h.1⟩, fun h => ⟨h.2, h.1⟩⟩
theorem eq_qi (hp : Sz 4000 p) (hi : lg i ≤ 4000) : m_F_eq [fQ p, .int i] S = .ok (.bl (decide (p = (i : Rat)))) S := by
  rw [eq_fi (d := 0) hp.1 hp.2 hi (by decide), bl_and (i_eq p i)]
theorem floor_q (hp : Sz 4000 p) : m_F_floor [fQ p] S = .ok (.int p.floor) S := by
  rw [floor_f (c := 0) (d := 0) hp.1 hp.2 (by decide) (by decide) (den_ne p), q_floor]
theorem ceil_q (p : Rat) : -((-p.num).fdiv p.den) = p.ceil := by
  rw [Rat.ceil_eq_neg_floor_neg, ← q_floor]; rfl
theorem ceiling_q (hp : Sz 4000 p) : m_F_ceiling [fQ p] S = .ok (.int p.ceil) S := by
  rw [ceiling_f (c := 0) (d := 0) hp.1 hp.2 (by decide) (by decide) (den_ne p), ceil_q]
theorem bool_q (hp : Sz 4000 p) : m_F_bool [fQ p] S = .ok (.bl (!decide (p = 0))) S := by
  rw [bool_f (c := 0) (d := 0) hp.1 hp.2 (by decide) (by decide)]; simp only [Rat.num_eq_zero]
theorem is_whole_q (hp : Sz 4000 p) : m_F_is_whole [fQ p] S = .ok (.bl (decide (p.den = 1))) S := by
  rw [is_whole_f (c := 0) (d := 0) hp.1 hp.2 (by decide) (by decide)]
  have : ((p.den : Int) = 1) ↔ p.den = 1 := by omega
  simp only [this]
theorem floordiv_qq (hp : Sz 4000 p) (hq : Sz 4000 q) (hz : q ≠ 0) : m_F_floordiv [fQ p, fQ q] S = .ok (.int (p / q).floor) S := by
  have h0 := Int.mul_ne_zero (den_ne p) (numz hz)
  rw [floordiv_ff hp.1 hp.2 hq.1 hq.2 h0 (by have := lg_mul hp.2 hq.1; omega), q_floordiv p q hz]
theorem floordiv_qi (hp : Sz 4000 p) (hi : lg i ≤ 4000) (hz : i ≠ 0) : m_F_floordiv [fQ p, .int i] S = .ok (.int (p / (i : Rat)).floor) S := by
  have h0 := Int.mul_ne_zero (den_ne p) hz
  rw [floordiv_fi (d := 0) hp.1 hp.2 hi (by decide) h0 (by have := lg_mul hp.2 hi; omega), ← i_div, floor_divInt' h0]
theorem floordiv_q0 (hp : Sz 4000 p) : m_F_floordiv [fQ p, fQ 0] S = .exc ⟨n_DivisionByZero, [], []⟩ S := floordiv_z (d := 1) (c := 0) hp.1 hp.2 (by decide) (by decide)
theorem floordiv_qi0 (hp : Sz 4000 p) : m_F_floordiv [fQ p, .int 0] S = .exc ⟨n_DivisionByZero, [], []⟩ S := floordiv_zi (d := 1) (c := 0) hp.1 hp.2 (by decide) (by decide)
theorem fdiv_abs (n d : Int) (hd : d ≠ 0) : (n.fdiv d).natAbs ≤ n.natAbs := by
  have h := Int.natAbs_fdiv_le_natAbs n d
  exact h
theorem lg_fd {n d : Int} {a : Nat} (hd : d ≠ 0) (h : lg n ≤ a) : lg (n.fdiv d) ≤ a := Nat.le_trans (log2_mono (fdiv_abs n d hd)) h
theorem lg_floordiv {a b : Nat} (hp : Sz a p) (hq : Sz b q) (hz : q ≠ 0) : lg (p / q).floor ≤ a + b + 1 := by
  rw [← q_floordiv p q hz]
  exact lg_fd (Int.mul_ne_zero (den_ne p) (numz hz)) (lg_mul hp.1 hq.2)

end
section
variable {T : CT} {S : Store} {p q : Rat} {i j : Int}
theorem new_qq (hm : T.mkr n_Frac = some (3, [.int 0, .int 1], m_F_init)) (hf : T.tn.fl n_Frac = [n_num, n_den]) {n d : Int} (hd : d ≠ 0) (h1 : lg d < 9000) : newD T n_Frac [.int n, .int d] S = .ok (fQ (Rat.divInt n d)) S := by
  rw [new_eq hm hf hd (Nat.lt_of_le_of_lt (lg_gcd hd (Nat.le_refl _)) h1), mkF_q hd]
theorem eQ_int (i : Int) : fQ (i : Rat) = Fr i 1 := rfl
theorem new_q1 (hm : T.mkr n_Frac = some (3, [.int 0, .int 1], m_F_init)) (hf : T.tn.fl n_Frac = [n_num, n_den]) {n : Int} : newD T n_Frac [.int n] S = .ok (fQ (n : Rat)) S := new_one hm hf
/-- how a pair of operands stands for two numbers -/
inductive FN : D → D → Rat → Rat → Prop
  | qq (p q : Rat) : FN (fQ p) (fQ q) p q
  | qi (p : Rat) (j : Int) : FN (fQ p) (.int j) p (j : Rat)
  | iq (i : Int) (q : Rat) : FN (.int i) (fQ q) (i : Rat) q
variable {l r : D}
theorem FN.symm (h : FN l r p q) : FN r l q p := by
  cases h with
  | qq p q => exact .qq q p
  | qi p j => exact .iq j p
  | iq i q => exact .qi q i
theorem fn_add (t : OpT T) (h : FN l r p q) (hp : Sz 4000 p) (hq : Sz 4000 q) : opD T .Add l r S = .ok (fQ (p + q)) S := by
  cases h with
  | qq p q => rw [oadd_ff t, add_qq hp hq]
  | qi p j => rw [oadd_fi t, add_qi hp (Sz.i hq)]
  | iq i q => rw [oadd_if t, radd_qi hq (Sz.i hp)]
theorem fn_sub (t : OpT T) (h : FN l r p q) (hp : Sz 4000 p) (hq : Sz 4000 q) : opD T .Sub l r S = .ok (fQ (p - q)) S := by
  cases h with
  | qq p q => rw [osub_ff t, sub_qq hp hq]
  | qi p j => rw [osub_fi t, sub_qi hp (Sz.i hq)]
  | iq i q => rw [osub_if t, rsub_qi hq (Sz.i hp)]
theorem fn_mul (t : OpT T) (h : FN l r p q) (hp : Sz 4000 p) (hq : Sz 4000 q) : opD T .Mult l r S = .ok (fQ (p * q)) S := by
  cases h with
  | qq p q => rw [omul_ff t, mul_qq hp hq]
  | qi p j => rw [omul_fi t, mul_qi hp (Sz.i hq)]
  | iq i q => rw [omul_if t, rmul_qi hq (Sz.i hp)]
theorem fn_lt (t : OpT T) (h : FN l r p q) (hp : Sz 4000 p) (hq : Sz 4000 q) : cmpD T .Lt l r S = .ok (.bl (decide (p < q))) S := by
  cases h with
  | qq p q => simp [cmpD, cop, dund, t.m15, lt_qq hp hq]
  | qi p j => simp [cmpD, cop, dund, t.m15, lt_qi hp (Sz.i hq)]
  | iq i q => simp [cmpD, copR, dund, cop, t.m17, gt_qi hq (Sz.i hp)]
theorem fn_le (t : OpT T) (h : FN l r p q) (hp : Sz 4000 p) (hq : Sz 4000 q) : cmpD T .LtE l r S = .ok (.bl (decide (p ≤ q))) S := by
  cases h with
  | qq p q => simp [cmpD, cop, dund, t.m16, le_qq hp hq]
  | qi p j => simp [cmpD, cop, dund, t.m16, le_qi hp (Sz.i hq)]
  | iq i q => simp [cmpD, copR, dund, cop, t.m18, ge_qi hq (Sz.i hp)]
theorem fn_gt (t : OpT T) (h : FN l r p q) (hp : Sz 4000 p) (hq : Sz 4000 q) : cmpD T .Gt l r S = .ok (.bl (decide (q < p))) S := by
  cases h with
  | qq p q => simp [cmpD, cop, dund, t.m17, gt_qq hp hq]
  | qi p j => simp [cmpD, cop, dund, t.m17, gt_qi hp (Sz.i hq)]
  | iq i q => simp [cmpD, copR, dund, cop, t.m15, lt_qi hq (Sz.i hp)]
theorem fn_ge (t : OpT T) (h : FN l r p q) (hp : Sz 4000 p) (hq : Sz 4000 q) : cmpD T .GtE l r S = .ok (.bl (decide (q ≤ p))) S := by
  cases h with
  | qq p q => simp [cmpD, cop, dund, t.m18, ge_qq hp hq]
  | qi p j => simp [cmpD, cop, dund, t.m18, ge_qi hp (Sz.i hq)]
  | iq i q => simp [cmpD, copR, dund, cop, t.m16, le_qi hq (Sz.i hp)]
theorem fn_eq (t : OpT T) (h : FN l r p q) (hp : Sz 4000 p) (hq : Sz 4000 q) : cmpD T .Eq l r S = .ok (.bl (decide (p = q))) S := by
  cases h with
  | qq p q => simp [cmpD, cop, dund, t.m13, eq_qq hp hq]
  | qi p j => simp [cmpD, cop, dund, t.m13, eq_qi hp (Sz.i hq)]
  | iq i q => simp [cmpD, copR, dund, cop, t.m13, eq_qi hq (Sz.i hp), eq_comm]
theorem fn_ne (t : OpT5 T) (h : FN l r p q) (hp : Sz 4000 p) (hq : Sz 4000 q) : cmpD T .NotEq l r S = .ok (.bl (!decide (p = q))) S := by
  cases h with
  | qq p q => simp [cmpD, cop, dund, t.m13, t.one, eq_qq hp hq, notR, Res.bind]
  | qi p j => simp [cmpD, cop, dund, t.m13, t.one, eq_qi hp (Sz.i hq), notR, Res.bind]
  | iq i q => simp [cmpD, copR, dund, cop, t.m13, t.one, eq_qi hq (Sz.i hp), notR, Res.bind, eq_comm]
theorem ofd_qq (t : OpT T) : opD T .FloorDiv (fQ p) (fQ q) S = m_F_floordiv [fQ p, fQ q] S := ofloordiv_ff t
theorem ofd_qi (t : OpT T) (h : T.meth n_Frac 8 = some (2, m_F_rfloordiv)) : opD T .FloorDiv (fQ p) (.int j) S = m_F_floordiv [fQ p, .int j] S := by simp [opD, dop, rop, dund, t.m7, h]
theorem rfloordiv_q (hq : Sz 4000 q) (hi : lg i ≤ 4000) (hz : q ≠ 0) : m_F_rfloordiv [fQ q, .int i] S = .ok (.int ((i : Rat) / q).floor) S := by
  have e := new_q1 (S := S) tab2.mkr tab2.fl (n := i)
  have e2 := ofd_qq (S := S) op2 (p := (i : Rat)) (q := q)
  have e3 := floordiv_qq (S := S) (p := (i : Rat)) (.int hi) hq hz
  unfold m_F_rfloordiv b_F_rfloordiv
  simp [is_ii tab2, e, e2, e3]
theorem rfloordiv_q0 (hi : lg i ≤ 4000) (hz : q = 0) : m_F_rfloordiv [fQ q, .int i] S = .exc ⟨n_DivisionByZero, [], []⟩ S := by
  have e := new_q1 (S := S) tab2.mkr tab2.fl (n := i)
  have e2 := ofd_qq (S := S) op2 (p := (i : Rat)) (q := q)
  have e3 : m_F_floordiv [fQ (i : Rat), fQ q] S = _ := hz ▸ floordiv_q0 (S := S) (p := (i : Rat)) (.int hi)
  unfold m_F_rfloordiv b_F_rfloordiv
  simp [is_ii tab2, e, e2, e3, gc_x0]
theorem fn_floordiv (t : OpT5 T) (h : FN l r p q) (hp : Sz 4000 p) (hq : Sz 4000 q) (hz : q ≠ 0) : opD T .FloorDiv l r S = .ok (.int (p / q).floor) S := by
  cases h with
  | qq p q => rw [ofd_qq t.toOpT, floordiv_qq hp hq hz]
  | qi p j => rw [ofd_qi t.toOpT t.m8, floordiv_qi hp (Sz.i hq) (by intro h; subst h; exact hz rfl)]
  | iq i q => simp [opD, dop, rop, dund, t.m7, t.m8, rfloordiv_q hq (Sz.i hp) hz]
theorem fn_floordiv0 (t : OpT5 T) (h : FN l r p q) (hp : Sz 4000 p) (hz : q = 0) : opD T .FloorDiv l r S = .exc ⟨n_DivisionByZero, [], []⟩ S := by
  cases h with
  | qq p q => rw [ofd_qq t.toOpT, hz, floordiv_q0 hp]
  | qi p j =>
    have : j = 0 := Rat.intCast_eq_zero_iff.mp hz
    subst this
    rw [ofd_qi t.toOpT t.m8, floordiv_qi0 hp]
  | iq i q => simp [opD, dop, rop, dund, t.m7, t.m8, rfloordiv_q0 (Sz.i hp) hz]
theorem mod_q (h : FN l r p q) (hl : l = fQ p) (hp : Sz 900 p) (hq : Sz 900 q) (hz : q ≠ 0) : m_F_mod [l, r] S = .ok (fQ (p - q * ((p / q).floor : Int))) S := by
  have hk := lg_floordiv hp hq hz
  have hm := hq.mul (Sz.int hk)
  have hp' : Sz 4000 p := hp.mono (by decide)
  have hq' : Sz 4000 q := hq.mono (by decide)
  cases h with
  | qq p q =>
    have e1 := (ofd_qq (S := S) op3 (p := p) (q := q)).trans (floordiv_qq hp' hq' hz)
    have e2 := fn_mul (S := S) op3 (.qi q (p / q).floor) hq' (.int (by omega))
    have e3 := fn_sub (S := S) op3 (.qq p (q * ((p / q).floor : Int))) hp' (hm.mono (by decide))
    unfold m_F_mod b_F_mod
    simp [is_fp tab3, e1, e2, e3]
  | qi p j =>
    have e1 := (ofd_qi (S := S) op3 (p := p) (j := j) rfl).trans (floordiv_qi hp' (Sz.i hq') (by intro h; subst h; exact hz rfl))
    have e2 : opD T3 .Mult (.int j) (.int (p / (j : Rat)).floor) S = .ok (.int (j * (p / (j : Rat)).floor)) S := opi_mul (by have := Sz.i hq; omega)
    have e3 := fn_sub (S := S) op3 (.qi p (j * (p / (j : Rat)).floor)) hp' (by rw [Rat.intCast_mul]; exact hm.mono (by decide))
    rw [Rat.intCast_mul] at e3
    unfold m_F_mod b_F_mod
    simp [is_ip tab3, e1, e2, e3]
  | iq i q => cases hl
theorem mod_q0 (h : FN l r p q) (hl : l = fQ p) (hp : Sz 900 p) (hz : q = 0) : m_F_mod [l, r] S = .exc ⟨n_DivisionByZero, [], []⟩ S := by
  have hp' : Sz 4000 p := hp.mono (by decide)
  cases h with
  | qq p q =>
    have e1 : opD T3 .FloorDiv (fQ p) (fQ q) S = _ := (ofd_qq (S := S) op3 (p := p) (q := q)).trans (hz ▸ floordiv_q0 hp')
    unfold m_F_mod b_F_mod
    simp [is_fp tab3, e1, gc_x0]
  | qi p j =>
    have : j = 0 := Rat.intCast_eq_zero_iff.mp hz
    subst this
    have e1 := (ofd_qi (S := S) op3 (p := p) (j := 0) rfl).trans (floordiv_qi0 hp')
    unfold m_F_mod b_F_mod
    simp [is_ip tab3, e1, gc_x0]
  | iq i q => cases hl
theorem om3b : opD T3b .Mod (fQ p) (fQ q) S = m_F_mod [fQ p, fQ q] S := by
  have : T3b.meth n_Frac 9 = some (2, m_F_mod) := rfl
  simp [opD, dop, dund, this]
theorem rmod_q (hp : Sz 900 (i : Rat)) (hq : Sz 900 q) (hz : q ≠ 0) : m_F_rmod [fQ q, .int i] S = .ok (fQ ((i : Rat) - q * (((i : Rat) / q).floor : Int))) S := by
  have e := new_q1 (S := S) tab3b.mkr tab3b.fl (n := i)
  have e2 := (om3b (S := S) (p := (i : Rat)) (q := q)).trans (mod_q (.qq _ _) rfl hp hq hz)
  unfold m_F_rmod b_F_rmod
  simp [is_ii tab3b, e, e2]
theorem rmod_q0 (hp : Sz 900 (i : Rat)) (hz : q = 0) : m_F_rmod [fQ q, .int i] S = .exc ⟨n_DivisionByZero, [], []⟩ S := by
  have e := new_q1 (S := S) tab3b.mkr tab3b.fl (n := i)
  have e2 := (om3b (S := S) (p := (i : Rat)) (q := q)).trans (mod_q0 (.qq _ _) rfl hp hz)
  unfold m_F_rmod b_F_rmod
  simp [is_ii tab3b, e, e2, gc_x0]
theorem fn_mod (t : OpT5 T) (h : FN l r p q) (hp : Sz 900 p) (hq : Sz 900 q) (hz : q ≠ 0) : opD T .Mod l r S = .ok (fQ (p - q * ((p / q).floor : Int))) S := by
  have h' := h
  cases h with
  | qq p q => simp [opD, dop, dund, t.m9, mod_q h' rfl hp hq hz]
  | qi p j => simp [opD, dop, rop, dund, t.m9, t.m10, mod_q h' rfl hp hq hz]
  | iq i q => simp [opD, dop, rop, dund, t.m9, t.m10, rmod_q hp hq hz]
theorem fn_mod0 (t : OpT5 T) (h : FN l r p q) (hp : Sz 900 p) (hz : q = 0) : opD T .Mod l r S = .exc ⟨n_DivisionByZero, [], []⟩ S := by
  have h' := h
  cases h with
  | qq p q => simp [opD, dop, dund, t.m9, mod_q0 h' rfl hp hz]
  | qi p j => simp [opD, dop, rop, dund, t.m9, t.m10, mod_q0 h' rfl hp hz]
  | iq i q => simp [opD, dop, rop, dund, t.m9, t.m10, rmod_q0 hp hz]
/-! powers -/
theorem lg_pow {x : Int} {a : Nat} (h : lg x ≤ a) : ∀ n, lg (x ^ n) ≤ n * (a + 1)
  | 0 => by rw [Int.pow_zero]; exact Nat.zero_le _
  | n + 1 => by
    rw [Int.pow_succ, Nat.add_mul]
    have := lg_mul (lg_pow h n) h
    omega
theorem pow_go (hp : Sz 500 p) (n : Nat) (hn : n ≤ 16) : ∃ y4, forL (gNm 4) lb_F_pow_0 (rangeD 0 n) [some (fQ p), some (.int n), some (.int 1), some (.int 1), none] S =
      .nx [some (fQ p), some (.int n), some (.int (p.num ^ n)), some (.int ((p.den : Int) ^ n)), y4] S := by
  have step : ∀ k d env S', (rangeD 0 n)[k]? = some d → (∃ y4, S' = S ∧ env = [some (fQ p), some (.int n), some (.int (p.num ^ (0 + k))), some (.int ((p.den : Int) ^ (0 + k))), y4]) →
      ∃ env' S2, turnF (gNm 4) lb_F_pow_0 d env S' = .nx env' S2 ∧ (∃ y4, S2 = S ∧ env' = [some (fQ p), some (.int n), some (.int (p.num ^ (0 + k + 1))), some (.int ((p.den : Int) ^ (0 + k + 1))), y4]) := by
    rintro k d env S' hd ⟨y4, rfl, rfl⟩
    obtain ⟨hk, rfl⟩ := rangeD_get hd
    rw [Nat.zero_add]
    have hk2 : k * 501 ≤ 16 * 501 := Nat.mul_le_mul_right _ (by omega)
    have b1 := lg_pow hp.1 k
    have b2 := lg_pow hp.2 k
    have c1 := opi_mul (T := T1) (S := S') (i := p.num ^ k) (j := p.num) (by have := hp.1; omega)
    have c2 := opi_mul (T := T1) (S := S') (i := (p.den : Int) ^ k) (j := (p.den : Int)) (by have := hp.2; omega)
    refine ⟨[some (fQ p), some (.int n), some (.int (p.num ^ (k + 1))), some (.int ((p.den : Int) ^ (k + 1))), some (.int (0 + k))], S', ?_, _, rfl, rfl⟩
    rw [Int.pow_succ, Int.pow_succ]
    unfold turnF lb_F_pow_0
    simp [at_num tab1, at_den tab1, c1, c2]
  obtain ⟨e, S', h1, y4, h2, h3⟩ := forL_inv (plain_nm 4) (fun k env S' => ∃ y4, S' = S ∧ env = [some (fQ p), some (.int n), some (.int (p.num ^ k)), some (.int ((p.den : Int) ^ k)), y4]) (rangeD 0 n) 0 [some (fQ p), some (.int n), some (.int 1), some (.int 1), none] S ⟨none, rfl, by simp⟩ step
  subst h2 h3
  rw [rangeD_len, Nat.zero_add] at h1
  exact ⟨y4, h1⟩
theorem pw1 (hp : Sz 500 p) (n : Nat) (hn : n ≤ 16) : lg ((p.den : Int) ^ n) < 9000 := by have := lg_pow hp.2 n; have : n * 501 ≤ 16 * 501 := Nat.mul_le_mul_right _ hn; omega
theorem pw2 (n : Nat) : Rat.divInt (p.num ^ n) ((p.den : Int) ^ n) = p ^ n := by
    rw [← Rat.num_divInt_den (p ^ n), Rat.num_pow, Rat.den_pow]; simp
theorem pw3 (n : Nat) (hn : n ≤ 16) : iRange1 (mVar 1) [some (fQ p), some (.int n), some (.int 1), some (.int 1), none] S = .ok (.items (rangeD 0 n)) S := rng1 (j := n) rfl (by omega) (by omega)
theorem pow_q (hp : Sz 500 p) (n : Nat) (hn : n ≤ 16) : m_F_pow [fQ p, .int n] S = .ok (fQ (p ^ n)) S := by
  obtain ⟨y4, ey⟩ := pow_go (S := S) hp n hn
  have hd : ((p.den : Int) ^ n) ≠ 0 := Int.pow_ne_zero (den_ne p)
  have e := new_qq (S := S) tab1.mkr tab1.fl (n := p.num ^ n) hd (pw1 hp n hn)
  rw [pw2] at e
  have er := pw3 (S := S) (p := p) n hn
  generalize (fQ (p ^ n)) = z at e ⊢
  unfold m_F_pow b_F_pow
  simp [er, ey, is_ii tab1, e]
theorem fn_pow (t : OpT5 T) (hp : Sz 500 p) (n : Nat) (hn : n ≤ 16) : opD T .Pow (fQ p) (.int n) S = .ok (fQ (p ^ n)) S := by
  simp [opD, dop, rop, dund, t.m11, t.n12, pow_q hp n hn]
end


end F
def eQ (q : Rat) : D := Fr q.num q.den
def eP (q : Rat) : D := .tup [.int q.num, .int q.den]
abbrev FN := F.FN
section
variable {T : CT} {S : Store} {p q : Rat} {i j : Int} {l r : D}
theorem add_qq (hp : Sz 4000 p) (hq : Sz 4000 q) : m_F_add [eQ p, eQ q] S = .ok (eQ (p + q)) S := F.add_qq hp hq
theorem sub_qq (hp : Sz 4000 p) (hq : Sz 4000 q) : m_F_sub [eQ p, eQ q] S = .ok (eQ (p - q)) S := F.sub_qq hp hq
theorem mul_qq (hp : Sz 4000 p) (hq : Sz 4000 q) : m_F_mul [eQ p, eQ q] S = .ok (eQ (p * q)) S := F.mul_qq hp hq
theorem over_qq (hp : Sz 4000 p) (hq : Sz 4000 q) (hz : q ≠ 0) : m_F_over [eQ p, eQ q] S = .ok (eQ (p / q)) S := F.over_qq hp hq hz
theorem add_qi (hp : Sz 4000 p) (hi : lg i ≤ 4000) : m_F_add [eQ p, .int i] S = .ok (eQ (p + i)) S := F.add_qi hp hi
theorem sub_qi (hp : Sz 4000 p) (hi : lg i ≤ 4000) : m_F_sub [eQ p, .int i] S = .ok (eQ (p - i)) S := F.sub_qi hp hi
theorem mul_qi (hp : Sz 4000 p) (hi : lg i ≤ 4000) : m_F_mul [eQ p, .int i] S = .ok (eQ (p * i)) S := F.mul_qi hp hi
theorem radd_qi (hp : Sz 4000 p) (hi : lg i ≤ 4000) : m_F_radd [eQ p, .int i] S = .ok (eQ (i + p)) S := F.radd_qi hp hi
theorem rsub_qi (hp : Sz 4000 p) (hi : lg i ≤ 4000) : m_F_rsub [eQ p, .int i] S = .ok (eQ (i - p)) S := F.rsub_qi hp hi
theorem rmul_qi (hp : Sz 4000 p) (hi : lg i ≤ 4000) : m_F_rmul [eQ p, .int i] S = .ok (eQ (i * p)) S := F.rmul_qi hp hi
theorem over_qi (hp : Sz 4000 p) (hi : lg i ≤ 4000) (hz : i ≠ 0) : m_F_over [eQ p, .int i] S = .ok (eQ (p / i)) S := F.over_qi hp hi hz
theorem neg_q (hp : Sz 4000 p) : m_F_neg [eQ p] S = .ok (eQ (-p)) S := F.neg_q hp
theorem abs_q (hp : Sz 4000 p) : m_F_abs [eQ p] S = .ok (eQ p.abs) S := F.abs_q hp
theorem lt_qq (hp : Sz 4000 p) (hq : Sz 4000 q) : m_F_lt [eQ p, eQ q] S = .ok (.bl (decide (p < q))) S := F.lt_qq hp hq
theorem le_qq (hp : Sz 4000 p) (hq : Sz 4000 q) : m_F_le [eQ p, eQ q] S = .ok (.bl (decide (p ≤ q))) S := F.le_qq hp hq
theorem gt_qq (hp : Sz 4000 p) (hq : Sz 4000 q) : m_F_gt [eQ p, eQ q] S = .ok (.bl (decide (q < p))) S := F.gt_qq hp hq
theorem ge_qq (hp : Sz 4000 p) (hq : Sz 4000 q) : m_F_ge [eQ p, eQ q] S = .ok (.bl (decide (q ≤ p))) S := F.ge_qq hp hq
theorem lt_qi (hp : Sz 4000 p) (hi : lg i ≤ 4000) : m_F_lt [eQ p, .int i] S = .ok (.bl (decide (p < i))) S := F.lt_qi hp hi
theorem le_qi (hp : Sz 4000 p) (hi : lg i ≤ 4000) : m_F_le [eQ p, .int i] S = .ok (.bl (decide (p ≤ i))) S := F.le_qi hp hi
theorem gt_qi (hp : Sz 4000 p) (hi : lg i ≤ 4000) : m_F_gt [eQ p, .int i] S = .ok (.bl (decide ((i : Rat) < p))) S := F.gt_qi hp hi
theorem ge_qi (hp : Sz 4000 p) (hi : lg i ≤ 4000) : m_F_ge [eQ p, .int i] S = .ok (.bl (decide ((i : Rat) ≤ p))) S := F.ge_qi hp hi
theorem eq_qq (hp : Sz 4000 p) (hq : Sz 4000 q) : m_F_eq [eQ p, eQ q] S = .ok (.bl (decide (p = q))) S := F.eq_qq hp hq
theorem eq_qi (hp : Sz 4000 p) (hi : lg i ≤ 4000) : m_F_eq [eQ p, .int i] S = .ok (.bl (decide (p = (i : Rat)))) S := F.eq_qi hp hi
theorem floor_q (hp : Sz 4000 p) : m_F_floor [eQ p] S = .ok (.int p.floor) S := F.floor_q hp
theorem ceiling_q (hp : Sz 4000 p) : m_F_ceiling [eQ p] S = .ok (.int p.ceil) S := F.ceiling_q hp
theorem bool_q (hp : Sz 4000 p) : m_F_bool [eQ p] S = .ok (.bl (!decide (p = 0))) S := F.bool_q hp
theorem is_whole_q (hp : Sz 4000 p) : m_F_is_whole [eQ p] S = .ok (.bl (decide (p.den = 1))) S := F.is_whole_q hp
theorem floordiv_qq (hp : Sz 4000 p) (hq : Sz 4000 q) (hz : q ≠ 0) : m_F_floordiv [eQ p, eQ q] S = .ok (.int (p / q).floor) S := F.floordiv_qq hp hq hz
theorem floordiv_qi (hp : Sz 4000 p) (hi : lg i ≤ 4000) (hz : i ≠ 0) : m_F_floordiv [eQ p, .int i] S = .ok (.int (p / (i : Rat)).floor) S := F.floordiv_qi hp hi hz
theorem floordiv_q0 (hp : Sz 4000 p) : m_F_floordiv [eQ p, eQ 0] S = .exc ⟨n_DivisionByZero, [], []⟩ S := F.floordiv_q0 hp
theorem floordiv_qi0 (hp : Sz 4000 p) : m_F_floordiv [eQ p, .int 0] S = .exc ⟨n_DivisionByZero, [], []⟩ S := F.floordiv_qi0 hp
theorem new_qq (hm : T.mkr n_Frac = some (3, [.int 0, .int 1], m_F_init)) (hf : T.tn.fl n_Frac = [n_num, n_den]) {n d : Int} (hd : d ≠ 0) (h1 : lg d < 9000) : newD T n_Frac [.int n, .int d] S = .ok (eQ (Rat.divInt n d)) S := F.new_qq hm hf hd h1
theorem new_q1 (hm : T.mkr n_Frac = some (3, [.int 0, .int 1], m_F_init)) (hf : T.tn.fl n_Frac = [n_num, n_den]) {n : Int} : newD T n_Frac [.int n] S = .ok (eQ (n : Rat)) S := F.new_q1 hm hf
theorem fn_add (t : OpT T) (h : FN l r p q) (hp : Sz 4000 p) (hq : Sz 4000 q) : opD T .Add l r S = .ok (eQ (p + q)) S := F.fn_add t h hp hq
theorem fn_sub (t : OpT T) (h : FN l r p q) (hp : Sz 4000 p) (hq : Sz 4000 q) : opD T .Sub l r S = .ok (eQ (p - q)) S := F.fn_sub t h hp hq
theorem fn_mul (t : OpT T) (h : FN l r p q) (hp : Sz 4000 p) (hq : Sz 4000 q) : opD T .Mult l r S = .ok (eQ (p * q)) S := F.fn_mul t h hp hq
theorem ofd_qq (t : OpT T) : opD T .FloorDiv (eQ p) (eQ q) S = m_F_floordiv [eQ p, eQ q] S := F.ofd_qq t
theorem ofd_qi (t : OpT T) (h : T.meth n_Frac 8 = some (2, m_F_rfloordiv)) : opD T .FloorDiv (eQ p) (.int j) S = m_F_floordiv [eQ p, .int j] S := F.ofd_qi t h
theorem rfloordiv_q (hq : Sz 4000 q) (hi : lg i ≤ 4000) (hz : q ≠ 0) : m_F_rfloordiv [eQ q, .int i] S = .ok (.int ((i : Rat) / q).floor) S := F.rfloordiv_q hq hi hz
theorem rfloordiv_q0 (hi : lg i ≤ 4000) (hz : q = 0) : m_F_rfloordiv [eQ q, .int i] S = .exc ⟨n_DivisionByZero, [], []⟩ S := F.rfloordiv_q0 hi hz
theorem mod_q (h : FN l r p q) (hl : l = eQ p) (hp : Sz 900 p) (hq : Sz 900 q) (hz : q ≠ 0) : m_F_mod [l, r] S = .ok (eQ (p - q * ((p / q).floor : Int))) S := F.mod_q h hl hp hq hz
theorem mod_q0 (h : FN l r p q) (hl : l = eQ p) (hp : Sz 900 p) (hz : q = 0) : m_F_mod [l, r] S = .exc ⟨n_DivisionByZero, [], []⟩ S := F.mod_q0 h hl hp hz
theorem om3b : opD T3b .Mod (eQ p) (eQ q) S = m_F_mod [eQ p, eQ q] S := F.om3b 
theorem rmod_q (hp : Sz 900 (i : Rat)) (hq : Sz 900 q) (hz : q ≠ 0) : m_F_rmod [eQ q, .int i] S = .ok (eQ ((i : Rat) - q * (((i : Rat) / q).floor : Int))) S := F.rmod_q hp hq hz
theorem rmod_q0 (hp : Sz 900 (i : Rat)) (hz : q = 0) : m_F_rmod [eQ q, .int i] S = .exc ⟨n_DivisionByZero, [], []⟩ S := F.rmod_q0 hp hz
theorem fn_mod (t : OpT5 T) (h : FN l r p q) (hp : Sz 900 p) (hq : Sz 900 q) (hz : q ≠ 0) : opD T .Mod l r S = .ok (eQ (p - q * ((p / q).floor : Int))) S := F.fn_mod t h hp hq hz
theorem pw3 (n : Nat) (hn : n ≤ 16) : iRange1 (mVar 1) [some (eQ p), some (.int n), some (.int 1), some (.int 1), none] S = .ok (.items (rangeD 0 n)) S := F.pw3 n hn
theorem pow_q (hp : Sz 500 p) (n : Nat) (hn : n ≤ 16) : m_F_pow [eQ p, .int n] S = .ok (eQ (p ^ n)) S := F.pow_q hp n hn
theorem fn_pow (t : OpT5 T) (hp : Sz 500 p) (n : Nat) (hn : n ≤ 16) : opD T .Pow (eQ p) (.int n) S = .ok (eQ (p ^ n)) S := F.fn_pow t hp n hn
end
end Lw


set_option Elab.async false
set_option linter.all false
set_option maxRecDepth 100000
set_option maxHeartbeats 1000000
/-! QL: the law's own helpers by rationals. -/
namespace Lw
open PySem L2 PyProof.Rows He Bp
section
variable {T : CT} {S : Store} {p q : Rat} {i j : Int} {l r : D}
theorem below_eQ {n : Nat} : below n (eQ q) = true := rfl
theorem below_eP {n : Nat} : below n (eP q) = true := rfl
theorem at_num_q (t : Tab T) : attrD T n_num (eQ q) S = .ok (.int q.num) S := at_num t
theorem at_den_q (t : Tab T) : attrD T n_den (eQ q) S = .ok (.int q.den) S := at_den t
theorem is_q (t : Tab T) : isiD T [eQ q, .glob n_Frac] S = .ok (.bl true) S := is_ff t
theorem ixP0 : ixD (eP q) (.int 0) S = .ok (.int q.num) S := ix_0
theorem ixP1 : ixD (eP q) (.int 1) S = .ok (.int q.den) S := ix_1
theorem eP_neg : D.tup [.int (-q.num), .int q.den] = eP (-q) := rfl
theorem eP_int : D.tup [.int i, .int 1] = eP (i : Rat) := rfl
/-! cells -/
theorem p18 : opD T .Pow (.int 10) (.int 18) S = .ok (.int 1000000000000000000) S := opi_pow (by decide) (by decide) (by decide)
theorem p40 : opD T .Pow (.int 10) (.int 40) S = .ok (.int 10000000000000000000000000000000000000000) S := opi_pow (by decide) (by decide) (by decide)
theorem p11 : opD T .Pow (.int 10) (.int 11) S = .ok (.int 100000000000) S := opi_pow (by decide) (by decide) (by decide)
theorem cell_ok {rr : Nat} {ns : List Int} (h : S[rr]? = some (.lst (ns.map .int))) (k : Int) (h0 : 0 ≤ k) (h1 : k ≤ 1000) : ∃ c : Int, 0 ≤ c ∧ c < 1000000000000000000 ∧ m__law_cell [.ref rr, .int k] S = .ok (.int c) S := by
  obtain ⟨n, rfl⟩ := Int.eq_ofNat_of_zero_le h0
  have hm := fun x : Int => opi_mod (T := T5) (S := S) (i := x) (j := 1000000000000000000) (by decide)
  have hlen := len_ref h
  by_cases hlt : n < ns.length
  · have hx := ix_ref (k := n) (v := .int ns[n]) h (by rw [List.getElem?_map, List.getElem?_eq_getElem hlt]; rfl)
    refine ⟨ns[n].fmod 1000000000000000000, Int.fmod_nonneg_of_pos _ (by decide), Int.fmod_lt_of_pos _ (by decide), ?_⟩
    unfold m__law_cell b__law_cell
    simp [hlen, hlt, hx, p18, hm]
  · have g1 : lg (n : Int) ≤ 10 := lg_le (by omega) (by omega)
    have g2 : lg 5 = 2 := by decide
    have hmul := opi_mul (T := T5) (S := S) (i := 5) (j := n) (by omega)
    refine ⟨5 * n + 1, by omega, by omega, ?_⟩
    unfold m__law_cell b__law_cell
    simp [hlen, hlt, hmul]
theorem great_ok {rr : Nat} {ns : List Int} (h : S[rr]? = some (.lst (ns.map .int))) (k : Int) (h0 : 0 ≤ k) (h1 : k ≤ 900) : ∃ c : Int, 0 ≤ c ∧ c < 1000000000000000000000000000000000000000000000000000000 ∧ m__law_great [.ref rr, .int k] S = .ok (.int c) S := by
  obtain ⟨a, a1, a2, ea⟩ := cell_ok h (k + 0) (by omega) (by omega)
  obtain ⟨b, b1, b2, eb⟩ := cell_ok h (k + 1) (by omega) (by omega)
  obtain ⟨c, c1, c2, ec⟩ := cell_ok h (k + 2) (by omega) (by omega)
  have s1 := opi_mul (T := T5) (S := S) (i := 0) (j := 1000000000000000000) (by decide)
  have s2 := opi_mul (T := T5) (S := S) (i := 0 * 1000000000000000000 + a) (j := 1000000000000000000) (by
    have : lg (0 * 1000000000000000000 + a) ≤ 60 := lg_le (by omega) (by omega)
    have : lg 1000000000000000000 ≤ 60 := by decide
    omega)
  have s3 := opi_mul (T := T5) (S := S) (i := (0 * 1000000000000000000 + a) * 1000000000000000000 + b) (j := 1000000000000000000) (by
    have : lg ((0 * 1000000000000000000 + a) * 1000000000000000000 + b) ≤ 125 := lg_le (by omega) (by omega)
    have : lg 1000000000000000000 ≤ 60 := by decide
    omega)
  refine ⟨((0 * 1000000000000000000 + a) * 1000000000000000000 + b) * 1000000000000000000 + c, by omega, by omega, ?_⟩
  have er : rangeD 0 3 = [.int 0, .int 1, .int 2] := rfl
  have ei : ∀ env, iRange1 (mC (.int 3)) env S = .ok (.items [.int 0, .int 1, .int 2]) S := fun env => er ▸ rng1 (j := 3) rfl (by decide) (by decide)
  unfold m__law_great b__law_great lb__law_great_0
  simp only [ev_def, ev_seq, ev_asg, ev_c, ev_for, ei, onR_ok, ev_fori, forL_c, forL_nil, ev_gnm, ev_bin, ev_var, List.map_cons, List.map_nil, List.length_cons, List.length_nil, List.replicate, List.getElem?_cons_succ, List.getElem?_cons_zero, List.cons_append, List.nil_append, List.set_cons_succ, List.set_cons_zero, Res.bind_ok, p18, s1, s2, s3, ev_call, ev_args1, ev_args0, opi_add, ea, eb, ec, ev_ret, ev_frt, gc_same, Nat.sub_self, List.append_nil]
theorem num_ok {rr : Nat} {ns : List Int} (h : S[rr]? = some (.lst (ns.map .int))) (k : Int) (h0 : 0 ≤ k) (h1 : k ≤ 100) : ∃ c : Int, lg c ≤ 133 ∧ m__law_numerator [.ref rr, .int k] S = .ok (.int c) S := by
  obtain ⟨c, c1, c2, ec⟩ := cell_ok h k (by omega) (by omega)
  obtain ⟨g, g1, g2, eg⟩ := great_ok h (7 + 3 * k) (by omega) (by omega)
  have s1 := opi_mul (T := T5) (S := S) (i := 3) (j := k) (by
    have : lg k ≤ 10 := lg_le (by omega) (by omega)
    have : lg 3 ≤ 2 := by decide
    omega)
  have s2 := opi_mul (T := T5) (S := S) (i := 2) (j := 10000000000000000000000000000000000000000) (by decide)
  have d1 := opi_fdiv (T := T5) (S := S) (i := c) (j := 121) (by decide) (by decide)
  have d2 := opi_mod (T := T5) (S := S) (i := c.fdiv 121) (j := 8) (by decide)
  have d3 := opi_mod (T := T5) (S := S) (i := c) (j := 121) (by decide)
  have d4 := opi_mod (T := T5) (S := S) (i := g) (j := 20000000000000000000000000000000000000001) (by decide)
  by_cases hq : (c.fdiv 121).fmod 8 = 7
  · refine ⟨g.fmod 20000000000000000000000000000000000000001 - 10000000000000000000000000000000000000000, ?_, ?_⟩
    · have := Int.fmod_nonneg_of_pos g (b := 20000000000000000000000000000000000000001) (by decide)
      have := Int.fmod_lt_of_pos g (b := 20000000000000000000000000000000000000001) (by decide)
      exact lg_le (by omega) (by omega)
    · unfold m__law_numerator b__law_numerator
      simp [ec, eg, s1, s2, d1, d2, hq, d4, p40]
  · refine ⟨c.fmod 121 - 60, ?_, ?_⟩
    · have := Int.fmod_nonneg_of_pos c (b := 121) (by decide)
      have := Int.fmod_lt_of_pos c (b := 121) (by decide)
      exact lg_le (by omega) (by omega)
    · unfold m__law_numerator b__law_numerator
      simp [ec, d1, d2, hq, d3]
theorem den_ok {rr : Nat} {ns : List Int} (h : S[rr]? = some (.lst (ns.map .int))) (k : Int) (h0 : 0 ≤ k) (h1 : k ≤ 100) : ∃ c : Int, 0 < c ∧ lg c ≤ 133 ∧ m__law_denominator [.ref rr, .int k] S = .ok (.int c) S := by
  obtain ⟨c, c1, c2, ec⟩ := cell_ok h k (by omega) (by omega)
  obtain ⟨g, g1, g2, eg⟩ := great_ok h (7 + 3 * k) (by omega) (by omega)
  have s1 := opi_mul (T := T5) (S := S) (i := 3) (j := k) (by
    have : lg k ≤ 10 := lg_le (by omega) (by omega)
    have : lg 3 ≤ 2 := by decide
    omega)
  have d1 := opi_fdiv (T := T5) (S := S) (i := c) (j := 12) (by decide) (by decide)
  have d2 := opi_mod (T := T5) (S := S) (i := c.fdiv 12) (j := 8) (by decide)
  have d3 := opi_mod (T := T5) (S := S) (i := c) (j := 12) (by decide)
  have d4 := opi_mod (T := T5) (S := S) (i := g) (j := 10000000000000000000000000000000000000000) (by decide)
  by_cases hq : (c.fdiv 12).fmod 8 = 7
  · have z1 := Int.fmod_nonneg_of_pos g (b := 10000000000000000000000000000000000000000) (by decide)
    have z2 := Int.fmod_lt_of_pos g (b := 10000000000000000000000000000000000000000) (by decide)
    refine ⟨g.fmod 10000000000000000000000000000000000000000 + 1, by omega, lg_le (by omega) (by omega), ?_⟩
    unfold m__law_denominator b__law_denominator
    simp [ec, eg, s1, d1, d2, hq, d4, p40]
  · have z1 := Int.fmod_nonneg_of_pos c (b := 12) (by decide)
    have z2 := Int.fmod_lt_of_pos c (b := 12) (by decide)
    refine ⟨c.fmod 12 + 1, by omega, lg_le (by omega) (by omega), ?_⟩
    unfold m__law_denominator b__law_denominator
    simp [ec, d1, d2, hq, d3]
/-! lowest terms -/
theorem gcd_go : ∀ (n a b : Nat) (o : Option D), b < n → ∃ o', whileF (mB (mBin (cmpD T5 .NotEq) (mVar 1) (mC (.int 0)))) lb__law_gcd_0 n [some (.int a), some (.int b), o] S = .nx [some (.int (Nat.gcd a b : Nat)), some (.int 0), o'] S
  | 0, _, _, _, h => absurd h (by omega)
  | n + 1, a, b, o, h => by
    rw [while_succ]
    by_cases hb : b = 0
    · subst hb
      exact ⟨o, by simp⟩
    · have hm := opi_mod (T := T5) (S := S) (i := a) (j := b) (by omega)
      rw [← Int.ofNat_fmod] at hm
      have hlt := Nat.mod_lt a (Nat.pos_of_ne_zero hb)
      obtain ⟨o', e⟩ := gcd_go n b (a % b) (some (.int ((a % b : Nat) : Int))) (by omega)
      refine ⟨o', ?_⟩
      have hg : Nat.gcd a b = Nat.gcd b (a % b) := by rw [Nat.gcd_comm a b, Nat.gcd_rec b a, Nat.gcd_comm]
      rw [hg, ← e]
      have hbi : ¬ ((b : Int) = 0) := by omega
      have eb : lb__law_gcd_0 [some (.int a), some (.int b), o] S = .nx [some (.int b), some (.int ((a % b : Nat) : Int)), some (.int ((a % b : Nat) : Int))] S := by
        unfold lb__law_gcd_0
        simp only [ev_def, ev_seq, ev_asg, ev_c, onR_ok, ev_bin, ev_var, List.getElem?_cons_succ, List.getElem?_cons_zero, List.set_cons_succ, List.set_cons_zero, Res.bind_ok, ev_call, ev_args1, ev_args0, ev_int, hm]
      simp only [ev_B, ev_bin, ev_var, List.getElem?_cons_succ, List.getElem?_cons_zero, Res.bind_ok, ev_c, cmi_ne, hbi, decide_false, Bool.not_false, ev_asB, onR_ok, if_true, eb]
theorem abs_nat (a : Int) : (if a < 0 then -a else a) = (a.natAbs : Int) := by split <;> omega
theorem gcd_ok (a b : Int) : m__law_gcd [.int a, .int b] S = .ok (.int ((Nat.gcd a.natAbs b.natAbs : Nat) : Int)) S := by
  obtain ⟨o', e⟩ := gcd_go (S := S) (b.natAbs + 2) a.natAbs b.natAbs none (by omega)
  unfold m__law_gcd b__law_gcd
  simp [abs_nat, fuelN, e]
theorem low_pos {n d : Int} (hd : 0 < d) (h : lg d < 9000) : n.fdiv ((Nat.gcd n.natAbs d.natAbs : Nat) : Int) = (Rat.divInt n d).num ∧ d.fdiv ((Nat.gcd n.natAbs d.natAbs : Nat) : Int) = (Rat.divInt n d).den := by
  have h0 : d ≠ 0 := by omega
  have hs : sg n d = ((Nat.gcd n.natAbs d.natAbs : Nat) : Int) := by unfold sg; rw [if_neg (by omega)]
  rw [← hs]
  exact ⟨sg_num h0, sg_den h0⟩
theorem low_ok {n d : Int} (hd : d ≠ 0) (h : lg d < 9000) : m__law_low [.int n, .int d] S = .ok (eP (Rat.divInt n d)) S := by
  have key : ∀ n d : Int, 0 < d → lg d < 9000 → opD T5 .FloorDiv (.int n) (.int ((Nat.gcd n.natAbs d.natAbs : Nat) : Int)) S = .ok (.int (Rat.divInt n d).num) S ∧ opD T5 .FloorDiv (.int d) (.int ((Nat.gcd n.natAbs d.natAbs : Nat) : Int)) S = .ok (.int (Rat.divInt n d).den) S := by
    intro n d hd h
    have h0 : d ≠ 0 := by omega
    have hg := gcd_ne (n := n) h0
    have h2 : lg ((Nat.gcd n.natAbs d.natAbs : Nat) : Int) < 9000 := Nat.lt_of_le_of_lt (lg_gcd h0 (Nat.le_refl _)) h
    obtain ⟨e1, e2⟩ := low_pos (n := n) hd h
    rw [opi_fdiv (by omega) h2, opi_fdiv (by omega) h2, e1, e2]
    exact ⟨rfl, rfl⟩
  by_cases hn : d < 0
  · obtain ⟨k1, k2⟩ := key (-n) (-d) (by omega) (by rw [lg_neg]; exact h)
    rw [Rat.neg_divInt_neg] at k1 k2
    unfold m__law_low b__law_low eP
    generalize (Rat.divInt n d).num = x at *
    generalize (Rat.divInt n d).den = y at *
    simp only [Int.natAbs_neg] at k1 k2
    simp [hn, gcd_ok, k1, k2]
  · obtain ⟨k1, k2⟩ := key n d (by omega) h
    unfold m__law_low b__law_low eP
    generalize (Rat.divInt n d).num = x at *
    generalize (Rat.divInt n d).den = y at *
    simp [hn, gcd_ok, k1, k2]
theorem nP (q : Rat) : (D.tup [.int q.num, .int q.den]) = eP q := rfl
theorem lgn {k : Nat} (h : Sz k p) : lg p.num ≤ k := h.1
theorem lgd {k : Nat} (h : Sz k p) : lg (p.den : Int) ≤ k := h.2
theorem ladd_ok (hp : Sz 4000 p) (hq : Sz 4000 q) : m__law_add [eP p, eP q] S = .ok (eP (p + q)) S := by
  have a1 := lgn hp; have a2 := lgd hp; have a3 := lgn hq; have a4 := lgd hq
  have h0 := Int.mul_ne_zero (den_ne p) (den_ne q)
  have e := low_ok (S := S) (n := p.num * q.den + q.num * p.den) h0 (by have := lg_mul a2 a4; omega)
  rw [q_add] at e
  have m1 := opi_mul (T := T5) (S := S) (i := p.num) (j := q.den) (by omega)
  have m2 := opi_mul (T := T5) (S := S) (i := q.num) (j := p.den) (by omega)
  have m3 := opi_mul (T := T5) (S := S) (i := p.den) (j := q.den) (by omega)
  generalize eP (p + q) = z at *
  unfold m__law_add b__law_add
  simp [ixP0, ixP1, m1, m2, m3, e]
theorem lmul_ok (hp : Sz 4000 p) (hq : Sz 4000 q) : m__law_mul [eP p, eP q] S = .ok (eP (p * q)) S := by
  have a1 := lgn hp; have a2 := lgd hp; have a3 := lgn hq; have a4 := lgd hq
  have h0 := Int.mul_ne_zero (den_ne p) (den_ne q)
  have e := low_ok (S := S) (n := p.num * q.num) h0 (by have := lg_mul a2 a4; omega)
  rw [q_mul] at e
  have m1 := opi_mul (T := T5) (S := S) (i := p.num) (j := q.num) (by omega)
  have m3 := opi_mul (T := T5) (S := S) (i := p.den) (j := q.den) (by omega)
  generalize eP (p * q) = z at *
  unfold m__law_mul b__law_mul
  simp [ixP0, ixP1, m1, m3, e]
theorem lfloor_ok (hp : Sz 4000 p) (hq : Sz 4000 q) (hz : q ≠ 0) : m__law_floor [eP p, eP q] S = .ok (.int (p / q).floor) S := by
  have a1 := lgn hp; have a2 := lgd hp; have a3 := lgn hq; have a4 := lgd hq
  have h0 := Int.mul_ne_zero (den_ne p) (F.numz hz)
  have e := q_floordiv p q hz
  have hl : lg (p.den * q.num) < 9000 := by have := lg_mul a2 a3; omega
  have m1 := opi_mul (T := T5) (S := S) (i := p.num) (j := q.den) (by omega)
  have m3 := opi_mul (T := T5) (S := S) (i := p.den) (j := q.num) (by omega)
  unfold m__law_floor b__law_floor
  generalize (p / q).floor = z at *
  generalize p.num * q.den = n at *
  generalize p.den * q.num = d at *
  by_cases hn : d < 0
  · have f := opi_fdiv (T := T5) (S := S) (i := -n) (j := -d) (by omega) (by rw [lg_neg]; exact hl)
    rw [Int.neg_fdiv_neg, e] at f
    simp [ixP0, ixP1, m1, m3, hn, f]
  · have f := opi_fdiv (T := T5) (S := S) (i := n) (j := d) h0 hl
    rw [e] at f
    simp [ixP0, ixP1, m1, m3, hn, f]
theorem integer_ok : m__law_integer [.int i, .int j] S = .ok (.bl (decide (i = j))) S := by
  unfold m__law_integer b__law_integer
  simp [is_ii tab5, is_ib tab5]
theorem truth_ok {x y : Bool} : m__law_truth [.bl x, .bl y] S = .ok (.bl (decide (x = y))) S := by
  unfold m__law_truth b__law_truth
  simp [is_bb tab5]
theorem is_ok' {a b : Int} : m__law_is [eQ p, .tup [.int a, .int b]] S = .ok (.bl (decide (p.num = a ∧ (p.den : Int) = b))) S := by
  unfold m__law_is b__law_is
  by_cases h : p.num = a
  · simp [is_q tab5, at_num_q tab5, at_den_q tab5, integer_ok, h]
  · simp [is_q tab5, at_num_q tab5, at_den_q tab5, integer_ok, h]
theorem is_ok : m__law_is [eQ p, eP q] S = .ok (.bl (decide (p = q))) S := by
  rw [← nP, is_ok', decide_eq_decide.mpr (q_ext p q)]
/-! refusals -/
theorem xm5 : T5.xm n_DivisionByZero (.c n_BestError) = some true := by kernel_rfl
theorem xi1 : T5.isi (.c n_DivisionByZero) (.c n_DivisionByZero) = some true := by kernel_rfl
theorem xi2 : T5.isi (.c n_DivisionByZero) (.c n_BadNumber) = some false := by kernel_rfl
theorem xi3 : T5.isi (.c n_DivisionByZero) (.b "ValueError") = some true := by kernel_rfl
theorem exo5 : T5.exo n_DivisionByZero = true := by kernel_rfl
theorem suf_rt {env : Bp.Env} {k : Nat} {d : D} (h : noX d = true) : sufFin k env S (.rt d S) = .rt d S := by
  unfold sufFin
  simp [h, okS]
noncomputable abbrev refB : MS := mSeq (mIfS (mOr (mNot (mTru (mCall (isiX T5) [mVar 4, mC (.glob n_DivisionByZero)]))) (mTru (mCall (isiX T5) [mVar 4, mC (.glob n_BadNumber)]))) (mRet (mC (.bl false))) (mNext)) (mRet (mAndV (mCall (isiX T5) [mVar 4, mC (.ty "ValueError")]) (mBin isND (mVar 3) (mC .non))))
theorem suite_ok {a b c : Option D} : refB [a, b, c, some .non, some (.xv n_DivisionByZero [] [])] S = .rt (.bl true) S := by
  unfold refB
  simp [isiX, clsTg, xi1, xi2, xi3, exo5]
theorem tryAs_ok {T : CT} {k : Nat} {tg : Tg} {mb ms : MS} {env env1 : Bp.Env} {d : D} {e : Ex} (h : mb env S = .exc e env1 S) (hx : T.xm e.c tg = some true) (hs : ms (env1.set k (some (.xv e.c e.ks e.vs))) S = .rt d S) (hd : noX d = true) : mTryAs T k tg mb ms env S = .rt d S := by
  unfold mTryAs
  rw [h]
  simp only [hx, hs]
  exact suf_rt hd
theorem refused0 (h : opD T5 .FloorDiv l r S = .exc ⟨n_DivisionByZero, [], []⟩ S) : m__law_refused [l, r, .int 0] S = .ok (.bl true) S := by
  have k := tryAs_ok (S := S) (T := T5) (k := 4) (tg := .c n_BestError) (mb := mIfS (mB (mBin (cmpD T5 .Eq) (mVar 2) (mC (.int 0)))) (mAsg 3 (mBin (opD T5 .FloorDiv) (mVar 0) (mVar 1))) (mIfS (mB (mBin (cmpD T5 .Eq) (mVar 2) (mC (.int 1)))) (mAsg 3 (mBin (opD T5 .Mod) (mVar 0) (mVar 1))) (mIfS (mB (mBin (cmpD T5 .Eq) (mVar 2) (mC (.int 2)))) (mAsg 3 (mMeth T5 n_over (mVar 0) [mVar 1])) (mAsg 3 (mNew T5 n_Frac [mVar 0, mVar 1])))))
    (ms := refB) (env := [some l, some r, some (.int 0), some .non, none]) (env1 := [some l, some r, some (.int 0), some .non, none]) (e := ⟨n_DivisionByZero, [], []⟩) (by simp [h]) xm5 suite_ok rfl
  unfold m__law_refused b__law_refused
  simp [k]
theorem refused1 (h : opD T5 .Mod l r S = .exc ⟨n_DivisionByZero, [], []⟩ S) : m__law_refused [l, r, .int 1] S = .ok (.bl true) S := by
  have k := tryAs_ok (S := S) (T := T5) (k := 4) (tg := .c n_BestError) (mb := mIfS (mB (mBin (cmpD T5 .Eq) (mVar 2) (mC (.int 0)))) (mAsg 3 (mBin (opD T5 .FloorDiv) (mVar 0) (mVar 1))) (mIfS (mB (mBin (cmpD T5 .Eq) (mVar 2) (mC (.int 1)))) (mAsg 3 (mBin (opD T5 .Mod) (mVar 0) (mVar 1))) (mIfS (mB (mBin (cmpD T5 .Eq) (mVar 2) (mC (.int 2)))) (mAsg 3 (mMeth T5 n_over (mVar 0) [mVar 1])) (mAsg 3 (mNew T5 n_Frac [mVar 0, mVar 1])))))
    (ms := refB) (env := [some l, some r, some (.int 1), some .non, none]) (env1 := [some l, some r, some (.int 1), some .non, none]) (e := ⟨n_DivisionByZero, [], []⟩) (by simp [h]) xm5 suite_ok rfl
  unfold m__law_refused b__law_refused
  simp [k]
theorem hasM_over : hasM T5 n_over (eQ p) S = true := by
  have h1 := tab5.kn; have h2 := op5.toOpT.mov; have h3 := op5.toOpT.nov; have h4 := tab5.fl
  unfold hasM eQ
  simp [h1, h2, h3, h4]
  decide
theorem dund_over {x : D} : dund T5 (clsOf (eQ p) S) n_over [eQ p, x] S = m_F_over [eQ p, x] S := by
  have h2 := op5.toOpT.mov
  unfold eQ clsOf dund
  simp [h2]
theorem refused2 (h : m_F_over [eQ p, r] S = .exc ⟨n_DivisionByZero, [], []⟩ S) : m__law_refused [eQ p, r, .int 2] S = .ok (.bl true) S := by
  have k := tryAs_ok (S := S) (T := T5) (k := 4) (tg := .c n_BestError) (mb := mIfS (mB (mBin (cmpD T5 .Eq) (mVar 2) (mC (.int 0)))) (mAsg 3 (mBin (opD T5 .FloorDiv) (mVar 0) (mVar 1))) (mIfS (mB (mBin (cmpD T5 .Eq) (mVar 2) (mC (.int 1)))) (mAsg 3 (mBin (opD T5 .Mod) (mVar 0) (mVar 1))) (mIfS (mB (mBin (cmpD T5 .Eq) (mVar 2) (mC (.int 2)))) (mAsg 3 (mMeth T5 n_over (mVar 0) [mVar 1])) (mAsg 3 (mNew T5 n_Frac [mVar 0, mVar 1])))))
    (ms := refB) (env := [some (eQ p), some r, some (.int 2), some .non, none]) (env1 := [some (eQ p), some r, some (.int 2), some .non, none]) (e := ⟨n_DivisionByZero, [], []⟩) (by simp [hasM_over, dund_over, h]) xm5 suite_ok rfl
  unfold m__law_refused b__law_refused
  simp [k]
theorem refused3 : m__law_refused [.int i, .int 0, .int 3] S = .ok (.bl true) S := by
  have h := new_zero (S := S) tab5.mkr (n := i)
  have k := tryAs_ok (S := S) (T := T5) (k := 4) (tg := .c n_BestError) (mb := mIfS (mB (mBin (cmpD T5 .Eq) (mVar 2) (mC (.int 0)))) (mAsg 3 (mBin (opD T5 .FloorDiv) (mVar 0) (mVar 1))) (mIfS (mB (mBin (cmpD T5 .Eq) (mVar 2) (mC (.int 1)))) (mAsg 3 (mBin (opD T5 .Mod) (mVar 0) (mVar 1))) (mIfS (mB (mBin (cmpD T5 .Eq) (mVar 2) (mC (.int 2)))) (mAsg 3 (mMeth T5 n_over (mVar 0) [mVar 1])) (mAsg 3 (mNew T5 n_Frac [mVar 0, mVar 1])))))
    (ms := refB) (env := [some (.int i), some (.int 0), some (.int 3), some .non, none]) (env1 := [some (.int i), some (.int 0), some (.int 3), some .non, none]) (e := ⟨n_DivisionByZero, [], []⟩) (by simp [h]) xm5 suite_ok rfl
  unfold m__law_refused b__law_refused
  simp [k]
/-! the operators -/
theorem operators_ok (h : FN l r p q) (hp : Sz 300 p) (hq : Sz 300 q) : m__law_operators [l, r, eP p, eP q] S = .ok (.bl true) S := by
  have hp4 : Sz 4000 p := hp.mono (by decide)
  have hq4 : Sz 4000 q := hq.mono (by decide)
  have o1 := fn_add (S := S) op5.toOpT h hp4 hq4
  have o2 := fn_sub (S := S) op5.toOpT h hp4 hq4
  have o3 := fn_mul (S := S) op5.toOpT h hp4 hq4
  have l1 := ladd_ok (S := S) hp4 hq4
  have l2 := ladd_ok (S := S) hp4 hq4.neg
  have l3 := lmul_ok (S := S) hp4 hq4
  have e2 : p + -q = p - q := (Rat.sub_eq_add_neg p q).symm
  rw [e2] at l2
  by_cases hz : q = 0
  · have r0 := refused0 (F.fn_floordiv0 (S := S) op5 h hp4 hz)
    have r1 := refused1 (F.fn_mod0 (S := S) op5 h (hp.mono (by decide)) hz)
    have hb : decide (q.num = 0) = true := by rw [hz]; rfl
    unfold m__law_operators b__law_operators
    simp only [gc_same, gc_ext_bl, gc_ext_int, gc_ext_str, gc_ext_non, gc_exc_0, gc_x0, ev_seq, ev_asg, ev_asgG, ev_gnm, ev_gtup, ev_gtp0, ev_gtp1, ev_ret, ev_retn, ev_drop, ev_ifs, ev_next, ev_brk, ev_cnt, ev_c, ev_var, ev_bin, ev_un, ev_args0, ev_args1, ev_tup, ev_lst, ev_if, ev_and, ev_or, ev_not, ev_B, ev_tru, ev_asB, ev_notD, ev_tru_b, ev_tru_i, ev_tru_n, ev_tru_t, ev_andV, ev_orV, ev_andb, ev_orb, ev_call, ev_attr, ev_new, ev_seta, ev_meth, ev_bm, ev_aug, ev_sl, ev_pn, ev_ps, ev_asI, ev_for, ev_fori, ev_while, ev_ival, ev_it_t, ev_it_r, ev_def, ev_fnx, ev_frt, ev_fx, ev_int, ev_intb, ev_raise0, ev_isn, ev_isnn, opi_add, opi_sub, cmi_lt, cmi_le, cmi_gt, cmi_ge, cmi_eq, cmi_ne, cmb_eq, cmb_ne, cms_eq, cms_ne, negI, absI, ix_0, ix_1, ix_2, ix_3, len_tup, List.map_cons, List.map_nil, List.length_cons, List.length_nil, List.replicate, List.getElem?_cons_succ, List.getElem?_cons_zero, List.cons_append, List.nil_append, List.set_cons_succ, List.set_cons_zero, Res.bind_ok, Res.bind_exc, onR_ok, onR_exc, decide_true, decide_false, Bool.not_true, Bool.not_false, Bool.false_eq_true, if_true, if_false, Nat.sub_self, List.append_nil, List.append_assoc, Nat.add_one_sub_one, Nat.zero_add, Nat.reduceAdd, Nat.reduceSub, bne_self_eq_false, Int.reduceNeg, o1, o2, o3, l1, l2, l3, is_ok, ixP0, ixP1, eP_neg, hb, r0, r1]
  · have hz' : ¬ q.num = 0 := F.numz hz
    have f1 := lfloor_ok (S := S) hp4 hq4 hz
    have f2 := F.fn_floordiv (S := S) op5 h hp4 hq4 hz
    have f3 := fn_mod (S := S) op5 h (hp.mono (by decide)) (hq.mono (by decide)) hz
    have hk := F.lg_floordiv hp hq hz
    generalize (p / q).floor = k at *
    have hk4 : Sz 4000 ((-k : Int) : Rat) := Sz.int (by rw [lg_neg]; omega)
    have l4 := lmul_ok (S := S) hk4 hq4
    have hs : Sz 4000 (((-k : Int) : Rat) * q) := (Sz.mul (a := 601) (b := 300) (Sz.int (by rw [lg_neg]; omega)) hq).mono (by decide)
    have l5 := ladd_ok (S := S) hp4 hs
    have e5 : p + ((-k : Int) : Rat) * q = p - q * (k : Rat) := by rw [Rat.intCast_neg]; grind
    rw [e5] at l5
    unfold m__law_operators b__law_operators
    simp only [gc_same, gc_ext_bl, gc_ext_int, gc_ext_str, gc_ext_non, gc_exc_0, gc_x0, ev_seq, ev_asg, ev_asgG, ev_gnm, ev_gtup, ev_gtp0, ev_gtp1, ev_ret, ev_retn, ev_drop, ev_ifs, ev_next, ev_brk, ev_cnt, ev_c, ev_var, ev_bin, ev_un, ev_args0, ev_args1, ev_tup, ev_lst, ev_if, ev_and, ev_or, ev_not, ev_B, ev_tru, ev_asB, ev_notD, ev_tru_b, ev_tru_i, ev_tru_n, ev_tru_t, ev_andV, ev_orV, ev_andb, ev_orb, ev_call, ev_attr, ev_new, ev_seta, ev_meth, ev_bm, ev_aug, ev_sl, ev_pn, ev_ps, ev_asI, ev_for, ev_fori, ev_while, ev_ival, ev_it_t, ev_it_r, ev_def, ev_fnx, ev_frt, ev_fx, ev_int, ev_intb, ev_raise0, ev_isn, ev_isnn, opi_add, opi_sub, cmi_lt, cmi_le, cmi_gt, cmi_ge, cmi_eq, cmi_ne, cmb_eq, cmb_ne, cms_eq, cms_ne, negI, absI, ix_0, ix_1, ix_2, ix_3, len_tup, List.map_cons, List.map_nil, List.length_cons, List.length_nil, List.replicate, List.getElem?_cons_succ, List.getElem?_cons_zero, List.cons_append, List.nil_append, List.set_cons_succ, List.set_cons_zero, Res.bind_ok, Res.bind_exc, onR_ok, onR_exc, decide_true, decide_false, Bool.not_true, Bool.not_false, Bool.false_eq_true, if_true, if_false, Nat.sub_self, List.append_nil, List.append_assoc, Nat.add_one_sub_one, Nat.zero_add, Nat.reduceAdd, Nat.reduceSub, bne_self_eq_false, Int.reduceNeg, o1, o2, o3, l1, l2, l3, is_ok, ixP0, ixP1, eP_neg, hz', f1, f2, integer_ok, f3, eP_int, l4, l5]
theorem over_ok (h : FN (eQ p) r p q) (hp : Sz 300 p) (hq : Sz 300 q) : m__law_over [eQ p, r, eP p, eP q] S = .ok (.bl true) S := by
  have hp4 : Sz 4000 p := hp.mono (by decide)
  have hq4 : Sz 4000 q := hq.mono (by decide)
  have a1 := lgn hp4; have a2 := lgd hp4; have a3 := lgn hq4; have a4 := lgd hq4
  by_cases hz : q = 0
  · have hz' : q.num = 0 := by rw [hz]; rfl
    have ho : m_F_over [eQ p, r] S = .exc ⟨n_DivisionByZero, [], []⟩ S := by
      generalize hl : eQ p = l' at h
      cases h with
      | qq p' q => subst hz; exact over_z (c := 0) (d := 1) hp4.1 hp4.2 (by decide) (by decide)
      | qi p' j =>
        have : j = 0 := Rat.intCast_eq_zero_iff.mp hz
        subst this
        exact over_zi (c := 0) (d := 1) hp4.1 hp4.2 (by decide) (by decide)
      | iq i q => cases hl
    have r2 := refused2 ho
    unfold m__law_over b__law_over
    simp [ixP0, hz', r2]
  · have hz' : ¬ q.num = 0 := F.numz hz
    have h0 := Int.mul_ne_zero (den_ne p) (F.numz hz)
    have ho : m_F_over [eQ p, r] S = .ok (eQ (p / q)) S := by
      generalize hl : eQ p = l' at h
      cases h with
      | qq p' q => exact over_qq hp4 hq4 hz
      | qi p' j => exact over_qi hp4 (Sz.i hq4) (by intro z; subst z; exact hz rfl)
      | iq i q => cases hl
    have m1 := opi_mul (T := T5) (S := S) (i := p.num) (j := q.den) (by omega)
    have m2 := opi_mul (T := T5) (S := S) (i := p.den) (j := q.num) (by omega)
    have e := low_ok (S := S) (n := p.num * q.den) h0 (by have := lg_mul a2 a3; omega)
    rw [q_div] at e
    unfold m__law_over b__law_over
    simp [ixP0, ixP1, hz', m1, m2, e, hasM_over, dund_over, ho, is_ok]
end
end Lw


set_option Elab.async false
set_option linter.all false
set_option maxRecDepth 100000
set_option maxHeartbeats 1000000
/-! QM: the rest of the law. -/
namespace Lw
open PySem L2 PyProof.Rows He Bp
section
variable {T : CT} {S : Store} {p q : Rat} {i j : Int} {l r : D}
theorem orders_ok (h : FN l r p q) (hp : Sz 300 p) (hq : Sz 300 q) : m__law_orders [l, r, eP p, eP q] S = .ok (.bl true) S := by
  have hp4 : Sz 4000 p := hp.mono (by decide)
  have hq4 : Sz 4000 q := hq.mono (by decide)
  have a1 := lgn hp4; have a2 := lgd hp4; have a3 := lgn hq4; have a4 := lgd hq4
  have m1 := fun S => opi_mul (T := T5) (S := S) (i := p.num) (j := q.den) (by omega)
  have m2 := fun S => opi_mul (T := T5) (S := S) (i := q.num) (j := p.den) (by omega)
  have o1 := fun S => F.fn_eq (S := S) op5.toOpT h hp4 hq4
  have o2 := fun S => F.fn_ne (S := S) op5 h hp4 hq4
  have o3 := fun S => F.fn_lt (S := S) op5.toOpT h hp4 hq4
  have o4 := fun S => F.fn_le (S := S) op5.toOpT h hp4 hq4
  have o5 := fun S => F.fn_gt (S := S) op5.toOpT h hp4 hq4
  have o6 := fun S => F.fn_ge (S := S) op5.toOpT h hp4 hq4
  have d1 : decide (p.num * q.den < q.num * p.den) = decide (p < q) := decide_eq_decide.mpr (q_lt p q)
  have d2 : decide (p.num * q.den = q.num * p.den) = decide (p = q) := decide_eq_decide.mpr (q_eq p q)
  have d4 : decide (p ≤ q) = (decide (p < q) || decide (p = q)) := by rw [← Bool.decide_or]; exact decide_eq_decide.mpr Rat.le_iff_lt_or_eq
  have d6 : decide (q ≤ p) = !decide (p < q) := by rw [← decide_not]; exact decide_eq_decide.mpr Rat.not_lt.symm
  have d5 : decide (q < p) = (!decide (p < q) && !decide (p = q)) := by
    rw [← decide_not, ← decide_not, ← Bool.decide_and]
    refine decide_eq_decide.mpr ?_
    rw [Rat.not_lt]
    exact ⟨fun z => ⟨Rat.le_of_lt z, fun e => Rat.lt_irrefl (e ▸ z)⟩, fun z => Rat.lt_of_le_of_ne z.1 (fun e => z.2 e.symm)⟩
  rw [d4] at o4; rw [d5] at o5; rw [d6] at o6
  have er : rangeD 0 6 = [.int 0, .int 1, .int 2, .int 3, .int 4, .int 5] := rfl
  have ei : ∀ env S, iRange1 (mC (.int 6)) env S = .ok (.items [.int 0, .int 1, .int 2, .int 3, .int 4, .int 5]) S := fun env S => er ▸ rng1 (j := 6) rfl (by decide) (by decide)
  unfold m__law_orders b__law_orders lb__law_orders_0
  generalize decide (p < q) = b1 at *
  generalize decide (p = q) = b2 at *
  cases b1 <;> cases b2 <;> simp [ixP0, ixP1, m1, m2, d1, d2, o1, o2, o3, o4, o5, o6, opl_add, List.getElem?_append_right, szK, ei, forL_c, forL_nil, ixr, L2.atI, L2.ixN, truth_ok, gc_ext, below]
theorem fdrop {S U : Store} : gc S (.ok (eQ q) (S ++ U)) = .ok (eQ q) S := gc_ext rfl
theorem lg_pow2 {x : Int} {a : Nat} (h : lg x ≤ a) (n : Nat) (hn : n ≤ 17) : lg (x ^ n) ≤ 17 * (a + 1) := Nat.le_trans (F.lg_pow h n) (Nat.mul_le_mul_right _ hn)
theorem powers_ok (hp : Sz 300 p) : m__law_powers [eQ p, eP p] S = .ok (.bl true) S := by
  have hp := hp.mono (show 300 ≤ 500 by decide)
  have w0 : ∀ S, opD T5 .Pow (eQ p) (.int 0) S = .ok (eQ (p ^ 0)) S := fun S => fn_pow (S := S) op5 hp 0 (by decide)
  have w1 : ∀ S, opD T5 .Pow (eQ p) (.int 1) S = .ok (eQ (p ^ 1)) S := fun S => fn_pow (S := S) op5 hp 1 (by decide)
  have w2 : ∀ S, opD T5 .Pow (eQ p) (.int 2) S = .ok (eQ (p ^ 2)) S := fun S => fn_pow (S := S) op5 hp 2 (by decide)
  have w3 : ∀ S, opD T5 .Pow (eQ p) (.int 3) S = .ok (eQ (p ^ 3)) S := fun S => fn_pow (S := S) op5 hp 3 (by decide)
  have w4 : ∀ S, opD T5 .Pow (eQ p) (.int 4) S = .ok (eQ (p ^ 4)) S := fun S => fn_pow (S := S) op5 hp 4 (by decide)
  have w5 : ∀ S, opD T5 .Pow (eQ p) (.int 5) S = .ok (eQ (p ^ 5)) S := fun S => fn_pow (S := S) op5 hp 5 (by decide)
  have w6 : ∀ S, opD T5 .Pow (eQ p) (.int 6) S = .ok (eQ (p ^ 6)) S := fun S => fn_pow (S := S) op5 hp 6 (by decide)
  have w7 : ∀ S, opD T5 .Pow (eQ p) (.int 7) S = .ok (eQ (p ^ 7)) S := fun S => fn_pow (S := S) op5 hp 7 (by decide)
  have w8 : ∀ S, opD T5 .Pow (eQ p) (.int 8) S = .ok (eQ (p ^ 8)) S := fun S => fn_pow (S := S) op5 hp 8 (by decide)
  have w9 : ∀ S, opD T5 .Pow (eQ p) (.int 9) S = .ok (eQ (p ^ 9)) S := fun S => fn_pow (S := S) op5 hp 9 (by decide)
  have w10 : ∀ S, opD T5 .Pow (eQ p) (.int 10) S = .ok (eQ (p ^ 10)) S := fun S => fn_pow (S := S) op5 hp 10 (by decide)
  have w11 : ∀ S, opD T5 .Pow (eQ p) (.int 11) S = .ok (eQ (p ^ 11)) S := fun S => fn_pow (S := S) op5 hp 11 (by decide)
  have w12 : ∀ S, opD T5 .Pow (eQ p) (.int 12) S = .ok (eQ (p ^ 12)) S := fun S => fn_pow (S := S) op5 hp 12 (by decide)
  have w13 : ∀ S, opD T5 .Pow (eQ p) (.int 13) S = .ok (eQ (p ^ 13)) S := fun S => fn_pow (S := S) op5 hp 13 (by decide)
  have w14 : ∀ S, opD T5 .Pow (eQ p) (.int 14) S = .ok (eQ (p ^ 14)) S := fun S => fn_pow (S := S) op5 hp 14 (by decide)
  have w15 : ∀ S, opD T5 .Pow (eQ p) (.int 15) S = .ok (eQ (p ^ 15)) S := fun S => fn_pow (S := S) op5 hp 15 (by decide)
  have w16 : ∀ S, opD T5 .Pow (eQ p) (.int 16) S = .ok (eQ (p ^ 16)) S := fun S => fn_pow (S := S) op5 hp 16 (by decide)
  have hi : ∀ S, m__law_is [eQ p, eP p] S = .ok (.bl true) S := fun S => by rw [is_ok]; simp
  have turns : ∀ (Sx : Store) (nr : Nat) (xs : List D), xs = (List.range 17).map (fun k => eQ (p ^ k)) → Sx[nr]? = some (.lst xs) → ∃ e1 e2 e3, forS (gNm 5) lb__law_powers_0 nr xs.length 0 [some (eQ p), some (eP p), some (.ref nr), some (.int 1), some (.int 1), none] Sx = .nx [some (eQ p), some (eP p), some (.ref nr), e1, e2, e3] Sx := by
    intro Sx nr xs hxs hS
    obtain ⟨e, S', h1, h2, x, h3⟩ := forS_inv (body := lb__law_powers_0) (n := nr) (plain_nm 5) (fun k env S' => S' = Sx ∧ ∃ x, env = [some (eQ p), some (eP p), some (.ref nr), some (.int (p.num ^ k)), some (.int ((p.den : Int) ^ k)), x]) xs (fun _ _ _ h => h.1 ▸ hS) (by
      rintro k d env S' hd ⟨rfl, x, rfl⟩
      have hk : k < 17 := by
        have := (List.getElem?_eq_some_iff.mp hd).1
        rw [hxs] at this
        simpa using this
      have hd' : d = eQ (p ^ k) := by
        rw [hxs, List.getElem?_map, List.getElem?_range hk] at hd
        exact (Option.some.inj hd).symm
      subst hd'
      have b1 := lg_pow2 hp.1 k (by omega)
      have b2 := lg_pow2 hp.2 k (by omega)
      have c1 := opi_mul (T := T5) (S := S') (i := p.num ^ k) (j := p.num) (by have := hp.1; omega)
      have c2 := opi_mul (T := T5) (S := S') (i := (p.den : Int) ^ k) (j := (p.den : Int)) (by have := hp.2; omega)
      have e1 : m__law_is [eQ (p ^ k), .tup [.int (p.num ^ k), .int ((p.den : Int) ^ k)]] S' = .ok (.bl true) S' := by
        rw [is_ok']
        have : (p ^ k).num = p.num ^ k ∧ ((p ^ k).den : Int) = (p.den : Int) ^ k := ⟨Rat.num_pow p k, by rw [Rat.den_pow]; simp⟩
        simp only [this, and_self, decide_true]
      refine ⟨[some (eQ p), some (eP p), some (.ref nr), some (.int (p.num ^ (k + 1))), some (.int ((p.den : Int) ^ (k + 1))), some (eQ (p ^ k))], S', ?_, rfl, _, rfl⟩
      rw [Int.pow_succ, Int.pow_succ]
      unfold turnF lb__law_powers_0
      simp only [gc_same, gc_ext_bl, gc_ext_int, gc_ext_str, gc_ext_non, gc_exc_0, gc_x0, ev_seq, ev_asg, ev_asgG, ev_gnm, ev_gtup, ev_gtp0, ev_gtp1, ev_ret, ev_retn, ev_drop, ev_ifs, ev_next, ev_brk, ev_cnt, ev_c, ev_var, ev_bin, ev_un, ev_args0, ev_args1, ev_tup, ev_lst, ev_if, ev_and, ev_or, ev_not, ev_B, ev_tru, ev_asB, ev_notD, ev_tru_b, ev_tru_i, ev_tru_n, ev_tru_t, ev_andV, ev_orV, ev_andb, ev_orb, ev_call, ev_attr, ev_new, ev_seta, ev_meth, ev_bm, ev_aug, ev_sl, ev_pn, ev_ps, ev_asI, ev_for, ev_fori, ev_while, ev_ival, ev_it_t, ev_it_r, ev_def, ev_fnx, ev_frt, ev_fx, ev_int, ev_intb, ev_raise0, ev_isn, ev_isnn, opi_add, opi_sub, cmi_lt, cmi_le, cmi_gt, cmi_ge, cmi_eq, cmi_ne, cmb_eq, cmb_ne, cms_eq, cms_ne, negI, absI, ix_0, ix_1, ix_2, ix_3, len_tup, List.map_cons, List.map_nil, List.length_cons, List.length_nil, List.replicate, List.getElem?_cons_succ, List.getElem?_cons_zero, List.cons_append, List.nil_append, List.set_cons_succ, List.set_cons_zero, Res.bind_ok, Res.bind_exc, onR_ok, onR_exc, decide_true, decide_false, Bool.not_true, Bool.not_false, Bool.false_eq_true, if_true, if_false, Nat.sub_self, List.append_nil, List.append_assoc, Nat.add_one_sub_one, Nat.zero_add, Nat.reduceAdd, Nat.reduceSub, bne_self_eq_false, Int.reduceNeg, e1, ixP0, ixP1, c1, c2])
      xs.length 0 [some (eQ p), some (eP p), some (.ref nr), some (.int 1), some (.int 1), none] Sx (by omega) ⟨rfl, none, by simp⟩
    subst h2 h3
    exact ⟨_, _, _, h1⟩
  unfold m__law_powers b__law_powers
  have hs : ∀ n, n ≤ 1000000 → (n ≤ sizeLine) = True := fun n h => eq_true (szK h)
  have gr : ∀ (U : Store) (xs : List D), (S ++ U ++ [O.lst xs])[(S ++ U).length]? = some (.lst xs) := fun U xs => by simp
  simp only [gc_same, gc_ext_bl, gc_ext_int, gc_ext_str, gc_ext_non, gc_exc_0, gc_x0, ev_seq, ev_asg, ev_asgG, ev_gnm, ev_gtup, ev_gtp0, ev_gtp1, ev_ret, ev_retn, ev_drop, ev_ifs, ev_next, ev_brk, ev_cnt, ev_c, ev_var, ev_bin, ev_un, ev_args0, ev_args1, ev_tup, ev_lst, ev_if, ev_and, ev_or, ev_not, ev_B, ev_tru, ev_asB, ev_notD, ev_tru_b, ev_tru_i, ev_tru_n, ev_tru_t, ev_andV, ev_orV, ev_andb, ev_orb, ev_call, ev_attr, ev_new, ev_seta, ev_meth, ev_bm, ev_aug, ev_sl, ev_pn, ev_ps, ev_asI, ev_for, ev_fori, ev_while, ev_ival, ev_it_t, ev_it_r, ev_def, ev_fnx, ev_frt, ev_fx, ev_int, ev_intb, ev_raise0, ev_isn, ev_isnn, opi_add, opi_sub, cmi_lt, cmi_le, cmi_gt, cmi_ge, cmi_eq, cmi_ne, cmb_eq, cmb_ne, cms_eq, cms_ne, negI, absI, ix_0, ix_1, ix_2, ix_3, len_tup, List.map_cons, List.map_nil, List.length_cons, List.length_nil, List.replicate, List.getElem?_cons_succ, List.getElem?_cons_zero, List.cons_append, List.nil_append, List.set_cons_succ, List.set_cons_zero, Res.bind_ok, Res.bind_exc, onR_ok, onR_exc, decide_true, decide_false, Bool.not_true, Bool.not_false, Bool.false_eq_true, if_true, if_false, Nat.sub_self, List.append_nil, List.append_assoc, Nat.add_one_sub_one, Nat.zero_add, Nat.reduceAdd, Nat.reduceSub, bne_self_eq_false, Int.reduceNeg, w0, w1, w2, w3, w4, w5, w6, w7, w8, w9, w10, w11, w12, w13, w14, w15, w16, opl_add, List.length_append, List.getElem?_append_right, Nat.le_refl, Nat.sub_self, Nat.add_sub_cancel_left, Nat.le_add_right, hs, Nat.reduceLeDiff]
  have hx : ∀ (a b c d e f : O) (xs : List D), (S ++ [a, b, c, d, e, f, .lst xs])[S.length + 6]? = some (.lst xs) := by intros; simp [List.getElem?_append_right]
  rw [it_ref (hx _ _ _ _ _ _ _), onR_ok, forW_ref (hx _ _ _ _ _ _ _)]
  obtain ⟨e1, e2, e3, e⟩ := turns _ _ _ rfl (hx (.lst [eQ (p ^ 0), eQ (p ^ 1), eQ (p ^ 2), eQ (p ^ 3), eQ (p ^ 4)]) (.lst [eQ (p ^ 5), eQ (p ^ 6), eQ (p ^ 7), eQ (p ^ 8)]) (.lst [eQ (p ^ 0), eQ (p ^ 1), eQ (p ^ 2), eQ (p ^ 3), eQ (p ^ 4), eQ (p ^ 5), eQ (p ^ 6), eQ (p ^ 7), eQ (p ^ 8)])
    (.lst [eQ (p ^ 9), eQ (p ^ 10), eQ (p ^ 11), eQ (p ^ 12)]) (.lst [eQ (p ^ 0), eQ (p ^ 1), eQ (p ^ 2), eQ (p ^ 3), eQ (p ^ 4), eQ (p ^ 5), eQ (p ^ 6), eQ (p ^ 7), eQ (p ^ 8), eQ (p ^ 9), eQ (p ^ 10), eQ (p ^ 11), eQ (p ^ 12)]) (.lst [eQ (p ^ 13), eQ (p ^ 14), eQ (p ^ 15), eQ (p ^ 16)]) ((List.range 17).map fun k => eQ (p ^ k)))
  erw [e]
  simp only [gc_same, gc_ext_bl, gc_ext_int, gc_ext_str, gc_ext_non, gc_exc_0, gc_x0, ev_seq, ev_asg, ev_asgG, ev_gnm, ev_gtup, ev_gtp0, ev_gtp1, ev_ret, ev_retn, ev_drop, ev_ifs, ev_next, ev_brk, ev_cnt, ev_c, ev_var, ev_bin, ev_un, ev_args0, ev_args1, ev_tup, ev_lst, ev_if, ev_and, ev_or, ev_not, ev_B, ev_tru, ev_asB, ev_notD, ev_tru_b, ev_tru_i, ev_tru_n, ev_tru_t, ev_andV, ev_orV, ev_andb, ev_orb, ev_call, ev_attr, ev_new, ev_seta, ev_meth, ev_bm, ev_aug, ev_sl, ev_pn, ev_ps, ev_asI, ev_for, ev_fori, ev_while, ev_ival, ev_it_t, ev_it_r, ev_def, ev_fnx, ev_frt, ev_fx, ev_int, ev_intb, ev_raise0, ev_isn, ev_isnn, opi_add, opi_sub, cmi_lt, cmi_le, cmi_gt, cmi_ge, cmi_eq, cmi_ne, cmb_eq, cmb_ne, cms_eq, cms_ne, negI, absI, ix_0, ix_1, ix_2, ix_3, len_tup, List.map_cons, List.map_nil, List.length_cons, List.length_nil, List.replicate, List.getElem?_cons_succ, List.getElem?_cons_zero, List.cons_append, List.nil_append, List.set_cons_succ, List.set_cons_zero, Res.bind_ok, Res.bind_exc, onR_ok, onR_exc, decide_true, decide_false, Bool.not_true, Bool.not_false, Bool.false_eq_true, if_true, if_false, Nat.sub_self, List.append_nil, List.append_assoc, Nat.add_one_sub_one, Nat.zero_add, Nat.reduceAdd, Nat.reduceSub, bne_self_eq_false, Int.reduceNeg, hi]
theorem sgl_m {m : Nat} {g : Fn} (h : T5.meth n_Frac m = some (1, g)) (hN : m < T5.N) (hf : m ∉ [n_num, n_den]) : (mMeth T5 m (mVar 0) []) = fun env S => (mVar 0 env S).bind fun o S1 => if hasM T5 m o S1 = true then dund T5 (clsOf o S1) m [o] S1 else .bad := by
  funext env S
  rfl
theorem hasM_q {m : Nat} {n : Nat} {g : Fn} (h : T5.meth n_Frac m = some (n, g)) (hN : m < T5.N) (hf : [n_num, n_den].contains m = false) : hasM T5 m (eQ p) S = true := by
  have h1 := tab5.kn; have h4 := tab5.fl
  unfold hasM eQ
  simp only [h1, h, h4, hf, hN, decide_true, Option.isSome_some, Bool.and_true, Bool.not_false]
theorem dund1_q {m : Nat} {g : Fn} (h : T5.meth n_Frac m = some (1, g)) : dund T5 (clsOf (eQ p) S) m [eQ p] S = g [eQ p] S := by
  unfold eQ clsOf dund
  simp [h]
theorem neg5 (hp : Sz 4000 p) : negD T5 (eQ p) S = .ok (eQ (-p)) S := by
  have h := op5.toOpT.m19
  have e := neg_q (S := S) hp
  unfold eQ at e ⊢
  simp only [negD, dund, h]
  exact e
theorem abs5 (hp : Sz 4000 p) : absD T5 [eQ p] S = .ok (eQ p.abs) S := by
  have h := op5.toOpT.m20
  have e := abs_q (S := S) hp
  unfold eQ at e ⊢
  simp only [absD, dund, h]
  exact e
theorem bool5 (hp : Sz 4000 p) : boolD T5 [eQ p] S = .ok (.bl (!decide (p = 0))) S := by
  have h := op5.toOpT.m21
  have e := bool_q (S := S) hp
  unfold eQ at e ⊢
  simp only [boolD, dund, h, List.length_cons, List.length_nil, if_true]
  rw [e]
  rfl
theorem whole5 (hp : Sz 4000 p) : attrD T5 n_is_whole (eQ p) S = .ok (.bl (decide (p.den = 1))) S := by
  have h := op5.toOpT.pwh
  have hn : T5.no n_Frac n_is_whole = false := by kernel_rfl
  have e := is_whole_q (S := S) hp
  unfold eQ at e ⊢
  simp only [attrD, hn, h]
  simp
  rw [e]
theorem eq_non : cmpD T5 .Eq (eQ p) .non S = .ok (.bl false) S := by
  have h := op5.ni
  unfold eQ
  simp [cmpD, h]
theorem ne_non : cmpD T5 .NotEq (eQ p) .non S = .ok (.bl true) S := by
  have h := op5.ni; have h2 := op5.one
  unfold eQ
  simp [cmpD, h, h2]
theorem eq_str {x : PySem.Str} : cmpD T5 .Eq (eQ p) (.str x) S = .ok (.bl false) S := by
  have h := op5.ni
  unfold eQ
  simp [cmpD, h]
theorem ne_str {x : PySem.Str} : cmpD T5 .NotEq (eQ p) (.str x) S = .ok (.bl true) S := by
  have h := op5.ni; have h2 := op5.one
  unfold eQ
  simp [cmpD, h, h2]
theorem single_ok (hp : Sz 300 p) : m__law_single [eQ p, eP p] S = .ok (.bl true) S := by
  have hp4 : Sz 4000 p := hp.mono (by decide)
  have a1 := lgn hp; have a2 := lgd hp
  have f1 := fun S => opi_fdiv (T := T5) (S := S) (i := p.num) (j := p.den) (den_ne p) (by omega)
  have f2 := fun S => opi_fdiv (T := T5) (S := S) (i := -p.num) (j := p.den) (den_ne p) (by omega)
  rw [q_floor] at f1
  have h1 : ∀ S, hasM T5 n_floor (eQ p) S = true := fun S => hasM_q op5.toOpT.mfl op5.toOpT.nfl (by decide)
  have h2 : ∀ S, hasM T5 n_ceiling (eQ p) S = true := fun S => hasM_q op5.toOpT.mce op5.toOpT.nce (by decide)
  have g1 : ∀ S, dund T5 (clsOf (eQ p) S) n_floor [eQ p] S = .ok (.int p.floor) S := fun S => (dund1_q op5.toOpT.mfl).trans (floor_q hp4)
  have g2 : ∀ S, dund T5 (clsOf (eQ p) S) n_ceiling [eQ p] S = .ok (.int p.ceil) S := fun S => (dund1_q op5.toOpT.mce).trans (ceiling_q hp4)
  have n1 := fun S => neg5 (S := S) hp4
  have b1 := fun S => abs5 (S := S) hp4
  have b2 := fun S => bool5 (S := S) hp4
  have b3 := fun S => whole5 (S := S) hp4
  have i1 : ∀ S, m__law_is [eQ (-p), .tup [.int (-p.num), .int p.den]] S = .ok (.bl true) S := fun S => by rw [is_ok']; simp
  have i2 : ∀ S, m__law_is [eQ p.abs, .tup [.int (if p.num < 0 then -p.num else p.num), .int p.den]] S = .ok (.bl true) S := fun S => by
    rw [is_ok']
    have := q_absnum p
    simp only [this.1, this.2, and_self, decide_true]
  have cz : -((-p.num).fdiv p.den) = p.ceil := F.ceil_q p
  have e1 : decide ((p.den : Int) = 1) = decide (p.den = 1) := decide_eq_decide.mpr (by omega)
  have e2 : decide (p.num = 0) = decide (p = 0) := decide_eq_decide.mpr Rat.num_eq_zero
  have s1 := fun S => str_i (T := T5) (S := S) (i := p.num) (by omega)
  have s2 := fun S => str_i (T := T5) (S := S) (i := p.den) (by omega)
  have l1 : (PySem.Str.ofString (toString p.num)).length ≤ 1921 := int_text_len_1921 (by show lg p.num < 1920; omega)
  have l2 : (PySem.Str.ofString (toString (p.den : Int))).length ≤ 1921 := int_text_len_1921 (by show lg (p.den : Int) < 1920; omega)
  have l3 : (PySem.Str.ofString "/").length = 1 := by decide +kernel
  have c1 := fun S => ops_add (T := T5) (S := S) (x := PySem.Str.ofString (toString p.num)) (y := PySem.Str.ofString "/") (szK (by omega))
  have c2 := fun S => ops_add (T := T5) (S := S) (x := PySem.Str.ofString (toString p.num) ++ PySem.Str.ofString "/") (y := PySem.Str.ofString (toString (p.den : Int))) (szK (by rw [PySem.Str.length_append]; omega))
  have hx : ∀ (xs : List D), (S ++ [O.lst xs])[S.length]? = some (.lst xs) := by intros; simp
  unfold m__law_single b__law_single
  simp only [gc_same, gc_ext_bl, gc_ext_int, gc_ext_str, gc_ext_non, gc_exc_0, gc_x0, ev_seq, ev_asg, ev_asgG, ev_gnm, ev_gtup, ev_gtp0, ev_gtp1, ev_ret, ev_retn, ev_drop, ev_ifs, ev_next, ev_brk, ev_cnt, ev_c, ev_var, ev_bin, ev_un, ev_args0, ev_args1, ev_tup, ev_lst, ev_if, ev_and, ev_or, ev_not, ev_B, ev_tru, ev_asB, ev_notD, ev_tru_b, ev_tru_i, ev_tru_n, ev_tru_t, ev_andV, ev_orV, ev_andb, ev_orb, ev_call, ev_attr, ev_new, ev_seta, ev_meth, ev_bm, ev_aug, ev_sl, ev_pn, ev_ps, ev_asI, ev_for, ev_fori, ev_while, ev_ival, ev_it_t, ev_it_r, ev_def, ev_fnx, ev_frt, ev_fx, ev_int, ev_intb, ev_raise0, ev_isn, ev_isnn, opi_add, opi_sub, cmi_lt, cmi_le, cmi_gt, cmi_ge, cmi_eq, cmi_ne, cmb_eq, cmb_ne, cms_eq, cms_ne, negI, absI, ix_0, ix_1, ix_2, ix_3, len_tup, List.map_cons, List.map_nil, List.length_cons, List.length_nil, List.replicate, List.getElem?_cons_succ, List.getElem?_cons_zero, List.cons_append, List.nil_append, List.set_cons_succ, List.set_cons_zero, Res.bind_ok, Res.bind_exc, onR_ok, onR_exc, decide_true, decide_false, Bool.not_true, Bool.not_false, Bool.false_eq_true, if_true, if_false, Nat.sub_self, List.append_nil, List.append_assoc, Nat.add_one_sub_one, Nat.zero_add, Nat.reduceAdd, Nat.reduceSub, bne_self_eq_false, Int.reduceNeg, n1, ixP0, ixP1, i1, b1, i2, h1, g1, f1, integer_ok, h2, g2, f2, cz, b3, truth_ok, e1, b2, e2, s1, s2, c1, c2]
  rw [it_ref (hx _), onR_ok, forW_ref (hx _)]
  have turns : ∀ (Sx : Store) (nr : Nat) (xs : List D), (∀ d ∈ xs, d = .non ∨ ∃ z, d = .str z) → Sx[nr]? = some (.lst xs) → ∃ e1, forS (gNm 2) lb__law_single_0 nr xs.length 0 [some (eQ p), some (eP p), none] Sx = .nx [some (eQ p), some (eP p), e1] Sx := by
    intro Sx nr xs hxs hS
    obtain ⟨e, S', h1, h2, x, h3⟩ := forS_inv (body := lb__law_single_0) (n := nr) (plain_nm 2) (fun k env S' => S' = Sx ∧ ∃ x, env = [some (eQ p), some (eP p), x]) xs (fun _ _ _ h => h.1 ▸ hS) (by
      rintro k d env S' hd ⟨rfl, x, rfl⟩
      refine ⟨[some (eQ p), some (eP p), some d], S', ?_, rfl, _, rfl⟩
      unfold turnF lb__law_single_0
      rcases hxs d (List.mem_of_getElem? hd) with rfl | ⟨z, rfl⟩
      · simp only [gc_same, gc_ext_bl, gc_ext_int, gc_ext_str, gc_ext_non, gc_exc_0, gc_x0, ev_seq, ev_asg, ev_asgG, ev_gnm, ev_gtup, ev_gtp0, ev_gtp1, ev_ret, ev_retn, ev_drop, ev_ifs, ev_next, ev_brk, ev_cnt, ev_c, ev_var, ev_bin, ev_un, ev_args0, ev_args1, ev_tup, ev_lst, ev_if, ev_and, ev_or, ev_not, ev_B, ev_tru, ev_asB, ev_notD, ev_tru_b, ev_tru_i, ev_tru_n, ev_tru_t, ev_andV, ev_orV, ev_andb, ev_orb, ev_call, ev_attr, ev_new, ev_seta, ev_meth, ev_bm, ev_aug, ev_sl, ev_pn, ev_ps, ev_asI, ev_for, ev_fori, ev_while, ev_ival, ev_it_t, ev_it_r, ev_def, ev_fnx, ev_frt, ev_fx, ev_int, ev_intb, ev_raise0, ev_isn, ev_isnn, opi_add, opi_sub, cmi_lt, cmi_le, cmi_gt, cmi_ge, cmi_eq, cmi_ne, cmb_eq, cmb_ne, cms_eq, cms_ne, negI, absI, ix_0, ix_1, ix_2, ix_3, len_tup, List.map_cons, List.map_nil, List.length_cons, List.length_nil, List.replicate, List.getElem?_cons_succ, List.getElem?_cons_zero, List.cons_append, List.nil_append, List.set_cons_succ, List.set_cons_zero, Res.bind_ok, Res.bind_exc, onR_ok, onR_exc, decide_true, decide_false, Bool.not_true, Bool.not_false, Bool.false_eq_true, if_true, if_false, Nat.sub_self, List.append_nil, List.append_assoc, Nat.add_one_sub_one, Nat.zero_add, Nat.reduceAdd, Nat.reduceSub, bne_self_eq_false, Int.reduceNeg, eq_non, ne_non, truth_ok]
      · simp only [gc_same, gc_ext_bl, gc_ext_int, gc_ext_str, gc_ext_non, gc_exc_0, gc_x0, ev_seq, ev_asg, ev_asgG, ev_gnm, ev_gtup, ev_gtp0, ev_gtp1, ev_ret, ev_retn, ev_drop, ev_ifs, ev_next, ev_brk, ev_cnt, ev_c, ev_var, ev_bin, ev_un, ev_args0, ev_args1, ev_tup, ev_lst, ev_if, ev_and, ev_or, ev_not, ev_B, ev_tru, ev_asB, ev_notD, ev_tru_b, ev_tru_i, ev_tru_n, ev_tru_t, ev_andV, ev_orV, ev_andb, ev_orb, ev_call, ev_attr, ev_new, ev_seta, ev_meth, ev_bm, ev_aug, ev_sl, ev_pn, ev_ps, ev_asI, ev_for, ev_fori, ev_while, ev_ival, ev_it_t, ev_it_r, ev_def, ev_fnx, ev_frt, ev_fx, ev_int, ev_intb, ev_raise0, ev_isn, ev_isnn, opi_add, opi_sub, cmi_lt, cmi_le, cmi_gt, cmi_ge, cmi_eq, cmi_ne, cmb_eq, cmb_ne, cms_eq, cms_ne, negI, absI, ix_0, ix_1, ix_2, ix_3, len_tup, List.map_cons, List.map_nil, List.length_cons, List.length_nil, List.replicate, List.getElem?_cons_succ, List.getElem?_cons_zero, List.cons_append, List.nil_append, List.set_cons_succ, List.set_cons_zero, Res.bind_ok, Res.bind_exc, onR_ok, onR_exc, decide_true, decide_false, Bool.not_true, Bool.not_false, Bool.false_eq_true, if_true, if_false, Nat.sub_self, List.append_nil, List.append_assoc, Nat.add_one_sub_one, Nat.zero_add, Nat.reduceAdd, Nat.reduceSub, bne_self_eq_false, Int.reduceNeg, eq_str, ne_str, truth_ok])
      xs.length 0 [some (eQ p), some (eP p), none] Sx (by omega) ⟨rfl, none, rfl⟩
    subst h2 h3
    exact ⟨_, h1⟩
  obtain ⟨e1, e⟩ := turns _ _ [.non, .str (PySem.Str.ofString ""), .str (PySem.Str.ofString (toString p.num)), .str (PySem.Str.ofString (toString p.num) ++ PySem.Str.ofString "/" ++ PySem.Str.ofString (toString (p.den : Int)))] (by
    intro d hd
    simp only [List.mem_cons, List.not_mem_nil, or_false] at hd
    rcases hd with rfl | rfl | rfl | rfl
    · exact .inl rfl
    · exact .inr ⟨_, rfl⟩
    · exact .inr ⟨_, rfl⟩
    · exact .inr ⟨_, rfl⟩) (hx _)
  rw [e]
  simp only [gc_same, gc_ext_bl, gc_ext_int, gc_ext_str, gc_ext_non, gc_exc_0, gc_x0, ev_seq, ev_asg, ev_asgG, ev_gnm, ev_gtup, ev_gtp0, ev_gtp1, ev_ret, ev_retn, ev_drop, ev_ifs, ev_next, ev_brk, ev_cnt, ev_c, ev_var, ev_bin, ev_un, ev_args0, ev_args1, ev_tup, ev_lst, ev_if, ev_and, ev_or, ev_not, ev_B, ev_tru, ev_asB, ev_notD, ev_tru_b, ev_tru_i, ev_tru_n, ev_tru_t, ev_andV, ev_orV, ev_andb, ev_orb, ev_call, ev_attr, ev_new, ev_seta, ev_meth, ev_bm, ev_aug, ev_sl, ev_pn, ev_ps, ev_asI, ev_for, ev_fori, ev_while, ev_ival, ev_it_t, ev_it_r, ev_def, ev_fnx, ev_frt, ev_fx, ev_int, ev_intb, ev_raise0, ev_isn, ev_isnn, opi_add, opi_sub, cmi_lt, cmi_le, cmi_gt, cmi_ge, cmi_eq, cmi_ne, cmb_eq, cmb_ne, cms_eq, cms_ne, negI, absI, ix_0, ix_1, ix_2, ix_3, len_tup, List.map_cons, List.map_nil, List.length_cons, List.length_nil, List.replicate, List.getElem?_cons_succ, List.getElem?_cons_zero, List.cons_append, List.nil_append, List.set_cons_succ, List.set_cons_zero, Res.bind_ok, Res.bind_exc, onR_ok, onR_exc, decide_true, decide_false, Bool.not_true, Bool.not_false, Bool.false_eq_true, if_true, if_false, Nat.sub_self, List.append_nil, List.append_assoc, Nat.add_one_sub_one, Nat.zero_add, Nat.reduceAdd, Nat.reduceSub, bne_self_eq_false, Int.reduceNeg]
theorem ip5 {op : Operator} {x : D} (h : dop op ≠ 39) : ipD T5 op (eQ p) x S = opD T5 op (eQ p) x S := by
  have h1 := op5.inp; have h2 := op5.kn
  unfold eQ ipD
  simp [h, h1, h2]
theorem in_place_ok (hp : Sz 300 p) (hq : Sz 300 q) : m__law_in_place [eQ p, eQ q, eP p, eP q] S = .ok (.bl true) S := by
  have hp4 : Sz 4000 p := hp.mono (by decide)
  have hq4 : Sz 4000 q := hq.mono (by decide)
  have o1 := fn_add (S := S) op5.toOpT (.qq p q) hp4 hq4
  have o2 := fn_sub (S := S) op5.toOpT (.qq p q) hp4 hq4
  have o3 := fn_mul (S := S) op5.toOpT (.qq p q) hp4 hq4
  have l1 := ladd_ok (S := S) hp4 hq4
  have l2 := ladd_ok (S := S) hp4 hq4.neg
  have l3 := lmul_ok (S := S) hp4 hq4
  have e2 : p + -q = p - q := (Rat.sub_eq_add_neg p q).symm
  rw [e2] at l2
  have p1 := ip5 (S := S) (p := p) (x := eQ q) (op := .Add) (by decide)
  have p2 := ip5 (S := S) (p := p) (x := eQ q) (op := .Sub) (by decide)
  have p3 := ip5 (S := S) (p := p) (x := eQ q) (op := .Mult) (by decide)
  have p4 := ip5 (S := S) (p := p) (x := eQ q) (op := .FloorDiv) (by decide)
  rw [show F.fQ p = eQ p from rfl, show F.fQ q = eQ q from rfl] at o1 o2 o3
  by_cases hz : q = 0
  · have hb : decide (q.num = 0) = true := by rw [hz]; rfl
    unfold m__law_in_place b__law_in_place
    simp only [gc_same, gc_ext_bl, gc_ext_int, gc_ext_str, gc_ext_non, gc_exc_0, gc_x0, ev_seq, ev_asg, ev_asgG, ev_gnm, ev_gtup, ev_gtp0, ev_gtp1, ev_ret, ev_retn, ev_drop, ev_ifs, ev_next, ev_brk, ev_cnt, ev_c, ev_var, ev_bin, ev_un, ev_args0, ev_args1, ev_tup, ev_lst, ev_if, ev_and, ev_or, ev_not, ev_B, ev_tru, ev_asB, ev_notD, ev_tru_b, ev_tru_i, ev_tru_n, ev_tru_t, ev_andV, ev_orV, ev_andb, ev_orb, ev_call, ev_attr, ev_new, ev_seta, ev_meth, ev_bm, ev_aug, ev_sl, ev_pn, ev_ps, ev_asI, ev_for, ev_fori, ev_while, ev_ival, ev_it_t, ev_it_r, ev_def, ev_fnx, ev_frt, ev_fx, ev_int, ev_intb, ev_raise0, ev_isn, ev_isnn, opi_add, opi_sub, cmi_lt, cmi_le, cmi_gt, cmi_ge, cmi_eq, cmi_ne, cmb_eq, cmb_ne, cms_eq, cms_ne, negI, absI, ix_0, ix_1, ix_2, ix_3, len_tup, List.map_cons, List.map_nil, List.length_cons, List.length_nil, List.replicate, List.getElem?_cons_succ, List.getElem?_cons_zero, List.cons_append, List.nil_append, List.set_cons_succ, List.set_cons_zero, Res.bind_ok, Res.bind_exc, onR_ok, onR_exc, decide_true, decide_false, Bool.not_true, Bool.not_false, Bool.false_eq_true, if_true, if_false, Nat.sub_self, List.append_nil, List.append_assoc, Nat.add_one_sub_one, Nat.zero_add, Nat.reduceAdd, Nat.reduceSub, bne_self_eq_false, Int.reduceNeg, p1, p2, p3, o1, o2, o3, l1, l2, l3, is_ok, ixP0, ixP1, eP_neg, hb]
  · have hb : decide (q.num = 0) = false := by simp [F.numz hz]
    have f1 := lfloor_ok (S := S) hp4 hq4 hz
    have f2 := F.fn_floordiv (S := S) op5 (.qq p q) hp4 hq4 hz
    rw [show F.fQ p = eQ p from rfl, show F.fQ q = eQ q from rfl] at f2
    unfold m__law_in_place b__law_in_place
    simp only [gc_same, gc_ext_bl, gc_ext_int, gc_ext_str, gc_ext_non, gc_exc_0, gc_x0, ev_seq, ev_asg, ev_asgG, ev_gnm, ev_gtup, ev_gtp0, ev_gtp1, ev_ret, ev_retn, ev_drop, ev_ifs, ev_next, ev_brk, ev_cnt, ev_c, ev_var, ev_bin, ev_un, ev_args0, ev_args1, ev_tup, ev_lst, ev_if, ev_and, ev_or, ev_not, ev_B, ev_tru, ev_asB, ev_notD, ev_tru_b, ev_tru_i, ev_tru_n, ev_tru_t, ev_andV, ev_orV, ev_andb, ev_orb, ev_call, ev_attr, ev_new, ev_seta, ev_meth, ev_bm, ev_aug, ev_sl, ev_pn, ev_ps, ev_asI, ev_for, ev_fori, ev_while, ev_ival, ev_it_t, ev_it_r, ev_def, ev_fnx, ev_frt, ev_fx, ev_int, ev_intb, ev_raise0, ev_isn, ev_isnn, opi_add, opi_sub, cmi_lt, cmi_le, cmi_gt, cmi_ge, cmi_eq, cmi_ne, cmb_eq, cmb_ne, cms_eq, cms_ne, negI, absI, ix_0, ix_1, ix_2, ix_3, len_tup, List.map_cons, List.map_nil, List.length_cons, List.length_nil, List.replicate, List.getElem?_cons_succ, List.getElem?_cons_zero, List.cons_append, List.nil_append, List.set_cons_succ, List.set_cons_zero, Res.bind_ok, Res.bind_exc, onR_ok, onR_exc, decide_true, decide_false, Bool.not_true, Bool.not_false, Bool.false_eq_true, if_true, if_false, Nat.sub_self, List.append_nil, List.append_assoc, Nat.add_one_sub_one, Nat.zero_add, Nat.reduceAdd, Nat.reduceSub, bne_self_eq_false, Int.reduceNeg, p1, p2, p3, p4, o1, o2, o3, l1, l2, l3, is_ok, ixP0, ixP1, eP_neg, hb, f1, f2, integer_ok]
theorem idx6 (c : Int) (S : Store) : ∃ f : Int, f ≠ 0 ∧ lg f ≤ 2 ∧ ixD (.ref S.length) (.int (c.fmod 6)) (S ++ [.lst [.int 1, .int 2, .int 3, .int (-1), .int (-2), .int (-3)]]) = .ok (.int f) (S ++ [.lst [.int 1, .int 2, .int 3, .int (-1), .int (-2), .int (-3)]]) := by
  have z1 := Int.fmod_nonneg_of_pos c (b := 6) (by decide)
  have z2 := Int.fmod_lt_of_pos c (b := 6) (by decide)
  generalize c.fmod 6 = k at *
  rcases (by omega : k = 0 ∨ k = 1 ∨ k = 2 ∨ k = 3 ∨ k = 4 ∨ k = 5) with rfl | rfl | rfl | rfl | rfl | rfl
  · exact ⟨1, by decide, by decide, by simp [ixr, L2.atI, L2.ixN]⟩
  · exact ⟨2, by decide, by decide, by simp [ixr, L2.atI, L2.ixN]⟩
  · exact ⟨3, by decide, by decide, by simp [ixr, L2.atI, L2.ixN]⟩
  · exact ⟨-1, by decide, by decide, by simp [ixr, L2.atI, L2.ixN]⟩
  · exact ⟨-2, by decide, by decide, by simp [ixr, L2.atI, L2.ixN]⟩
  · exact ⟨-3, by decide, by decide, by simp [ixr, L2.atI, L2.ixN]⟩
theorem idx2 (c : Int) (S : Store) : ∃ f : Int, f ≠ 0 ∧ lg f ≤ 2 ∧ ixD (.ref S.length) (.int (c.fmod 2)) (S ++ [.lst [.int 1, .int (-1)]]) = .ok (.int f) (S ++ [.lst [.int 1, .int (-1)]]) := by
  have z1 := Int.fmod_nonneg_of_pos c (b := 2) (by decide)
  have z2 := Int.fmod_lt_of_pos c (b := 2) (by decide)
  generalize c.fmod 2 = k at *
  rcases (by omega : k = 0 ∨ k = 1) with rfl | rfl
  · exact ⟨1, by decide, by decide, by simp [ixr, L2.atI, L2.ixN]⟩
  · exact ⟨-1, by decide, by decide, by simp [ixr, L2.atI, L2.ixN]⟩
theorem made_ok (hp : Sz 300 p) {c : Int} : m__law_made [eP p, .int c] S = .ok (eQ p) S := by
  have a1 := lgn hp; have a2 := lgd hp
  have d1 := fun S => opi_mod (T := T5) (S := S) (i := c) (j := 6) (by decide)
  have d2 := fun S => opi_mod (T := T5) (S := S) (i := c) (j := 2) (by decide)
  have fin : ∀ (f : Int), f ≠ 0 → lg f ≤ 2 → (∀ S, opD T5 .Mult (.int p.num) (.int f) S = .ok (.int (p.num * f)) S) ∧ (∀ S, opD T5 .Mult (.int p.den) (.int f) S = .ok (.int (p.den * f)) S) ∧ ∀ S, newD T5 n_Frac [.int (p.num * f), .int (p.den * f)] S = .ok (eQ p) S := by
    intro f hf hl
    refine ⟨fun S => opi_mul (by omega), fun S => opi_mul (by omega), fun S => ?_⟩
    have h0 := Int.mul_ne_zero (den_ne p) hf
    rw [new_qq tab5.mkr tab5.fl h0 (by have := lg_mul a2 hl; omega), Rat.divInt_mul_right hf, Rat.num_divInt_den]
  obtain ⟨f, f1, f2, ef⟩ := idx6 c S
  obtain ⟨g, g1, g2, eg⟩ := idx2 c (S ++ [.lst [.int 1, .int 2, .int 3, .int (-1), .int (-2), .int (-3)]])
  obtain ⟨x1, x2, x3⟩ := fin f f1 f2
  obtain ⟨y1, y2, y3⟩ := fin g g1 g2
  rw [List.append_assoc, List.cons_append, List.nil_append] at eg
  unfold m__law_made b__law_made
  simp only [gc_same, gc_ext_bl, gc_ext_int, gc_ext_str, gc_ext_non, gc_exc_0, gc_x0, ev_seq, ev_asg, ev_asgG, ev_gnm, ev_gtup, ev_gtp0, ev_gtp1, ev_ret, ev_retn, ev_drop, ev_ifs, ev_next, ev_brk, ev_cnt, ev_c, ev_var, ev_bin, ev_un, ev_args0, ev_args1, ev_tup, ev_lst, ev_if, ev_and, ev_or, ev_not, ev_B, ev_tru, ev_asB, ev_notD, ev_tru_b, ev_tru_i, ev_tru_n, ev_tru_t, ev_andV, ev_orV, ev_andb, ev_orb, ev_call, ev_attr, ev_new, ev_seta, ev_meth, ev_bm, ev_aug, ev_sl, ev_pn, ev_ps, ev_asI, ev_for, ev_fori, ev_while, ev_ival, ev_it_t, ev_it_r, ev_def, ev_fnx, ev_frt, ev_fx, ev_int, ev_intb, ev_raise0, ev_isn, ev_isnn, opi_add, opi_sub, cmi_lt, cmi_le, cmi_gt, cmi_ge, cmi_eq, cmi_ne, cmb_eq, cmb_ne, cms_eq, cms_ne, negI, absI, ix_0, ix_1, ix_2, ix_3, len_tup, List.map_cons, List.map_nil, List.length_cons, List.length_nil, List.replicate, List.getElem?_cons_succ, List.getElem?_cons_zero, List.cons_append, List.nil_append, List.set_cons_succ, List.set_cons_zero, Res.bind_ok, Res.bind_exc, onR_ok, onR_exc, decide_true, decide_false, Bool.not_true, Bool.not_false, Bool.false_eq_true, if_true, if_false, Nat.sub_self, List.append_nil, List.append_assoc, Nat.add_one_sub_one, Nat.zero_add, Nat.reduceAdd, Nat.reduceSub, bne_self_eq_false, Int.reduceNeg, d1, ef, ixP0, ixP1, p11]
  generalize decide (100000000000 < if p.num < 0 then -p.num else p.num) = bA
  generalize decide (100000000000 < (p.den : Int)) = bB
  cases bA <;> cases bB <;> simp only [gc_same, gc_ext_bl, gc_ext_int, gc_ext_str, gc_ext_non, gc_exc_0, gc_x0, ev_seq, ev_asg, ev_asgG, ev_gnm, ev_gtup, ev_gtp0, ev_gtp1, ev_ret, ev_retn, ev_drop, ev_ifs, ev_next, ev_brk, ev_cnt, ev_c, ev_var, ev_bin, ev_un, ev_args0, ev_args1, ev_tup, ev_lst, ev_if, ev_and, ev_or, ev_not, ev_B, ev_tru, ev_asB, ev_notD, ev_tru_b, ev_tru_i, ev_tru_n, ev_tru_t, ev_andV, ev_orV, ev_andb, ev_orb, ev_call, ev_attr, ev_new, ev_seta, ev_meth, ev_bm, ev_aug, ev_sl, ev_pn, ev_ps, ev_asI, ev_for, ev_fori, ev_while, ev_ival, ev_it_t, ev_it_r, ev_def, ev_fnx, ev_frt, ev_fx, ev_int, ev_intb, ev_raise0, ev_isn, ev_isnn, opi_add, opi_sub, cmi_lt, cmi_le, cmi_gt, cmi_ge, cmi_eq, cmi_ne, cmb_eq, cmb_ne, cms_eq, cms_ne, negI, absI, ix_0, ix_1, ix_2, ix_3, len_tup, List.map_cons, List.map_nil, List.length_cons, List.length_nil, List.replicate, List.getElem?_cons_succ, List.getElem?_cons_zero, List.cons_append, List.nil_append, List.set_cons_succ, List.set_cons_zero, Res.bind_ok, Res.bind_exc, onR_ok, onR_exc, decide_true, decide_false, Bool.not_true, Bool.not_false, Bool.false_eq_true, if_true, if_false, Nat.sub_self, List.append_nil, List.append_assoc, Nat.add_one_sub_one, Nat.zero_add, Nat.reduceAdd, Nat.reduceSub, bne_self_eq_false, Int.reduceNeg, d2, eg, ixP0, ixP1, x1, x2, x3, y1, y2, y3, fdrop]
theorem made_plain_ok (hp : Sz 300 p) : m__law_made_plain [eP p] S = .ok (.bl true) S := by
  have a1 := lgn hp; have a2 := lgd hp
  have n0 : newD T5 n_Frac [] S = .ok (eQ 0) S := new_none tab5.mkr tab5.fl
  have n1 := new_q1 (S := S) tab5.mkr tab5.fl (n := p.num)
  have n2 := new_qq (S := S) (n := 0) tab5.mkr tab5.fl (d := -(p.den : Int)) (by have := den_ne p; omega) (by rw [lg_neg]; omega)
  rw [Rat.zero_divInt] at n2
  have i0 : m__law_is [eQ 0, .tup [.int 0, .int 1]] S = .ok (.bl true) S := by rw [is_ok']; simp
  have i1 : m__law_is [eQ (p.num : Rat), .tup [.int p.num, .int 1]] S = .ok (.bl true) S := by rw [is_ok']; simp
  unfold m__law_made_plain b__law_made_plain
  simp only [gc_same, gc_ext_bl, gc_ext_int, gc_ext_str, gc_ext_non, gc_exc_0, gc_x0, ev_seq, ev_asg, ev_asgG, ev_gnm, ev_gtup, ev_gtp0, ev_gtp1, ev_ret, ev_retn, ev_drop, ev_ifs, ev_next, ev_brk, ev_cnt, ev_c, ev_var, ev_bin, ev_un, ev_args0, ev_args1, ev_tup, ev_lst, ev_if, ev_and, ev_or, ev_not, ev_B, ev_tru, ev_asB, ev_notD, ev_tru_b, ev_tru_i, ev_tru_n, ev_tru_t, ev_andV, ev_orV, ev_andb, ev_orb, ev_call, ev_attr, ev_new, ev_seta, ev_meth, ev_bm, ev_aug, ev_sl, ev_pn, ev_ps, ev_asI, ev_for, ev_fori, ev_while, ev_ival, ev_it_t, ev_it_r, ev_def, ev_fnx, ev_frt, ev_fx, ev_int, ev_intb, ev_raise0, ev_isn, ev_isnn, opi_add, opi_sub, cmi_lt, cmi_le, cmi_gt, cmi_ge, cmi_eq, cmi_ne, cmb_eq, cmb_ne, cms_eq, cms_ne, negI, absI, ix_0, ix_1, ix_2, ix_3, len_tup, List.map_cons, List.map_nil, List.length_cons, List.length_nil, List.replicate, List.getElem?_cons_succ, List.getElem?_cons_zero, List.cons_append, List.nil_append, List.set_cons_succ, List.set_cons_zero, Res.bind_ok, Res.bind_exc, onR_ok, onR_exc, decide_true, decide_false, Bool.not_true, Bool.not_false, Bool.false_eq_true, if_true, if_false, Nat.sub_self, List.append_nil, List.append_assoc, Nat.add_one_sub_one, Nat.zero_add, Nat.reduceAdd, Nat.reduceSub, bne_self_eq_false, Int.reduceNeg, n0, n1, n2, i0, i1, ixP0, ixP1, refused3]
end
end Lw


set_option Elab.async false
set_option linter.all false
set_option maxRecDepth 100000
set_option maxHeartbeats 1000000
/-! QN: the law. -/
namespace Lw
open PySem L2 PyProof.Rows He Bp
theorem seq_nx {a b : MS} {env e1 : Bp.Env} {S S1 : Store} (h : a env S = .nx e1 S1) : mSeq a b env S = b e1 S1 := by
  rw [ev_seq, h]
section
variable {S : Store} {p q : Rat} {ns : List Int}
theorem szP (p0 : Rat) (n d : Int) (hn : lg n ≤ 133) (hd : lg d ≤ 133) : Sz 133 (Rat.divInt n d) := Sz.divInt hn hd
theorem Sz.inv {k : Nat} {p : Rat} (h : Sz k p) : Sz k (Rat.divInt p.den p.num) := Sz.divInt h.2 h.1
noncomputable abbrev relB : MS := mIfS (mB (mBin (cmpD T5 .Eq) (mVar 3) (mC (.int 0)))) (mAsg 2 (mVar 1)) (mIfS (mB (mBin (cmpD T5 .Eq) (mVar 3) (mC (.int 1)))) (mAsg 2 (mTup [mUn (negD T5) (mBin ixD (mVar 1) (mC (.int 0))), mBin ixD (mVar 1) (mC (.int 1))])) (mIfS (mB (mBin (cmpD T5 .Eq) (mVar 3) (mC (.int 2)))) (mAsg 2 (mTup [mC (.int 0), mC (.int 1)])) (mIfS (mB (mBin (cmpD T5 .Eq) (mVar 3) (mC (.int 3)))) (mAsg 1 (mTup [mC (.int 0), mC (.int 1)])) (mIfS (mAnd (mB (mBin (cmpD T5 .Eq) (mVar 3) (mC (.int 4)))) (mB (mBin (cmpD T5 .NotEq) (mBin ixD (mVar 1) (mC (.int 0))) (mC (.int 0))))) (mAsg 2 (mCall m__law_low [mBin ixD (mVar 1) (mC (.int 1)), mBin ixD (mVar 1) (mC (.int 0))])) (mNext)))))
theorem rel_ok (hp : Sz 133 p) (hq : Sz 133 q) (c : Int) (x : Option D) (y : List (Option D)) : ∃ p' q', Sz 133 p' ∧ Sz 133 q' ∧ relB (x :: some (eP p) :: some (eP q) :: some (.int c) :: y) S = .nx (x :: some (eP p') :: some (eP q') :: some (.int c) :: y) S := by
  have z0 : eP (0 : Rat) = .tup [.int 0, .int 1] := rfl
  by_cases h0 : c = 0
  · refine ⟨p, p, hp, hp, ?_⟩
    unfold relB
    simp only [gc_same, gc_ext_bl, gc_ext_int, gc_ext_str, gc_ext_non, gc_exc_0, gc_x0, ev_seq, ev_asg, ev_asgG, ev_gnm, ev_gtup, ev_gtp0, ev_gtp1, ev_ret, ev_retn, ev_drop, ev_ifs, ev_next, ev_brk, ev_cnt, ev_c, ev_var, ev_bin, ev_un, ev_args0, ev_args1, ev_tup, ev_lst, ev_if, ev_and, ev_or, ev_not, ev_B, ev_tru, ev_asB, ev_notD, ev_tru_b, ev_tru_i, ev_tru_n, ev_tru_t, ev_andV, ev_orV, ev_andb, ev_orb, ev_call, ev_attr, ev_new, ev_seta, ev_meth, ev_bm, ev_aug, ev_sl, ev_pn, ev_ps, ev_asI, ev_for, ev_fori, ev_while, ev_ival, ev_it_t, ev_it_r, ev_def, ev_fnx, ev_frt, ev_fx, ev_int, ev_intb, ev_raise0, ev_isn, ev_isnn, opi_add, opi_sub, cmi_lt, cmi_le, cmi_gt, cmi_ge, cmi_eq, cmi_ne, cmb_eq, cmb_ne, cms_eq, cms_ne, negI, absI, ix_0, ix_1, ix_2, ix_3, len_tup, List.map_cons, List.map_nil, List.length_cons, List.length_nil, List.replicate, List.getElem?_cons_succ, List.getElem?_cons_zero, List.cons_append, List.nil_append, List.set_cons_succ, List.set_cons_zero, Res.bind_ok, Res.bind_exc, onR_ok, onR_exc, decide_true, decide_false, Bool.not_true, Bool.not_false, Bool.false_eq_true, if_true, if_false, Nat.sub_self, List.append_nil, List.append_assoc, Nat.add_one_sub_one, Nat.zero_add, Nat.reduceAdd, Nat.reduceSub, bne_self_eq_false, Int.reduceNeg, h0]
  by_cases h1 : c = 1
  · refine ⟨p, -p, hp, hp.neg, ?_⟩
    unfold relB
    simp only [gc_same, gc_ext_bl, gc_ext_int, gc_ext_str, gc_ext_non, gc_exc_0, gc_x0, ev_seq, ev_asg, ev_asgG, ev_gnm, ev_gtup, ev_gtp0, ev_gtp1, ev_ret, ev_retn, ev_drop, ev_ifs, ev_next, ev_brk, ev_cnt, ev_c, ev_var, ev_bin, ev_un, ev_args0, ev_args1, ev_tup, ev_lst, ev_if, ev_and, ev_or, ev_not, ev_B, ev_tru, ev_asB, ev_notD, ev_tru_b, ev_tru_i, ev_tru_n, ev_tru_t, ev_andV, ev_orV, ev_andb, ev_orb, ev_call, ev_attr, ev_new, ev_seta, ev_meth, ev_bm, ev_aug, ev_sl, ev_pn, ev_ps, ev_asI, ev_for, ev_fori, ev_while, ev_ival, ev_it_t, ev_it_r, ev_def, ev_fnx, ev_frt, ev_fx, ev_int, ev_intb, ev_raise0, ev_isn, ev_isnn, opi_add, opi_sub, cmi_lt, cmi_le, cmi_gt, cmi_ge, cmi_eq, cmi_ne, cmb_eq, cmb_ne, cms_eq, cms_ne, negI, absI, ix_0, ix_1, ix_2, ix_3, len_tup, List.map_cons, List.map_nil, List.length_cons, List.length_nil, List.replicate, List.getElem?_cons_succ, List.getElem?_cons_zero, List.cons_append, List.nil_append, List.set_cons_succ, List.set_cons_zero, Res.bind_ok, Res.bind_exc, onR_ok, onR_exc, decide_true, decide_false, Bool.not_true, Bool.not_false, Bool.false_eq_true, if_true, if_false, Nat.sub_self, List.append_nil, List.append_assoc, Nat.add_one_sub_one, Nat.zero_add, Nat.reduceAdd, Nat.reduceSub, bne_self_eq_false, Int.reduceNeg, h1, ixP0, ixP1, eP_neg, show ¬ ((1 : Int) = 0) by decide]
  by_cases h2 : c = 2
  · refine ⟨p, 0, hp, Sz.zero, ?_⟩
    rw [z0]
    unfold relB
    simp only [gc_same, gc_ext_bl, gc_ext_int, gc_ext_str, gc_ext_non, gc_exc_0, gc_x0, ev_seq, ev_asg, ev_asgG, ev_gnm, ev_gtup, ev_gtp0, ev_gtp1, ev_ret, ev_retn, ev_drop, ev_ifs, ev_next, ev_brk, ev_cnt, ev_c, ev_var, ev_bin, ev_un, ev_args0, ev_args1, ev_tup, ev_lst, ev_if, ev_and, ev_or, ev_not, ev_B, ev_tru, ev_asB, ev_notD, ev_tru_b, ev_tru_i, ev_tru_n, ev_tru_t, ev_andV, ev_orV, ev_andb, ev_orb, ev_call, ev_attr, ev_new, ev_seta, ev_meth, ev_bm, ev_aug, ev_sl, ev_pn, ev_ps, ev_asI, ev_for, ev_fori, ev_while, ev_ival, ev_it_t, ev_it_r, ev_def, ev_fnx, ev_frt, ev_fx, ev_int, ev_intb, ev_raise0, ev_isn, ev_isnn, opi_add, opi_sub, cmi_lt, cmi_le, cmi_gt, cmi_ge, cmi_eq, cmi_ne, cmb_eq, cmb_ne, cms_eq, cms_ne, negI, absI, ix_0, ix_1, ix_2, ix_3, len_tup, List.map_cons, List.map_nil, List.length_cons, List.length_nil, List.replicate, List.getElem?_cons_succ, List.getElem?_cons_zero, List.cons_append, List.nil_append, List.set_cons_succ, List.set_cons_zero, Res.bind_ok, Res.bind_exc, onR_ok, onR_exc, decide_true, decide_false, Bool.not_true, Bool.not_false, Bool.false_eq_true, if_true, if_false, Nat.sub_self, List.append_nil, List.append_assoc, Nat.add_one_sub_one, Nat.zero_add, Nat.reduceAdd, Nat.reduceSub, bne_self_eq_false, Int.reduceNeg, h2, show ¬ ((2 : Int) = 0) by decide, show ¬ ((2 : Int) = 1) by decide]
  by_cases h3 : c = 3
  · refine ⟨0, q, Sz.zero, hq, ?_⟩
    rw [z0]
    unfold relB
    simp only [gc_same, gc_ext_bl, gc_ext_int, gc_ext_str, gc_ext_non, gc_exc_0, gc_x0, ev_seq, ev_asg, ev_asgG, ev_gnm, ev_gtup, ev_gtp0, ev_gtp1, ev_ret, ev_retn, ev_drop, ev_ifs, ev_next, ev_brk, ev_cnt, ev_c, ev_var, ev_bin, ev_un, ev_args0, ev_args1, ev_tup, ev_lst, ev_if, ev_and, ev_or, ev_not, ev_B, ev_tru, ev_asB, ev_notD, ev_tru_b, ev_tru_i, ev_tru_n, ev_tru_t, ev_andV, ev_orV, ev_andb, ev_orb, ev_call, ev_attr, ev_new, ev_seta, ev_meth, ev_bm, ev_aug, ev_sl, ev_pn, ev_ps, ev_asI, ev_for, ev_fori, ev_while, ev_ival, ev_it_t, ev_it_r, ev_def, ev_fnx, ev_frt, ev_fx, ev_int, ev_intb, ev_raise0, ev_isn, ev_isnn, opi_add, opi_sub, cmi_lt, cmi_le, cmi_gt, cmi_ge, cmi_eq, cmi_ne, cmb_eq, cmb_ne, cms_eq, cms_ne, negI, absI, ix_0, ix_1, ix_2, ix_3, len_tup, List.map_cons, List.map_nil, List.length_cons, List.length_nil, List.replicate, List.getElem?_cons_succ, List.getElem?_cons_zero, List.cons_append, List.nil_append, List.set_cons_succ, List.set_cons_zero, Res.bind_ok, Res.bind_exc, onR_ok, onR_exc, decide_true, decide_false, Bool.not_true, Bool.not_false, Bool.false_eq_true, if_true, if_false, Nat.sub_self, List.append_nil, List.append_assoc, Nat.add_one_sub_one, Nat.zero_add, Nat.reduceAdd, Nat.reduceSub, bne_self_eq_false, Int.reduceNeg, h3, show ¬ ((3 : Int) = 0) by decide, show ¬ ((3 : Int) = 1) by decide, show ¬ ((3 : Int) = 2) by decide]
  by_cases h4 : c = 4
  · by_cases hz : p.num = 0
    · refine ⟨p, q, hp, hq, ?_⟩
      have hz' : decide (p.num = 0) = true := by simp [hz]
      unfold relB
      simp only [gc_same, gc_ext_bl, gc_ext_int, gc_ext_str, gc_ext_non, gc_exc_0, gc_x0, ev_seq, ev_asg, ev_asgG, ev_gnm, ev_gtup, ev_gtp0, ev_gtp1, ev_ret, ev_retn, ev_drop, ev_ifs, ev_next, ev_brk, ev_cnt, ev_c, ev_var, ev_bin, ev_un, ev_args0, ev_args1, ev_tup, ev_lst, ev_if, ev_and, ev_or, ev_not, ev_B, ev_tru, ev_asB, ev_notD, ev_tru_b, ev_tru_i, ev_tru_n, ev_tru_t, ev_andV, ev_orV, ev_andb, ev_orb, ev_call, ev_attr, ev_new, ev_seta, ev_meth, ev_bm, ev_aug, ev_sl, ev_pn, ev_ps, ev_asI, ev_for, ev_fori, ev_while, ev_ival, ev_it_t, ev_it_r, ev_def, ev_fnx, ev_frt, ev_fx, ev_int, ev_intb, ev_raise0, ev_isn, ev_isnn, opi_add, opi_sub, cmi_lt, cmi_le, cmi_gt, cmi_ge, cmi_eq, cmi_ne, cmb_eq, cmb_ne, cms_eq, cms_ne, negI, absI, ix_0, ix_1, ix_2, ix_3, len_tup, List.map_cons, List.map_nil, List.length_cons, List.length_nil, List.replicate, List.getElem?_cons_succ, List.getElem?_cons_zero, List.cons_append, List.nil_append, List.set_cons_succ, List.set_cons_zero, Res.bind_ok, Res.bind_exc, onR_ok, onR_exc, decide_true, decide_false, Bool.not_true, Bool.not_false, Bool.false_eq_true, if_true, if_false, Nat.sub_self, List.append_nil, List.append_assoc, Nat.add_one_sub_one, Nat.zero_add, Nat.reduceAdd, Nat.reduceSub, bne_self_eq_false, Int.reduceNeg, h4, show ¬ ((4 : Int) = 0) by decide, show ¬ ((4 : Int) = 1) by decide, show ¬ ((4 : Int) = 2) by decide, show ¬ ((4 : Int) = 3) by decide, ixP0, hz']
    · refine ⟨p, Rat.divInt p.den p.num, hp, Sz.inv hp, ?_⟩
      have hl := low_ok (S := S) (n := p.den) hz (by have := hp.1; omega)
      unfold relB
      simp only [gc_same, gc_ext_bl, gc_ext_int, gc_ext_str, gc_ext_non, gc_exc_0, gc_x0, ev_seq, ev_asg, ev_asgG, ev_gnm, ev_gtup, ev_gtp0, ev_gtp1, ev_ret, ev_retn, ev_drop, ev_ifs, ev_next, ev_brk, ev_cnt, ev_c, ev_var, ev_bin, ev_un, ev_args0, ev_args1, ev_tup, ev_lst, ev_if, ev_and, ev_or, ev_not, ev_B, ev_tru, ev_asB, ev_notD, ev_tru_b, ev_tru_i, ev_tru_n, ev_tru_t, ev_andV, ev_orV, ev_andb, ev_orb, ev_call, ev_attr, ev_new, ev_seta, ev_meth, ev_bm, ev_aug, ev_sl, ev_pn, ev_ps, ev_asI, ev_for, ev_fori, ev_while, ev_ival, ev_it_t, ev_it_r, ev_def, ev_fnx, ev_frt, ev_fx, ev_int, ev_intb, ev_raise0, ev_isn, ev_isnn, opi_add, opi_sub, cmi_lt, cmi_le, cmi_gt, cmi_ge, cmi_eq, cmi_ne, cmb_eq, cmb_ne, cms_eq, cms_ne, negI, absI, ix_0, ix_1, ix_2, ix_3, len_tup, List.map_cons, List.map_nil, List.length_cons, List.length_nil, List.replicate, List.getElem?_cons_succ, List.getElem?_cons_zero, List.cons_append, List.nil_append, List.set_cons_succ, List.set_cons_zero, Res.bind_ok, Res.bind_exc, onR_ok, onR_exc, decide_true, decide_false, Bool.not_true, Bool.not_false, Bool.false_eq_true, if_true, if_false, Nat.sub_self, List.append_nil, List.append_assoc, Nat.add_one_sub_one, Nat.zero_add, Nat.reduceAdd, Nat.reduceSub, bne_self_eq_false, Int.reduceNeg, h4, show ¬ ((4 : Int) = 0) by decide, show ¬ ((4 : Int) = 1) by decide, show ¬ ((4 : Int) = 2) by decide, show ¬ ((4 : Int) = 3) by decide, ixP0, ixP1, hz, hl]
  · refine ⟨p, q, hp, hq, ?_⟩
    unfold relB
    simp only [gc_same, gc_ext_bl, gc_ext_int, gc_ext_str, gc_ext_non, gc_exc_0, gc_x0, ev_seq, ev_asg, ev_asgG, ev_gnm, ev_gtup, ev_gtp0, ev_gtp1, ev_ret, ev_retn, ev_drop, ev_ifs, ev_next, ev_brk, ev_cnt, ev_c, ev_var, ev_bin, ev_un, ev_args0, ev_args1, ev_tup, ev_lst, ev_if, ev_and, ev_or, ev_not, ev_B, ev_tru, ev_asB, ev_notD, ev_tru_b, ev_tru_i, ev_tru_n, ev_tru_t, ev_andV, ev_orV, ev_andb, ev_orb, ev_call, ev_attr, ev_new, ev_seta, ev_meth, ev_bm, ev_aug, ev_sl, ev_pn, ev_ps, ev_asI, ev_for, ev_fori, ev_while, ev_ival, ev_it_t, ev_it_r, ev_def, ev_fnx, ev_frt, ev_fx, ev_int, ev_intb, ev_raise0, ev_isn, ev_isnn, opi_add, opi_sub, cmi_lt, cmi_le, cmi_gt, cmi_ge, cmi_eq, cmi_ne, cmb_eq, cmb_ne, cms_eq, cms_ne, negI, absI, ix_0, ix_1, ix_2, ix_3, len_tup, List.map_cons, List.map_nil, List.length_cons, List.length_nil, List.replicate, List.getElem?_cons_succ, List.getElem?_cons_zero, List.cons_append, List.nil_append, List.set_cons_succ, List.set_cons_zero, Res.bind_ok, Res.bind_exc, onR_ok, onR_exc, decide_true, decide_false, Bool.not_true, Bool.not_false, Bool.false_eq_true, if_true, if_false, Nat.sub_self, List.append_nil, List.append_assoc, Nat.add_one_sub_one, Nat.zero_add, Nat.reduceAdd, Nat.reduceSub, bne_self_eq_false, Int.reduceNeg, h0, h1, h2, h3, h4]
/-! the questions -/
def Item (d : D) : Prop := ∃ r p q, d = .tup [eQ p, r, eP p, eP q] ∧ FN (eQ p) r p q ∧ Sz 300 p ∧ Sz 300 q
noncomputable abbrev turnB : MS := lb_law_0
theorem turn_ok {d : D} (h : Item d) (a b c e f g i : Option D) : turnF (gNm 7) lb_law_0 d [a, b, c, e, f, g, i, none] S = .nx [a, b, c, e, f, g, i, some d] S := by
  obtain ⟨r, p, q, rfl, hf, hp, hq⟩ := h
  have t1 := operators_ok (S := S) hf hp hq
  have t2 := operators_ok (S := S) (F.FN.symm hf) hq hp
  have t3 := orders_ok (S := S) hf hp hq
  have t4 := orders_ok (S := S) (F.FN.symm hf) hq hp
  have t5 := over_ok (S := S) hf hp hq
  unfold turnF lb_law_0
  simp only [gc_same, gc_ext_bl, gc_ext_int, gc_ext_str, gc_ext_non, gc_exc_0, gc_x0, ev_seq, ev_asg, ev_asgG, ev_gnm, ev_gtup, ev_gtp0, ev_gtp1, ev_ret, ev_retn, ev_drop, ev_ifs, ev_next, ev_brk, ev_cnt, ev_c, ev_var, ev_bin, ev_un, ev_args0, ev_args1, ev_tup, ev_lst, ev_if, ev_and, ev_or, ev_not, ev_B, ev_tru, ev_asB, ev_notD, ev_tru_b, ev_tru_i, ev_tru_n, ev_tru_t, ev_andV, ev_orV, ev_andb, ev_orb, ev_call, ev_attr, ev_new, ev_seta, ev_meth, ev_bm, ev_aug, ev_sl, ev_pn, ev_ps, ev_asI, ev_for, ev_fori, ev_while, ev_ival, ev_it_t, ev_it_r, ev_def, ev_fnx, ev_frt, ev_fx, ev_int, ev_intb, ev_raise0, ev_isn, ev_isnn, opi_add, opi_sub, cmi_lt, cmi_le, cmi_gt, cmi_ge, cmi_eq, cmi_ne, cmb_eq, cmb_ne, cms_eq, cms_ne, negI, absI, ix_0, ix_1, ix_2, ix_3, len_tup, List.map_cons, List.map_nil, List.length_cons, List.length_nil, List.replicate, List.getElem?_cons_succ, List.getElem?_cons_zero, List.cons_append, List.nil_append, List.set_cons_succ, List.set_cons_zero, Res.bind_ok, Res.bind_exc, onR_ok, onR_exc, decide_true, decide_false, Bool.not_true, Bool.not_false, Bool.false_eq_true, if_true, if_false, Nat.sub_self, List.append_nil, List.append_assoc, Nat.add_one_sub_one, Nat.zero_add, Nat.reduceAdd, Nat.reduceSub, bne_self_eq_false, Int.reduceNeg, t1, t2, t3, t4, t5]
theorem turn_ok2 {d d0 : D} (h : Item d) (a b c e f g i : Option D) : turnF (gNm 7) lb_law_0 d [a, b, c, e, f, g, i, some d0] S = .nx [a, b, c, e, f, g, i, some d] S := by
  obtain ⟨r, p, q, rfl, hf, hp, hq⟩ := h
  have t1 := operators_ok (S := S) hf hp hq
  have t2 := operators_ok (S := S) (F.FN.symm hf) hq hp
  have t3 := orders_ok (S := S) hf hp hq
  have t4 := orders_ok (S := S) (F.FN.symm hf) hq hp
  have t5 := over_ok (S := S) hf hp hq
  unfold turnF lb_law_0
  simp only [gc_same, gc_ext_bl, gc_ext_int, gc_ext_str, gc_ext_non, gc_exc_0, gc_x0, ev_seq, ev_asg, ev_asgG, ev_gnm, ev_gtup, ev_gtp0, ev_gtp1, ev_ret, ev_retn, ev_drop, ev_ifs, ev_next, ev_brk, ev_cnt, ev_c, ev_var, ev_bin, ev_un, ev_args0, ev_args1, ev_tup, ev_lst, ev_if, ev_and, ev_or, ev_not, ev_B, ev_tru, ev_asB, ev_notD, ev_tru_b, ev_tru_i, ev_tru_n, ev_tru_t, ev_andV, ev_orV, ev_andb, ev_orb, ev_call, ev_attr, ev_new, ev_seta, ev_meth, ev_bm, ev_aug, ev_sl, ev_pn, ev_ps, ev_asI, ev_for, ev_fori, ev_while, ev_ival, ev_it_t, ev_it_r, ev_def, ev_fnx, ev_frt, ev_fx, ev_int, ev_intb, ev_raise0, ev_isn, ev_isnn, opi_add, opi_sub, cmi_lt, cmi_le, cmi_gt, cmi_ge, cmi_eq, cmi_ne, cmb_eq, cmb_ne, cms_eq, cms_ne, negI, absI, ix_0, ix_1, ix_2, ix_3, len_tup, List.map_cons, List.map_nil, List.length_cons, List.length_nil, List.replicate, List.getElem?_cons_succ, List.getElem?_cons_zero, List.cons_append, List.nil_append, List.set_cons_succ, List.set_cons_zero, Res.bind_ok, Res.bind_exc, onR_ok, onR_exc, decide_true, decide_false, Bool.not_true, Bool.not_false, Bool.false_eq_true, if_true, if_false, Nat.sub_self, List.append_nil, List.append_assoc, Nat.add_one_sub_one, Nat.zero_add, Nat.reduceAdd, Nat.reduceSub, bne_self_eq_false, Int.reduceNeg, t1, t2, t3, t4, t5]
theorem loop_ok {nr : Nat} {xs : List D} (hx : ∀ d ∈ xs, Item d) (hS : S[nr]? = some (.lst xs)) (a b c e f g : Option D) : ∃ o, (mFor (iVal (mVar 6)) (gNm 7) lb_law_0) [a, b, c, e, f, g, some (.ref nr), none] S = .nx [a, b, c, e, f, g, some (.ref nr), o] S := by
  obtain ⟨en, S', h1, h2, o, h3⟩ := forS_inv (body := lb_law_0) (n := nr) (plain_nm 7) (fun k env S' => S' = S ∧ ∃ o, env = [a, b, c, e, f, g, some (.ref nr), o]) xs (fun _ _ _ h => h.1 ▸ hS) (by
    rintro k d env S' hd ⟨rfl, o, rfl⟩
    have hi := hx d (List.mem_of_getElem? hd)
    refine ⟨_, S', ?_, rfl, some d, rfl⟩
    cases o with
    | none => exact turn_ok hi _ _ _ _ _ _ _
    | some d0 => exact turn_ok2 hi _ _ _ _ _ _ _) xs.length 0 [a, b, c, e, f, g, some (.ref nr), none] S (by omega) ⟨rfl, none, rfl⟩
  subst h2 h3
  refine ⟨o, ?_⟩
  rw [ev_for, ev_ival]
  simp only [gc_same, gc_ext_bl, gc_ext_int, gc_ext_str, gc_ext_non, gc_exc_0, gc_x0, ev_seq, ev_asg, ev_asgG, ev_gnm, ev_gtup, ev_gtp0, ev_gtp1, ev_ret, ev_retn, ev_drop, ev_ifs, ev_next, ev_brk, ev_cnt, ev_c, ev_var, ev_bin, ev_un, ev_args0, ev_args1, ev_tup, ev_lst, ev_if, ev_and, ev_or, ev_not, ev_B, ev_tru, ev_asB, ev_notD, ev_tru_b, ev_tru_i, ev_tru_n, ev_tru_t, ev_andV, ev_orV, ev_andb, ev_orb, ev_call, ev_attr, ev_new, ev_seta, ev_meth, ev_bm, ev_aug, ev_sl, ev_pn, ev_ps, ev_asI, ev_for, ev_fori, ev_while, ev_ival, ev_it_t, ev_it_r, ev_def, ev_fnx, ev_frt, ev_fx, ev_int, ev_intb, ev_raise0, ev_isn, ev_isnn, opi_add, opi_sub, cmi_lt, cmi_le, cmi_gt, cmi_ge, cmi_eq, cmi_ne, cmb_eq, cmb_ne, cms_eq, cms_ne, negI, absI, ix_0, ix_1, ix_2, ix_3, len_tup, List.map_cons, List.map_nil, List.length_cons, List.length_nil, List.replicate, List.getElem?_cons_succ, List.getElem?_cons_zero, List.cons_append, List.nil_append, List.set_cons_succ, List.set_cons_zero, Res.bind_ok, Res.bind_exc, onR_ok, onR_exc, decide_true, decide_false, Bool.not_true, Bool.not_false, Bool.false_eq_true, if_true, if_false, Nat.sub_self, List.append_nil, List.append_assoc, Nat.add_one_sub_one, Nat.zero_add, Nat.reduceAdd, Nat.reduceSub, bne_self_eq_false, Int.reduceNeg, it_ref hS, forW_ref hS, h1]
theorem app_ok {nr : Nat} {xs : List D} {y : D} (hS : S[nr]? = some (.lst xs)) (hl : xs.length ≤ 100) : appD [.ref nr, y] S = .ok .non (S.set nr (.lst (xs ++ [y]))) := by
  have : xs.length < sizeLine := Nat.lt_of_le_of_lt hl (by rw [sizeLine_eq]; decide)
  simp [appD, hS, this]
theorem whole_num {p : Rat} (h : (p.den : Int) = 1) : (p.num : Rat) = p := Rat.ext rfl (by show 1 = p.den; omega)
theorem item_w (hp : Sz 300 p) (hq : Sz 300 q) (h : (p.den : Int) = 1) : Item (.tup [eQ q, .int p.num, eP q, eP p]) := by
  have hf : FN (eQ q) (.int p.num) q (p.num : Rat) := .qi q p.num
  rw [whole_num h] at hf
  exact ⟨_, q, p, rfl, hf, hq, hp⟩
theorem app1_ok (hp : Sz 300 p) (hq : Sz 300 q) {c : Int} {xs : List D} (hx : ∀ d ∈ xs, Item d) (hl : xs.length ≤ 50) (hS : S[1]? = some (.lst xs)) : ∃ S' xs', (∀ d ∈ xs', Item d) ∧ xs'.length ≤ xs.length + 1 ∧ S'[1]? = some (.lst xs') ∧ (mIfS (mB (mBin (cmpD T5 .Eq) (mBin ixD (mVar 1) (mC (.int 1))) (mC (.int 1)))) (mDrop (mBm "list" appD (mVar 6) [mTup [mVar 5, mBin ixD (mVar 1) (mC (.int 0)), mVar 2, mVar 1]])) (mNext)) [some (.ref 0), some (eP p), some (eP q), some (.int c), some (eQ p), some (eQ q), some (.ref 1), none] S = .nx [some (.ref 0), some (eP p), some (eP q), some (.int c), some (eQ p), some (eQ q), some (.ref 1), none] S' := by
  by_cases hd : (p.den : Int) = 1
  · refine ⟨S.set 1 (.lst (xs ++ [.tup [eQ q, .int p.num, eP q, eP p]])), xs ++ [.tup [eQ q, .int p.num, eP q, eP p]], ?_, by simp, ?_, ?_⟩
    · intro d hd'
      rcases List.mem_append.mp hd' with h | h
      · exact hx d h
      · simp at h; subst h; exact item_w hp hq hd
    · have := (List.getElem?_eq_some_iff.mp hS).1
      simp [List.getElem?_set, this]
    · have ht : tyD "list" (.ref 1) S = true := by simp [tyD, hS]
      have ha := app_ok (y := .tup [eQ q, .int p.num, eP q, eP p]) hS (by omega)
      simp only [gc_same, gc_ext_bl, gc_ext_int, gc_ext_str, gc_ext_non, gc_exc_0, gc_x0, ev_seq, ev_asg, ev_asgG, ev_gnm, ev_gtup, ev_gtp0, ev_gtp1, ev_ret, ev_retn, ev_drop, ev_ifs, ev_next, ev_brk, ev_cnt, ev_c, ev_var, ev_bin, ev_un, ev_args0, ev_args1, ev_tup, ev_lst, ev_if, ev_and, ev_or, ev_not, ev_B, ev_tru, ev_asB, ev_notD, ev_tru_b, ev_tru_i, ev_tru_n, ev_tru_t, ev_andV, ev_orV, ev_andb, ev_orb, ev_call, ev_attr, ev_new, ev_seta, ev_meth, ev_bm, ev_aug, ev_sl, ev_pn, ev_ps, ev_asI, ev_for, ev_fori, ev_while, ev_ival, ev_it_t, ev_it_r, ev_def, ev_fnx, ev_frt, ev_fx, ev_int, ev_intb, ev_raise0, ev_isn, ev_isnn, opi_add, opi_sub, cmi_lt, cmi_le, cmi_gt, cmi_ge, cmi_eq, cmi_ne, cmb_eq, cmb_ne, cms_eq, cms_ne, negI, absI, ix_0, ix_1, ix_2, ix_3, len_tup, List.map_cons, List.map_nil, List.length_cons, List.length_nil, List.replicate, List.getElem?_cons_succ, List.getElem?_cons_zero, List.cons_append, List.nil_append, List.set_cons_succ, List.set_cons_zero, Res.bind_ok, Res.bind_exc, onR_ok, onR_exc, decide_true, decide_false, Bool.not_true, Bool.not_false, Bool.false_eq_true, if_true, if_false, Nat.sub_self, List.append_nil, List.append_assoc, Nat.add_one_sub_one, Nat.zero_add, Nat.reduceAdd, Nat.reduceSub, bne_self_eq_false, Int.reduceNeg, hd, ixP1, ixP0, ht, ha]
  · exact ⟨S, xs, hx, by omega, hS, by simp only [gc_same, gc_ext_bl, gc_ext_int, gc_ext_str, gc_ext_non, gc_exc_0, gc_x0, ev_seq, ev_asg, ev_asgG, ev_gnm, ev_gtup, ev_gtp0, ev_gtp1, ev_ret, ev_retn, ev_drop, ev_ifs, ev_next, ev_brk, ev_cnt, ev_c, ev_var, ev_bin, ev_un, ev_args0, ev_args1, ev_tup, ev_lst, ev_if, ev_and, ev_or, ev_not, ev_B, ev_tru, ev_asB, ev_notD, ev_tru_b, ev_tru_i, ev_tru_n, ev_tru_t, ev_andV, ev_orV, ev_andb, ev_orb, ev_call, ev_attr, ev_new, ev_seta, ev_meth, ev_bm, ev_aug, ev_sl, ev_pn, ev_ps, ev_asI, ev_for, ev_fori, ev_while, ev_ival, ev_it_t, ev_it_r, ev_def, ev_fnx, ev_frt, ev_fx, ev_int, ev_intb, ev_raise0, ev_isn, ev_isnn, opi_add, opi_sub, cmi_lt, cmi_le, cmi_gt, cmi_ge, cmi_eq, cmi_ne, cmb_eq, cmb_ne, cms_eq, cms_ne, negI, absI, ix_0, ix_1, ix_2, ix_3, len_tup, List.map_cons, List.map_nil, List.length_cons, List.length_nil, List.replicate, List.getElem?_cons_succ, List.getElem?_cons_zero, List.cons_append, List.nil_append, List.set_cons_succ, List.set_cons_zero, Res.bind_ok, Res.bind_exc, onR_ok, onR_exc, decide_true, decide_false, Bool.not_true, Bool.not_false, Bool.false_eq_true, if_true, if_false, Nat.sub_self, List.append_nil, List.append_assoc, Nat.add_one_sub_one, Nat.zero_add, Nat.reduceAdd, Nat.reduceSub, bne_self_eq_false, Int.reduceNeg, hd, ixP1]⟩
theorem app2_ok (hp : Sz 300 p) (hq : Sz 300 q) {c : Int} {xs : List D} (hx : ∀ d ∈ xs, Item d) (hl : xs.length ≤ 50) (hS : S[1]? = some (.lst xs)) : ∃ S' xs', (∀ d ∈ xs', Item d) ∧ xs'.length ≤ xs.length + 1 ∧ S'[1]? = some (.lst xs') ∧ (mIfS (mB (mBin (cmpD T5 .Eq) (mBin ixD (mVar 2) (mC (.int 1))) (mC (.int 1)))) (mDrop (mBm "list" appD (mVar 6) [mTup [mVar 4, mBin ixD (mVar 2) (mC (.int 0)), mVar 1, mVar 2]])) (mNext)) [some (.ref 0), some (eP p), some (eP q), some (.int c), some (eQ p), some (eQ q), some (.ref 1), none] S = .nx [some (.ref 0), some (eP p), some (eP q), some (.int c), some (eQ p), some (eQ q), some (.ref 1), none] S' := by
  by_cases hd : (q.den : Int) = 1
  · refine ⟨S.set 1 (.lst (xs ++ [.tup [eQ p, .int q.num, eP p, eP q]])), xs ++ [.tup [eQ p, .int q.num, eP p, eP q]], ?_, by simp, ?_, ?_⟩
    · intro d hd'
      rcases List.mem_append.mp hd' with h | h
      · exact hx d h
      · simp at h; subst h; exact item_w hq hp hd
    · have := (List.getElem?_eq_some_iff.mp hS).1
      simp [List.getElem?_set, this]
    · have ht : tyD "list" (.ref 1) S = true := by simp [tyD, hS]
      have ha := app_ok (y := .tup [eQ p, .int q.num, eP p, eP q]) hS (by omega)
      simp only [gc_same, gc_ext_bl, gc_ext_int, gc_ext_str, gc_ext_non, gc_exc_0, gc_x0, ev_seq, ev_asg, ev_asgG, ev_gnm, ev_gtup, ev_gtp0, ev_gtp1, ev_ret, ev_retn, ev_drop, ev_ifs, ev_next, ev_brk, ev_cnt, ev_c, ev_var, ev_bin, ev_un, ev_args0, ev_args1, ev_tup, ev_lst, ev_if, ev_and, ev_or, ev_not, ev_B, ev_tru, ev_asB, ev_notD, ev_tru_b, ev_tru_i, ev_tru_n, ev_tru_t, ev_andV, ev_orV, ev_andb, ev_orb, ev_call, ev_attr, ev_new, ev_seta, ev_meth, ev_bm, ev_aug, ev_sl, ev_pn, ev_ps, ev_asI, ev_for, ev_fori, ev_while, ev_ival, ev_it_t, ev_it_r, ev_def, ev_fnx, ev_frt, ev_fx, ev_int, ev_intb, ev_raise0, ev_isn, ev_isnn, opi_add, opi_sub, cmi_lt, cmi_le, cmi_gt, cmi_ge, cmi_eq, cmi_ne, cmb_eq, cmb_ne, cms_eq, cms_ne, negI, absI, ix_0, ix_1, ix_2, ix_3, len_tup, List.map_cons, List.map_nil, List.length_cons, List.length_nil, List.replicate, List.getElem?_cons_succ, List.getElem?_cons_zero, List.cons_append, List.nil_append, List.set_cons_succ, List.set_cons_zero, Res.bind_ok, Res.bind_exc, onR_ok, onR_exc, decide_true, decide_false, Bool.not_true, Bool.not_false, Bool.false_eq_true, if_true, if_false, Nat.sub_self, List.append_nil, List.append_assoc, Nat.add_one_sub_one, Nat.zero_add, Nat.reduceAdd, Nat.reduceSub, bne_self_eq_false, Int.reduceNeg, hd, ixP1, ixP0, ht, ha]
  · exact ⟨S, xs, hx, by omega, hS, by simp only [gc_same, gc_ext_bl, gc_ext_int, gc_ext_str, gc_ext_non, gc_exc_0, gc_x0, ev_seq, ev_asg, ev_asgG, ev_gnm, ev_gtup, ev_gtp0, ev_gtp1, ev_ret, ev_retn, ev_drop, ev_ifs, ev_next, ev_brk, ev_cnt, ev_c, ev_var, ev_bin, ev_un, ev_args0, ev_args1, ev_tup, ev_lst, ev_if, ev_and, ev_or, ev_not, ev_B, ev_tru, ev_asB, ev_notD, ev_tru_b, ev_tru_i, ev_tru_n, ev_tru_t, ev_andV, ev_orV, ev_andb, ev_orb, ev_call, ev_attr, ev_new, ev_seta, ev_meth, ev_bm, ev_aug, ev_sl, ev_pn, ev_ps, ev_asI, ev_for, ev_fori, ev_while, ev_ival, ev_it_t, ev_it_r, ev_def, ev_fnx, ev_frt, ev_fx, ev_int, ev_intb, ev_raise0, ev_isn, ev_isnn, opi_add, opi_sub, cmi_lt, cmi_le, cmi_gt, cmi_ge, cmi_eq, cmi_ne, cmb_eq, cmb_ne, cms_eq, cms_ne, negI, absI, ix_0, ix_1, ix_2, ix_3, len_tup, List.map_cons, List.map_nil, List.length_cons, List.length_nil, List.replicate, List.getElem?_cons_succ, List.getElem?_cons_zero, List.cons_append, List.nil_append, List.set_cons_succ, List.set_cons_zero, Res.bind_ok, Res.bind_exc, onR_ok, onR_exc, decide_true, decide_false, Bool.not_true, Bool.not_false, Bool.false_eq_true, if_true, if_false, Nat.sub_self, List.append_nil, List.append_assoc, Nat.add_one_sub_one, Nat.zero_add, Nat.reduceAdd, Nat.reduceSub, bne_self_eq_false, Int.reduceNeg, hd, ixP1]⟩
theorem law_env (hS : S = [.lst (ns.map .int)]) (hp : Sz 133 p) (hq : Sz 133 q) (c : Int) : ∃ S', (mSeq (mAsg 4 (mCall m__law_made [mVar 1, mCall m__law_cell [mVar 0, mC (.int 5)]])) (mSeq (mAsg 5 (mCall m__law_made [mVar 2, mCall m__law_cell [mVar 0, mC (.int 6)]])) (mSeq (mIfS (mOr (mNot (mTru (mCall m__law_is [mVar 4, mVar 1]))) (mOr (mNot (mTru (mCall m__law_is [mVar 5, mVar 2]))) (mNot (mTru (mCall m__law_made_plain [mVar 1]))))) (mRet (mC (.bl false))) (mNext)) (mSeq (mIfS (mNot (mTru (mCall m__law_over [mVar 5, mVar 4, mVar 2, mVar 1]))) (mRet (mC (.bl false))) (mNext)) (mSeq (mAsg 6 (mLst [mTup [mVar 4, mVar 5, mVar 1, mVar 2], mTup [mVar 4, mVar 4, mVar 1, mVar 1]])) (mSeq (mIfS (mB (mBin (cmpD T5 .Eq) (mBin ixD (mVar 1) (mC (.int 1))) (mC (.int 1)))) (mDrop (mBm "list" appD (mVar 6) [mTup [mVar 5, mBin ixD (mVar 1) (mC (.int 0)), mVar 2, mVar 1]])) (mNext)) (mSeq (mIfS (mB (mBin (cmpD T5 .Eq) (mBin ixD (mVar 2) (mC (.int 1))) (mC (.int 1)))) (mDrop (mBm "list" appD (mVar 6) [mTup [mVar 4, mBin ixD (mVar 2) (mC (.int 0)), mVar 1, mVar 2]])) (mNext)) (mSeq (mFor (iVal (mVar 6)) (gNm 7) lb_law_0) (mSeq (mIfS (mOr (mNot (mTru (mCall m__law_single [mVar 4, mVar 1]))) (mNot (mTru (mCall m__law_single [mVar 5, mVar 2])))) (mRet (mC (.bl false))) (mNext)) (mSeq (mIfS (mOr (mNot (mTru (mCall m__law_powers [mVar 4, mVar 1]))) (mNot (mTru (mCall m__law_in_place [mVar 4, mVar 5, mVar 1, mVar 2])))) (mRet (mC (.bl false))) (mNext)) (mRet (mAndV (mCall m__law_is [mVar 4, mVar 1]) (mCall m__law_is [mVar 5, mVar 2]))))))))))))) [some (.ref 0), some (eP p), some (eP q), some (.int c), none, none, none, none] S = .rt (.bl true) S' := by
  have hp3 : Sz 300 p := hp.mono (by decide)
  have hq3 : Sz 300 q := hq.mono (by decide)
  have h0 : S[0]? = some (.lst (ns.map .int)) := by rw [hS]; rfl
  obtain ⟨c5, c51, c52, e5⟩ := cell_ok h0 5 (by decide) (by decide)
  obtain ⟨c6, c61, c62, e6⟩ := cell_ok h0 6 (by decide) (by decide)
  have m1 := made_ok (S := S) hp3 (c := c5)
  have m2 := made_ok (S := S) hq3 (c := c6)
  have m3 := made_plain_ok (S := S) hp3
  have o1 : m__law_over [eQ q, eQ p, eP q, eP p] S = .ok (.bl true) S := over_ok (S := S) (.qq q p) hq3 hp3
  rw [seq_nx (e1 := [some (.ref 0), some (eP p), some (eP q), some (.int c), some (eQ p), none, none, none]) (S1 := S) (by simp only [gc_same, gc_ext_bl, gc_ext_int, gc_ext_str, gc_ext_non, gc_exc_0, gc_x0, ev_seq, ev_asg, ev_asgG, ev_gnm, ev_gtup, ev_gtp0, ev_gtp1, ev_ret, ev_retn, ev_drop, ev_ifs, ev_next, ev_brk, ev_cnt, ev_c, ev_var, ev_bin, ev_un, ev_args0, ev_args1, ev_tup, ev_lst, ev_if, ev_and, ev_or, ev_not, ev_B, ev_tru, ev_asB, ev_notD, ev_tru_b, ev_tru_i, ev_tru_n, ev_tru_t, ev_andV, ev_orV, ev_andb, ev_orb, ev_call, ev_attr, ev_new, ev_seta, ev_meth, ev_bm, ev_aug, ev_sl, ev_pn, ev_ps, ev_asI, ev_for, ev_fori, ev_while, ev_ival, ev_it_t, ev_it_r, ev_def, ev_fnx, ev_frt, ev_fx, ev_int, ev_intb, ev_raise0, ev_isn, ev_isnn, opi_add, opi_sub, cmi_lt, cmi_le, cmi_gt, cmi_ge, cmi_eq, cmi_ne, cmb_eq, cmb_ne, cms_eq, cms_ne, negI, absI, ix_0, ix_1, ix_2, ix_3, len_tup, List.map_cons, List.map_nil, List.length_cons, List.length_nil, List.replicate, List.getElem?_cons_succ, List.getElem?_cons_zero, List.cons_append, List.nil_append, List.set_cons_succ, List.set_cons_zero, Res.bind_ok, Res.bind_exc, onR_ok, onR_exc, decide_true, decide_false, Bool.not_true, Bool.not_false, Bool.false_eq_true, if_true, if_false, Nat.sub_self, List.append_nil, List.append_assoc, Nat.add_one_sub_one, Nat.zero_add, Nat.reduceAdd, Nat.reduceSub, bne_self_eq_false, Int.reduceNeg, e5, m1])]
  rw [seq_nx (e1 := [some (.ref 0), some (eP p), some (eP q), some (.int c), some (eQ p), some (eQ q), none, none]) (S1 := S) (by simp only [gc_same, gc_ext_bl, gc_ext_int, gc_ext_str, gc_ext_non, gc_exc_0, gc_x0, ev_seq, ev_asg, ev_asgG, ev_gnm, ev_gtup, ev_gtp0, ev_gtp1, ev_ret, ev_retn, ev_drop, ev_ifs, ev_next, ev_brk, ev_cnt, ev_c, ev_var, ev_bin, ev_un, ev_args0, ev_args1, ev_tup, ev_lst, ev_if, ev_and, ev_or, ev_not, ev_B, ev_tru, ev_asB, ev_notD, ev_tru_b, ev_tru_i, ev_tru_n, ev_tru_t, ev_andV, ev_orV, ev_andb, ev_orb, ev_call, ev_attr, ev_new, ev_seta, ev_meth, ev_bm, ev_aug, ev_sl, ev_pn, ev_ps, ev_asI, ev_for, ev_fori, ev_while, ev_ival, ev_it_t, ev_it_r, ev_def, ev_fnx, ev_frt, ev_fx, ev_int, ev_intb, ev_raise0, ev_isn, ev_isnn, opi_add, opi_sub, cmi_lt, cmi_le, cmi_gt, cmi_ge, cmi_eq, cmi_ne, cmb_eq, cmb_ne, cms_eq, cms_ne, negI, absI, ix_0, ix_1, ix_2, ix_3, len_tup, List.map_cons, List.map_nil, List.length_cons, List.length_nil, List.replicate, List.getElem?_cons_succ, List.getElem?_cons_zero, List.cons_append, List.nil_append, List.set_cons_succ, List.set_cons_zero, Res.bind_ok, Res.bind_exc, onR_ok, onR_exc, decide_true, decide_false, Bool.not_true, Bool.not_false, Bool.false_eq_true, if_true, if_false, Nat.sub_self, List.append_nil, List.append_assoc, Nat.add_one_sub_one, Nat.zero_add, Nat.reduceAdd, Nat.reduceSub, bne_self_eq_false, Int.reduceNeg, e6, m2])]
  rw [seq_nx (e1 := [some (.ref 0), some (eP p), some (eP q), some (.int c), some (eQ p), some (eQ q), none, none]) (S1 := S) (by simp only [gc_same, gc_ext_bl, gc_ext_int, gc_ext_str, gc_ext_non, gc_exc_0, gc_x0, ev_seq, ev_asg, ev_asgG, ev_gnm, ev_gtup, ev_gtp0, ev_gtp1, ev_ret, ev_retn, ev_drop, ev_ifs, ev_next, ev_brk, ev_cnt, ev_c, ev_var, ev_bin, ev_un, ev_args0, ev_args1, ev_tup, ev_lst, ev_if, ev_and, ev_or, ev_not, ev_B, ev_tru, ev_asB, ev_notD, ev_tru_b, ev_tru_i, ev_tru_n, ev_tru_t, ev_andV, ev_orV, ev_andb, ev_orb, ev_call, ev_attr, ev_new, ev_seta, ev_meth, ev_bm, ev_aug, ev_sl, ev_pn, ev_ps, ev_asI, ev_for, ev_fori, ev_while, ev_ival, ev_it_t, ev_it_r, ev_def, ev_fnx, ev_frt, ev_fx, ev_int, ev_intb, ev_raise0, ev_isn, ev_isnn, opi_add, opi_sub, cmi_lt, cmi_le, cmi_gt, cmi_ge, cmi_eq, cmi_ne, cmb_eq, cmb_ne, cms_eq, cms_ne, negI, absI, ix_0, ix_1, ix_2, ix_3, len_tup, List.map_cons, List.map_nil, List.length_cons, List.length_nil, List.replicate, List.getElem?_cons_succ, List.getElem?_cons_zero, List.cons_append, List.nil_append, List.set_cons_succ, List.set_cons_zero, Res.bind_ok, Res.bind_exc, onR_ok, onR_exc, decide_true, decide_false, Bool.not_true, Bool.not_false, Bool.false_eq_true, if_true, if_false, Nat.sub_self, List.append_nil, List.append_assoc, Nat.add_one_sub_one, Nat.zero_add, Nat.reduceAdd, Nat.reduceSub, bne_self_eq_false, Int.reduceNeg, is_ok, m3])]
  rw [seq_nx (e1 := [some (.ref 0), some (eP p), some (eP q), some (.int c), some (eQ p), some (eQ q), none, none]) (S1 := S) (by simp only [gc_same, gc_ext_bl, gc_ext_int, gc_ext_str, gc_ext_non, gc_exc_0, gc_x0, ev_seq, ev_asg, ev_asgG, ev_gnm, ev_gtup, ev_gtp0, ev_gtp1, ev_ret, ev_retn, ev_drop, ev_ifs, ev_next, ev_brk, ev_cnt, ev_c, ev_var, ev_bin, ev_un, ev_args0, ev_args1, ev_tup, ev_lst, ev_if, ev_and, ev_or, ev_not, ev_B, ev_tru, ev_asB, ev_notD, ev_tru_b, ev_tru_i, ev_tru_n, ev_tru_t, ev_andV, ev_orV, ev_andb, ev_orb, ev_call, ev_attr, ev_new, ev_seta, ev_meth, ev_bm, ev_aug, ev_sl, ev_pn, ev_ps, ev_asI, ev_for, ev_fori, ev_while, ev_ival, ev_it_t, ev_it_r, ev_def, ev_fnx, ev_frt, ev_fx, ev_int, ev_intb, ev_raise0, ev_isn, ev_isnn, opi_add, opi_sub, cmi_lt, cmi_le, cmi_gt, cmi_ge, cmi_eq, cmi_ne, cmb_eq, cmb_ne, cms_eq, cms_ne, negI, absI, ix_0, ix_1, ix_2, ix_3, len_tup, List.map_cons, List.map_nil, List.length_cons, List.length_nil, List.replicate, List.getElem?_cons_succ, List.getElem?_cons_zero, List.cons_append, List.nil_append, List.set_cons_succ, List.set_cons_zero, Res.bind_ok, Res.bind_exc, onR_ok, onR_exc, decide_true, decide_false, Bool.not_true, Bool.not_false, Bool.false_eq_true, if_true, if_false, Nat.sub_self, List.append_nil, List.append_assoc, Nat.add_one_sub_one, Nat.zero_add, Nat.reduceAdd, Nat.reduceSub, bne_self_eq_false, Int.reduceNeg, o1])]
  have hl : S.length = 1 := by rw [hS]; rfl
  rw [seq_nx (e1 := [some (.ref 0), some (eP p), some (eP q), some (.int c), some (eQ p), some (eQ q), some (.ref 1), none]) (S1 := S ++ [.lst [.tup [eQ p, eQ q, eP p, eP q], .tup [eQ p, eQ p, eP p, eP p]]]) (by simp only [gc_same, gc_ext_bl, gc_ext_int, gc_ext_str, gc_ext_non, gc_exc_0, gc_x0, ev_seq, ev_asg, ev_asgG, ev_gnm, ev_gtup, ev_gtp0, ev_gtp1, ev_ret, ev_retn, ev_drop, ev_ifs, ev_next, ev_brk, ev_cnt, ev_c, ev_var, ev_bin, ev_un, ev_args0, ev_args1, ev_tup, ev_lst, ev_if, ev_and, ev_or, ev_not, ev_B, ev_tru, ev_asB, ev_notD, ev_tru_b, ev_tru_i, ev_tru_n, ev_tru_t, ev_andV, ev_orV, ev_andb, ev_orb, ev_call, ev_attr, ev_new, ev_seta, ev_meth, ev_bm, ev_aug, ev_sl, ev_pn, ev_ps, ev_asI, ev_for, ev_fori, ev_while, ev_ival, ev_it_t, ev_it_r, ev_def, ev_fnx, ev_frt, ev_fx, ev_int, ev_intb, ev_raise0, ev_isn, ev_isnn, opi_add, opi_sub, cmi_lt, cmi_le, cmi_gt, cmi_ge, cmi_eq, cmi_ne, cmb_eq, cmb_ne, cms_eq, cms_ne, negI, absI, ix_0, ix_1, ix_2, ix_3, len_tup, List.map_cons, List.map_nil, List.length_cons, List.length_nil, List.replicate, List.getElem?_cons_succ, List.getElem?_cons_zero, List.cons_append, List.nil_append, List.set_cons_succ, List.set_cons_zero, Res.bind_ok, Res.bind_exc, onR_ok, onR_exc, decide_true, decide_false, Bool.not_true, Bool.not_false, Bool.false_eq_true, if_true, if_false, Nat.sub_self, List.append_nil, List.append_assoc, Nat.add_one_sub_one, Nat.zero_add, Nat.reduceAdd, Nat.reduceSub, bne_self_eq_false, Int.reduceNeg, hl])]
  have i1 : Item (.tup [eQ p, eQ q, eP p, eP q]) := ⟨_, p, q, rfl, .qq p q, hp3, hq3⟩
  have i2 : Item (.tup [eQ p, eQ p, eP p, eP p]) := ⟨_, p, p, rfl, .qq p p, hp3, hp3⟩
  obtain ⟨S1, x1, hx1, l1, s1, r1⟩ := app1_ok (S := S ++ [.lst [.tup [eQ p, eQ q, eP p, eP q], .tup [eQ p, eQ p, eP p, eP p]]]) (c := c) hp3 hq3 (xs := [.tup [eQ p, eQ q, eP p, eP q], .tup [eQ p, eQ p, eP p, eP p]]) (by
    intro d hd
    simp only [List.mem_cons, List.not_mem_nil, or_false] at hd
    rcases hd with rfl | rfl
    · exact i1
    · exact i2) (by simp) (by rw [← hl]; simp)
  rw [seq_nx r1]
  have l1' : x1.length ≤ 3 := l1
  obtain ⟨S2, x2, hx2, l2, s2, r2⟩ := app2_ok (c := c) hp3 hq3 hx1 (by omega) s1
  rw [seq_nx r2]
  obtain ⟨o, r3⟩ := loop_ok hx2 s2 (some (.ref 0)) (some (eP p)) (some (eP q)) (some (.int c)) (some (eQ p)) (some (eQ q))
  rw [seq_nx r3]
  have t1 := single_ok (S := S2) hp3
  have t2 := single_ok (S := S2) hq3
  have t3 := powers_ok (S := S2) hp3
  have t4 := in_place_ok (S := S2) hp3 hq3
  refine ⟨S2, ?_⟩
  simp only [gc_same, gc_ext_bl, gc_ext_int, gc_ext_str, gc_ext_non, gc_exc_0, gc_x0, ev_seq, ev_asg, ev_asgG, ev_gnm, ev_gtup, ev_gtp0, ev_gtp1, ev_ret, ev_retn, ev_drop, ev_ifs, ev_next, ev_brk, ev_cnt, ev_c, ev_var, ev_bin, ev_un, ev_args0, ev_args1, ev_tup, ev_lst, ev_if, ev_and, ev_or, ev_not, ev_B, ev_tru, ev_asB, ev_notD, ev_tru_b, ev_tru_i, ev_tru_n, ev_tru_t, ev_andV, ev_orV, ev_andb, ev_orb, ev_call, ev_attr, ev_new, ev_seta, ev_meth, ev_bm, ev_aug, ev_sl, ev_pn, ev_ps, ev_asI, ev_for, ev_fori, ev_while, ev_ival, ev_it_t, ev_it_r, ev_def, ev_fnx, ev_frt, ev_fx, ev_int, ev_intb, ev_raise0, ev_isn, ev_isnn, opi_add, opi_sub, cmi_lt, cmi_le, cmi_gt, cmi_ge, cmi_eq, cmi_ne, cmb_eq, cmb_ne, cms_eq, cms_ne, negI, absI, ix_0, ix_1, ix_2, ix_3, len_tup, List.map_cons, List.map_nil, List.length_cons, List.length_nil, List.replicate, List.getElem?_cons_succ, List.getElem?_cons_zero, List.cons_append, List.nil_append, List.set_cons_succ, List.set_cons_zero, Res.bind_ok, Res.bind_exc, onR_ok, onR_exc, decide_true, decide_false, Bool.not_true, Bool.not_false, Bool.false_eq_true, if_true, if_false, Nat.sub_self, List.append_nil, List.append_assoc, Nat.add_one_sub_one, Nat.zero_add, Nat.reduceAdd, Nat.reduceSub, bne_self_eq_false, Int.reduceNeg, t1, t2, t3, t4, is_ok]
theorem law_ok (ns : List Int) : ∃ S', m_law [.rl (ns.map .int)] [] = .ok (.bl true) S' := by
  obtain ⟨ms, hms⟩ : ∃ ms : List Int, Bp.cutD (ns.map .int) none (some 63) = ms.map .int := ⟨(ns.drop (HT.sIx (ns.map D.int).length 0 none)).take (HT.sIx (ns.map D.int).length (ns.map D.int).length (some 63) - HT.sIx (ns.map D.int).length 0 none), by simp [Bp.cutD, List.map_take, List.map_drop]⟩
  have h0 : ([.lst (ms.map .int)] : Store)[0]? = some (.lst (ms.map .int)) := rfl
  obtain ⟨n0, l0, e0⟩ := num_ok h0 0 (by decide) (by decide)
  obtain ⟨d0, q0, m0, f0⟩ := den_ok h0 1 (by decide) (by decide)
  obtain ⟨n1, l1, e1⟩ := num_ok h0 2 (by decide) (by decide)
  obtain ⟨d1, q1, m1, f1⟩ := den_ok h0 3 (by decide) (by decide)
  have w0 := low_ok (S := [.lst (ms.map .int)]) (n := n0) (d := d0) (by omega) (by omega)
  have w1 := low_ok (S := [.lst (ms.map .int)]) (n := n1) (d := d1) (by omega) (by omega)
  have z0 : Sz 133 (Rat.divInt n0 d0) := Sz.divInt l0 m0
  have z1 : Sz 133 (Rat.divInt n1 d1) := Sz.divInt l1 m1
  obtain ⟨c, c1, c2, ec⟩ := cell_ok h0 4 (by decide) (by decide)
  have hm := opi_mod (T := T5) (S := [.lst (ms.map .int)]) (i := c) (j := 8) (by decide)
  have hb : ∃ S', b_law [some (.rl (ns.map .int)), none, none, none, none, none, none, none] [] = .rt (.bl true) S' := by
    have hsl : slD (.rl (ns.map .int)) none (some 63) [] = .ok (.ref 0) [.lst (ms.map .int)] := by rw [← hms]; rfl
    unfold b_law
    rw [seq_nx (e1 := [some (.ref 0), none, none, none, none, none, none, none]) (S1 := [.lst (ms.map .int)]) (by simp only [gc_same, gc_ext_bl, gc_ext_int, gc_ext_str, gc_ext_non, gc_exc_0, gc_x0, ev_seq, ev_asg, ev_asgG, ev_gnm, ev_gtup, ev_gtp0, ev_gtp1, ev_ret, ev_retn, ev_drop, ev_ifs, ev_next, ev_brk, ev_cnt, ev_c, ev_var, ev_bin, ev_un, ev_args0, ev_args1, ev_tup, ev_lst, ev_if, ev_and, ev_or, ev_not, ev_B, ev_tru, ev_asB, ev_notD, ev_tru_b, ev_tru_i, ev_tru_n, ev_tru_t, ev_andV, ev_orV, ev_andb, ev_orb, ev_call, ev_attr, ev_new, ev_seta, ev_meth, ev_bm, ev_aug, ev_sl, ev_pn, ev_ps, ev_asI, ev_for, ev_fori, ev_while, ev_ival, ev_it_t, ev_it_r, ev_def, ev_fnx, ev_frt, ev_fx, ev_int, ev_intb, ev_raise0, ev_isn, ev_isnn, opi_add, opi_sub, cmi_lt, cmi_le, cmi_gt, cmi_ge, cmi_eq, cmi_ne, cmb_eq, cmb_ne, cms_eq, cms_ne, negI, absI, ix_0, ix_1, ix_2, ix_3, len_tup, List.map_cons, List.map_nil, List.length_cons, List.length_nil, List.replicate, List.getElem?_cons_succ, List.getElem?_cons_zero, List.cons_append, List.nil_append, List.set_cons_succ, List.set_cons_zero, Res.bind_ok, Res.bind_exc, onR_ok, onR_exc, decide_true, decide_false, Bool.not_true, Bool.not_false, Bool.false_eq_true, if_true, if_false, Nat.sub_self, List.append_nil, List.append_assoc, Nat.add_one_sub_one, Nat.zero_add, Nat.reduceAdd, Nat.reduceSub, bne_self_eq_false, Int.reduceNeg, hsl])]
    rw [seq_nx (e1 := [some (.ref 0), some (eP (Rat.divInt n0 d0)), none, none, none, none, none, none]) (S1 := [.lst (ms.map .int)]) (by simp only [gc_same, gc_ext_bl, gc_ext_int, gc_ext_str, gc_ext_non, gc_exc_0, gc_x0, ev_seq, ev_asg, ev_asgG, ev_gnm, ev_gtup, ev_gtp0, ev_gtp1, ev_ret, ev_retn, ev_drop, ev_ifs, ev_next, ev_brk, ev_cnt, ev_c, ev_var, ev_bin, ev_un, ev_args0, ev_args1, ev_tup, ev_lst, ev_if, ev_and, ev_or, ev_not, ev_B, ev_tru, ev_asB, ev_notD, ev_tru_b, ev_tru_i, ev_tru_n, ev_tru_t, ev_andV, ev_orV, ev_andb, ev_orb, ev_call, ev_attr, ev_new, ev_seta, ev_meth, ev_bm, ev_aug, ev_sl, ev_pn, ev_ps, ev_asI, ev_for, ev_fori, ev_while, ev_ival, ev_it_t, ev_it_r, ev_def, ev_fnx, ev_frt, ev_fx, ev_int, ev_intb, ev_raise0, ev_isn, ev_isnn, opi_add, opi_sub, cmi_lt, cmi_le, cmi_gt, cmi_ge, cmi_eq, cmi_ne, cmb_eq, cmb_ne, cms_eq, cms_ne, negI, absI, ix_0, ix_1, ix_2, ix_3, len_tup, List.map_cons, List.map_nil, List.length_cons, List.length_nil, List.replicate, List.getElem?_cons_succ, List.getElem?_cons_zero, List.cons_append, List.nil_append, List.set_cons_succ, List.set_cons_zero, Res.bind_ok, Res.bind_exc, onR_ok, onR_exc, decide_true, decide_false, Bool.not_true, Bool.not_false, Bool.false_eq_true, if_true, if_false, Nat.sub_self, List.append_nil, List.append_assoc, Nat.add_one_sub_one, Nat.zero_add, Nat.reduceAdd, Nat.reduceSub, bne_self_eq_false, Int.reduceNeg, e0, f0, w0])]
    rw [seq_nx (e1 := [some (.ref 0), some (eP (Rat.divInt n0 d0)), some (eP (Rat.divInt n1 d1)), none, none, none, none, none]) (S1 := [.lst (ms.map .int)]) (by simp only [gc_same, gc_ext_bl, gc_ext_int, gc_ext_str, gc_ext_non, gc_exc_0, gc_x0, ev_seq, ev_asg, ev_asgG, ev_gnm, ev_gtup, ev_gtp0, ev_gtp1, ev_ret, ev_retn, ev_drop, ev_ifs, ev_next, ev_brk, ev_cnt, ev_c, ev_var, ev_bin, ev_un, ev_args0, ev_args1, ev_tup, ev_lst, ev_if, ev_and, ev_or, ev_not, ev_B, ev_tru, ev_asB, ev_notD, ev_tru_b, ev_tru_i, ev_tru_n, ev_tru_t, ev_andV, ev_orV, ev_andb, ev_orb, ev_call, ev_attr, ev_new, ev_seta, ev_meth, ev_bm, ev_aug, ev_sl, ev_pn, ev_ps, ev_asI, ev_for, ev_fori, ev_while, ev_ival, ev_it_t, ev_it_r, ev_def, ev_fnx, ev_frt, ev_fx, ev_int, ev_intb, ev_raise0, ev_isn, ev_isnn, opi_add, opi_sub, cmi_lt, cmi_le, cmi_gt, cmi_ge, cmi_eq, cmi_ne, cmb_eq, cmb_ne, cms_eq, cms_ne, negI, absI, ix_0, ix_1, ix_2, ix_3, len_tup, List.map_cons, List.map_nil, List.length_cons, List.length_nil, List.replicate, List.getElem?_cons_succ, List.getElem?_cons_zero, List.cons_append, List.nil_append, List.set_cons_succ, List.set_cons_zero, Res.bind_ok, Res.bind_exc, onR_ok, onR_exc, decide_true, decide_false, Bool.not_true, Bool.not_false, Bool.false_eq_true, if_true, if_false, Nat.sub_self, List.append_nil, List.append_assoc, Nat.add_one_sub_one, Nat.zero_add, Nat.reduceAdd, Nat.reduceSub, bne_self_eq_false, Int.reduceNeg, e1, f1, w1])]
    rw [seq_nx (e1 := [some (.ref 0), some (eP (Rat.divInt n0 d0)), some (eP (Rat.divInt n1 d1)), some (.int (c.fmod 8)), none, none, none, none]) (S1 := [.lst (ms.map .int)]) (by simp only [gc_same, gc_ext_bl, gc_ext_int, gc_ext_str, gc_ext_non, gc_exc_0, gc_x0, ev_seq, ev_asg, ev_asgG, ev_gnm, ev_gtup, ev_gtp0, ev_gtp1, ev_ret, ev_retn, ev_drop, ev_ifs, ev_next, ev_brk, ev_cnt, ev_c, ev_var, ev_bin, ev_un, ev_args0, ev_args1, ev_tup, ev_lst, ev_if, ev_and, ev_or, ev_not, ev_B, ev_tru, ev_asB, ev_notD, ev_tru_b, ev_tru_i, ev_tru_n, ev_tru_t, ev_andV, ev_orV, ev_andb, ev_orb, ev_call, ev_attr, ev_new, ev_seta, ev_meth, ev_bm, ev_aug, ev_sl, ev_pn, ev_ps, ev_asI, ev_for, ev_fori, ev_while, ev_ival, ev_it_t, ev_it_r, ev_def, ev_fnx, ev_frt, ev_fx, ev_int, ev_intb, ev_raise0, ev_isn, ev_isnn, opi_add, opi_sub, cmi_lt, cmi_le, cmi_gt, cmi_ge, cmi_eq, cmi_ne, cmb_eq, cmb_ne, cms_eq, cms_ne, negI, absI, ix_0, ix_1, ix_2, ix_3, len_tup, List.map_cons, List.map_nil, List.length_cons, List.length_nil, List.replicate, List.getElem?_cons_succ, List.getElem?_cons_zero, List.cons_append, List.nil_append, List.set_cons_succ, List.set_cons_zero, Res.bind_ok, Res.bind_exc, onR_ok, onR_exc, decide_true, decide_false, Bool.not_true, Bool.not_false, Bool.false_eq_true, if_true, if_false, Nat.sub_self, List.append_nil, List.append_assoc, Nat.add_one_sub_one, Nat.zero_add, Nat.reduceAdd, Nat.reduceSub, bne_self_eq_false, Int.reduceNeg, ec, hm])]
    obtain ⟨p', q', hp', hq', hr⟩ := rel_ok (S := [.lst (ms.map .int)]) z0 z1 (c.fmod 8) (some (.ref 0)) [none, none, none, none]
    rw [seq_nx hr]
    exact law_env rfl hp' hq' (c.fmod 8)
  obtain ⟨S', hb⟩ := hb
  obtain ⟨S2, hg⟩ := gc_bl (S := []) (S' := S') (b := true)
  refine ⟨S2, ?_⟩
  unfold m_law
  rw [ev_def]
  show gc [] (finD (b_law [some (.rl (ns.map .int)), none, none, none, none, none, none, none] [])) = _
  rw [hb, ev_frt, hg]
end
end Lw


set_option Elab.async false
set_option linter.all false
set_option maxRecDepth 100000
set_option maxHeartbeats 0
namespace Lw
open PySem L2 PyProof.Rows He Bp
abbrev R : PySem.W.OpenRow := PySem.W.OpenLaw.row PySem.Challenge.rw_bestpapers_k01_fraction_operators
abbrev hk : PySem.W.Hook := hookB 5 ck fns
def ob (s : PySem.W.SharedT) : AlB := obsBG 5 ck fns (HandSHeadRun.getT s)
theorem ob_eq (s : PySem.W.SharedT) : ob s = hk.obs s.abs := obsBG_eq (HandSHeadRun.getT_eq s)
abbrev loose : List Str := ["gcd", "BestError", "DivisionByZero", "BadNumber", "Frac", "is_figures", "_law_cell", "_law_gcd", "_law_low", "_law_add", "_law_mul", "_law_floor", "_law_great", "_law_numerator", "_law_denominator", "_law_made", "_law_integer", "_law_truth", "_law_is", "_law_refused", "_law_operators", "_law_over", "_law_orders", "_law_powers", "_law_single", "_law_in_place", "_law_made_plain"]
theorem run (w : World) : HandSHeadRun.RunEqI R (PySem.W.view R.prog [30]) hk ob 3000 loose w := by
  unfold HandSHeadRun.RunEqI
  kernel_rfl
end Lw


set_option Elab.async false
set_option linter.all false
set_option maxRecDepth 100000
set_option maxHeartbeats 0
namespace Lw
open PySem L2 PyProof.Rows He Bp
theorem pure_law (ns : List Int) (hl : ns.length ≤ 63) : ∃ S', m_law [.rl (ns.map .int)] [] = .ok (.bl true) S' := law_ok ns
theorem repL_ints {G : Gs} {W : Wd} : ∀ (ns : List Int), RepL G W (ns.map D.int) (ns.map V.int)
  | [] => .nil
  | n :: ns => .cons (.int n) (repL_ints ns)
theorem sp_law {K : PySem.W.Frag} {mg : Str → Option Value} {H : Hp} {a : Addr} {ns : List Int} (hl : ns.length ≤ 63) (hS : SqL K H a (ns.map V.int)) : spM ⟨K, mg, tn, none⟩ 1 m_law [.ref a] H (fun v _ => v = .bl true) fun _ _ _ => False := by
  obtain ⟨S', e⟩ := pure_law ns hl
  refine ⟨rfl, ⟨H, [], []⟩, [.rl (ns.map .int)], [], ⟨fun _ _ h => h, rfl, List.nodup_nil, fun _ h => (by cases h), fun n a o h => (by simp at h)⟩, .cons (.rl _ _ a hS (repL_ints ns)) .nil, ?_⟩
  rw [e]
  intro W' v H' _ _ r
  cases r
  rfl
end Lw
open PySem PySem.W PySem.Calls PyProof.Rows
namespace Lw
abbrev Q0 : Program := view R.prog [30]
abbrev D0 : DefRec := HandSHeadRun.topDef R.prog 30
theorem a_def : defOf Q0 R.name = some (D0, []) := by kernel_rfl
theorem a_p : R.prog.theDef R.name = some (D0.params, D0.body, D0.scope) := by kernel_rfl
theorem a_k : kwWritten? D0.params.kwonlyargs D0.params.kw_defaults = some [] := by kernel_rfl
theorem a_wr : (!R.writes || R.records.isEmpty) = true := by rfl
theorem a_k1 : R.wellSaid = true := by decide +kernel
theorem a_hb : R.prog.bare := ⟨rfl, rfl, rfl, rfl, rfl, by decide +kernel⟩
theorem a_ok1 : chainsOk Q0 = true := by decide +kernel
theorem a_ok2 : opensWell R.prog = true := by decide +kernel
theorem a_ok3 : (frees R.toRowW && R.within.isEmpty) = true := by decide +kernel
theorem a_ok : (chainsOk Q0 && opensWell R.prog && (frees R.toRowW && R.within.isEmpty)) = true := by rw [a_ok1, a_ok2, a_ok3]; rfl
end Lw


set_option Elab.async false
set_option linter.all false
set_option maxRecDepth 100000
set_option maxHeartbeats 0
open PySem PySem.W PySem.Calls PyProof.Rows
theorem Lw.a_call : WalkO Lw.Q0 Lw.loose (XL Lw.Q0 []) Lw.hk.says Lw.R.toRowW Lw.D0 [] fun f vs => PySem.call f vs := by
  refine Bp.walk_own (l := PySem.Challenge.rw_bestpapers_k01_fraction_operators) (n := 63) (k := 26) (x := "_law_script") rfl (by decide) (by kernel_rfl) ⟨rfl, by decide, by decide⟩ ?_
  intro w mg fa h Y G hmg0
  obtain ⟨K, KX, c⟩ := Y
  have hmg : mg ("law" : PySem.Str) = some (.ref fa) := by
    have e : Lw.D0.name = ("law" : PySem.Str) := by kernel_rfl
    rw [← e]
    exact hmg0
  have hfa : fa = He.ga K "law" := Bp.ga_uniq (Lw.gn KX G c.ck).g_law hmg
  subst hfa
  obtain ⟨fd, D, _⟩ := Lw.all_ok (P := PySem.Challenge.rw_bestpapers_k01_fraction_operators.prog) (w := w) (base := h) KX G c
  have b := L2.FunD.bindsA (ps := ["_law_script"]) D fun _ _ _ _ _ _ us hl => match us, hl with | [_], _ => rfl
  refine ⟨K, fd, Bp.spM ⟨K, mg, Lw.tn, none⟩ 1 Lw.m_law, KX, fun s v => b s [v] rfl, fun H a ns hl _ hS => Lw.sp_law hl hS, fun base hb hg => ?_⟩
  obtain ⟨fd2, D2, F⟩ := Lw.all_ok (P := PySem.Challenge.rw_bestpapers_k01_fraction_operators.prog) (w := w) (base := base) KX G c
  have e : fd2 = fd := by
    obtain ⟨_, _, _, _, _, _, _, _, _, _, e1, l1, _⟩ := D.ex
    obtain ⟨_, _, _, _, _, _, _, _, _, _, e2, l2, _⟩ := D2.ex
    have z := l1.symm.trans l2
    simp only [Option.some.injEq, PySem.Obj.mk.injEq] at z
    injection z.2.2.1 with z2
    exact z2.symm
  rw [← e]
  exact F
theorem PySem.Challenge.cw_bestpapers_k01_fraction_operators_holds : PySem.Challenge.rw_bestpapers_k01_fraction_operators.Holds := by
  w_on; o_law
  refine HandSHeadRun.head_imp (r := Lw.R) (q := Lw.Q0) (H := Lw.hk) (ob := Lw.ob) (M := 3000) (loose := Lw.loose) (d := Lw.D0) (kwd := []) Lw.ob_eq Lw.run Lw.a_def Lw.a_p Lw.a_k Lw.a_wr Lw.a_k1 Lw.a_ok Lw.a_hb ?hw Lw.a_call
  case hw => w_witness2

