import PyProof.Rows.All
import Wide.All
import OpenK.AllK
import Wide.FinOn
import PySem.Challenge.RW_pb0165_01
set_option Elab.async false
set_option linter.unusedVariables false
set_option linter.unusedSimpArgs false
set_option maxRecDepth 100000
section
open PySem PySem.W PyProof.Rows
namespace Mine

abbrev FH := Addr → Option Obj
def FH.le (g g' : FH) : Prop := ∀ b o, g b = some o → g' b = some o
def FH.In (g : FH) (h : Heap) : Prop := ∀ b o, g b = some o → h.get? b = some o
theorem FH.le.rfl {g : FH} : g.le g := fun _ _ e => e
theorem FH.le.trans {g g' g'' : FH} (a : g.le g') (b : g'.le g'') : g.le g'' := fun c o e => b c o (a c o e)

inductive AV where
  | none
  | bool (b : Bool)
  | int (i : Int)
  | str (s : Str)
  | list (xs : List AV)
  | llist (xs : List AV)
  | tup (xs : List AV)
  | dict (kvs : List (Str × AV))
  | obj (C : Addr) (fs : List (Str × AV))
  | range (n : Int)
  | iset (l : List Nat)
  | val (v : Value)

/-- the table of a set of small numbers -/
def tabOf (led : Bool) (l : List Nat) : SetTable := { mask := if l.length < 5 then 7 else 31, place := l.toArray, dummies := #[], finger := 0, led := led, moves := if l.length < 5 then 0 else 1, plain := true }
/-- the entries of a set of small numbers -/
inductive ElI : List (Int × Value) → List Nat → Prop
  | nil : ElI [] []
  | cons (k : Nat) (t : Tok) {es : List (Int × Value)} {l : List Nat} (h : ElI es l) : ElI (((k : Int), Value.int (k : Int) t) :: es) (k :: l)
/-- a set object of small numbers, rising -/
def ISet (w : World) (o : Obj) (l : List Nat) : Prop := o.ExactSet ∧ ∃ es ep, o.data = .set es ep (tabOf (!w.params.followText "set-order") l) ∧ ElI es.toList l

def DObj {prog : Program} {w : World} {K : Type} [DecidableEq K] (knd : KeyKind prog w K) (o : Obj) (kvv : List (K × Value)) : Prop :=
  o.ExactDict ∧ ∃ es ep, o.data = .dict es ep ∧ KeysOf knd es ∧ Pairs knd es.toList kvv ∧ (kvv.map (·.1)).Nodup

variable (prog : Program) (w : World)

mutual
inductive Rep (g : FH) : Value → AV → Prop
  | none : Rep g .none .none
  | bool (b : Bool) : Rep g (.bool b) (.bool b)
  | int (i : Int) (t : Tok) : Rep g (.int i t) (.int i)
  | str (s : Str) (t : Tok) : Rep g (.str s t) (.str s)
  | list {a : Addr} {its : Array Value} {n : Nat} {xs : List AV} (h1 : g a = some { cls := .type "list", dict := none, data := .seq its n, slots := #[] }) (h4 : Reps g its.toList xs) : Rep g (.ref a) (.list xs)
  | llist {a : Addr} {o : Obj} {its : Array Value} {n : Nat} {xs : List AV} (h1 : g a = some o) (h2 : o.cls = .type "list") (h3 : o.data = .seq its n) (h4 : Reps g its.toList xs) : Rep g (.ref a) (.llist xs)
  | range {a : Addr} {n : Int} {t u v : Tok} (h1 : g a = some { cls := .type "range", dict := none, data := .fields #[.int 0 t, .int n u, .int 1 v], slots := #[] }) : Rep g (.ref a) (.range n)
  | iset {a : Addr} {o : Obj} {l : List Nat} (h1 : g a = some o) (h2 : ISet w o l) : Rep g (.ref a) (.iset l)
  | tup {a : Addr} {o : Obj} {its : Array Value} {n : Nat} {xs : List AV} (h1 : g a = some o) (h2 : o.cls = .type "tuple") (h3 : o.data = .seq its n) (h4 : Reps g its.toList xs) : Rep g (.ref a) (.tup xs)
  | dict {a : Addr} {o : Obj} {kvv : List (Str × Value)} {kvs : List (Str × AV)} (h1 : g a = some o) (h2 : DObj (strKind prog w) o kvv) (h3 : (a == sysModules) = false) (h4 : RepsD g kvv kvs) : Rep g (.ref a) (.dict kvs)
  | obj {x d C : Addr} {es : List DictEntry} {n : Nat} {fs : List (Str × AV)} (h1 : g x = some (instObj C d)) (h2 : g d = some (PySem.W.dictOf es n)) (h3 : RepsE g es fs) : Rep g (.ref x) (.obj C fs)
  | val (v : Value) : Rep g v (.val v)
inductive Reps (g : FH) : List Value → List AV → Prop
  | nil : Reps g [] []
  | cons {v : Value} {α : AV} {vs : List Value} {αs : List AV} (h1 : Rep g v α) (h2 : Reps g vs αs) : Reps g (v :: vs) (α :: αs)
inductive RepsD (g : FH) : List (Str × Value) → List (Str × AV) → Prop
  | nil : RepsD g [] []
  | cons {k : Str} {v : Value} {α : AV} {vs : List (Str × Value)} {αs : List (Str × AV)} (h1 : Rep g v α) (h2 : RepsD g vs αs) : RepsD g ((k, v) :: vs) ((k, α) :: αs)
inductive RepsE (g : FH) : List DictEntry → List (Str × AV) → Prop
  | nil : RepsE g [] []
  | cons {k : Str} {hsh : Int} {t : Tok} {v : Value} {α : AV} {vs : List DictEntry} {αs : List (Str × AV)} (h1 : Rep g v α) (h2 : RepsE g vs αs) : RepsE g (⟨hsh, .str k t, v⟩ :: vs) ((k, α) :: αs)
end

variable {prog : Program} {w : World}
mutual
theorem Rep.mono {g g' : FH} (hg : g.le g') : ∀ {v : Value} {α : AV}, Rep prog w g v α → Rep prog w g' v α
  | _, _, .none => .none
  | _, _, .bool b => .bool b
  | _, _, .int i t => .int i t
  | _, _, .str s t => .str s t
  | _, _, .list h1 h4 => .list (hg _ _ h1) (Reps.mono hg h4)
  | _, _, .llist h1 h2 h3 h4 => .llist (hg _ _ h1) h2 h3 (Reps.mono hg h4)
  | _, _, .range h1 => .range (hg _ _ h1)
  | _, _, .iset h1 h2 => .iset (hg _ _ h1) h2
  | _, _, .tup h1 h2 h3 h4 => .tup (hg _ _ h1) h2 h3 (Reps.mono hg h4)
  | _, _, .dict h1 h2 h3 h4 => .dict (hg _ _ h1) h2 h3 (RepsD.mono hg h4)
  | _, _, .obj h1 h2 h3 => .obj (hg _ _ h1) (hg _ _ h2) (RepsE.mono hg h3)
  | _, _, .val v => .val v
theorem Reps.mono {g g' : FH} (hg : g.le g') : ∀ {vs : List Value} {αs : List AV}, Reps prog w g vs αs → Reps prog w g' vs αs
  | _, _, .nil => .nil
  | _, _, .cons h1 h2 => .cons (Rep.mono hg h1) (Reps.mono hg h2)
theorem RepsD.mono {g g' : FH} (hg : g.le g') : ∀ {vs : List (Str × Value)} {αs : List (Str × AV)}, RepsD prog w g vs αs → RepsD prog w g' vs αs
  | _, _, .nil => .nil
  | _, _, .cons h1 h2 => .cons (Rep.mono hg h1) (RepsD.mono hg h2)
theorem RepsE.mono {g g' : FH} (hg : g.le g') : ∀ {vs : List DictEntry} {αs : List (Str × AV)}, RepsE prog w g vs αs → RepsE prog w g' vs αs
  | _, _, .nil => .nil
  | _, _, .cons h1 h2 => .cons (Rep.mono hg h1) (RepsE.mono hg h2)
end

inductive RepsK (g : FH) {K : Type} : List (K × Value) → List (K × AV) → Prop
  | nil : RepsK g [] []
  | cons {k : K} {v : Value} {α : AV} {vs : List (K × Value)} {αs : List (K × AV)} (h1 : Rep prog w g v α) (h2 : RepsK g vs αs) : RepsK g ((k, v) :: vs) ((k, α) :: αs)
theorem RepsK.mono {g g' : FH} (hg : g.le g') {K : Type} : ∀ {vs : List (K × Value)} {αs : List (K × AV)}, RepsK (prog := prog) (w := w) g vs αs → RepsK (prog := prog) (w := w) g' vs αs
  | _, _, .nil => .nil
  | _, _, .cons h1 h2 => .cons (h1.mono hg) (RepsK.mono hg h2)

inductive MO where
  | list (xs : List AV)
  | loose (xs : List AV)
  | ns (m : List (Str × AV))
  | cell (v : Option AV)
  | dictS (kvs : List (Str × AV))
  | dictI (kvs : List (Int × AV))
  | inst (C d : Addr)
  | attrs (fs : List (Str × AV))
abbrev Mu := List (Addr × MO)

variable (prog w) in
def MRep (g : FH) (h : Heap) (a : Addr) : MO → Prop
  | .list xs => ∃ its, h.PlainList a its ∧ Reps prog w g its.toList xs
  | .loose xs => ∃ its, h.IsList a its ∧ Reps prog w g its.toList xs
  | .ns m => ∃ f, h.Ns a f ∧ ∀ x α, m.lookup x = some α → ∃ v, f x = some v ∧ Rep prog w g v α
  | .cell none => h.IsCell a none
  | .cell (some α) => ∃ v, h.IsCell a (some v) ∧ Rep prog w g v α
  | .dictS kvs => ∃ kvv, h.DictOf (strKind prog w) a kvv ∧ RepsD prog w g kvv kvs ∧ (a == sysModules) = false
  | .dictI kvs => ∃ kvv, h.DictOf (intKind prog w) a kvv ∧ RepsK (prog := prog) (w := w) g kvv kvs ∧ (a == sysModules) = false
  | .inst C d => h.get? a = some (instObj C d)
  | .attrs fs => ∃ es n, h.get? a = some (PySem.W.dictOf es n) ∧ RepsE prog w g es fs

theorem MRep.live {g : FH} {h : Heap} {a : Addr} : ∀ {mo : MO}, MRep prog w g h a mo → ∃ o, h.get? a = some o
  | .list _, ⟨_, ⟨n, ho⟩, _⟩ => ⟨_, ho⟩
  | .loose _, ⟨_, ⟨o, ho, _⟩, _⟩ => ⟨o, ho⟩
  | .ns _, ⟨_, ⟨o, _, _, ho, _⟩, _⟩ => ⟨o, ho⟩
  | .cell none, ⟨o, ho, _⟩ => ⟨o, ho⟩
  | .cell (some _), ⟨_, ⟨o, ho, _⟩, _⟩ => ⟨o, ho⟩
  | .dictS _, ⟨_, ⟨o, _, _, ho, _⟩, _⟩ => ⟨o, ho⟩
  | .dictI _, ⟨_, ⟨o, _, _, ho, _⟩, _⟩ => ⟨o, ho⟩
  | .inst _ _, ho => ⟨_, ho⟩
  | .attrs _, ⟨_, _, ho, _⟩ => ⟨_, ho⟩

theorem MRep.mono {g g' : FH} (hg : g.le g') {h h' : Heap} {a : Addr} (he : ∀ o, h.get? a = some o → h'.get? a = some o) : ∀ {mo : MO}, MRep prog w g h a mo → MRep prog w g' h' a mo
  | .list _, ⟨its, ⟨n, ho⟩, h2⟩ => ⟨its, ⟨n, he _ ho⟩, h2.mono hg⟩
  | .loose _, ⟨its, ⟨o, ho, r⟩, h2⟩ => ⟨its, ⟨o, he _ ho, r⟩, h2.mono hg⟩
  | .ns _, ⟨f, ⟨o, es, ep, ho, r⟩, h2⟩ => ⟨f, ⟨o, es, ep, he _ ho, r⟩, fun x α e => let ⟨v, h3, h4⟩ := h2 x α e; ⟨v, h3, h4.mono hg⟩⟩
  | .cell none, ⟨o, ho, r⟩ => ⟨o, he _ ho, r⟩
  | .cell (some _), ⟨v, ⟨o, ho, r⟩, h2⟩ => ⟨v, ⟨o, he _ ho, r⟩, h2.mono hg⟩
  | .dictS _, ⟨k, ⟨o, es, ep, ho, r⟩, h2, h3⟩ => ⟨k, ⟨o, es, ep, he _ ho, r⟩, h2.mono hg, h3⟩
  | .dictI _, ⟨k, ⟨o, es, ep, ho, r⟩, h2, h3⟩ => ⟨k, ⟨o, es, ep, he _ ho, r⟩, h2.mono hg, h3⟩
  | .inst _ _, ho => he _ ho
  | .attrs _, ⟨es, n, ho, h2⟩ => ⟨es, n, he _ ho, h2.mono hg⟩

def Mu.ads (mu : Mu) : List Addr := mu.map (·.1)

variable (prog w) in
structure St (g : FH) (mu : Mu) (h : Heap) : Prop where
  sub : g.In h
  off : ∀ a ∈ mu.ads, g a = none
  nd : mu.ads.Nodup
  is : ∀ p ∈ mu, MRep prog w g h p.1 p.2

variable (prog w) in
structure Ends (g : FH) (mu : Mu) (s : Shared) (g' : FH) (mu' : Mu) (s' : Shared) : Prop where
  st : St prog w g' mu' s'.heap
  le : g.le g'
  same : ∃ h t, s' = { s with heap := h, toks := t }
  keep : ∀ b o, b ∉ mu.ads → s.heap.get? b = some o → s'.heap.get? b = some o
  new : ∀ a ∈ mu'.ads, a ∈ mu.ads ∨ s.heap.get? a = none
  newg : ∀ b o, g' b = some o → g b = some o ∨ b ∈ mu.ads ∨ s.heap.get? b = none

theorem St.live {g : FH} {mu : Mu} {h : Heap} (S : St prog w g mu h) {a : Addr} (ha : a ∈ mu.ads) : ∃ o, h.get? a = some o := by
  obtain ⟨p, hp, rfl⟩ := List.mem_map.mp ha
  exact (S.is p hp).live

theorem Ends.refl {g : FH} {mu : Mu} {s : Shared} (S : St prog w g mu s.heap) : Ends prog w g mu s g mu s :=
  ⟨S, FH.le.rfl, ⟨s.heap, s.toks, rfl⟩, fun _ _ _ e => e, fun _ ha => .inl ha, fun _ _ e => .inl e⟩
theorem Ends.toks {g : FH} {mu : Mu} {s : Shared} {t : Nat} (S : St prog w g mu s.heap) : Ends prog w g mu s g mu { s with toks := t } :=
  ⟨S, FH.le.rfl, ⟨s.heap, t, rfl⟩, fun _ _ _ e => e, fun _ ha => .inl ha, fun _ _ e => .inl e⟩

theorem Ends.trans {g₁ g₂ g₃ : FH} {mu₁ mu₂ mu₃ : Mu} {s₁ s₂ s₃ : Shared} (x : Ends prog w g₁ mu₁ s₁ g₂ mu₂ s₂) (y : Ends prog w g₂ mu₂ s₂ g₃ mu₃ s₃) : Ends prog w g₁ mu₁ s₁ g₃ mu₃ s₃ := by
  have back : ∀ b, s₂.heap.get? b = none → b ∈ mu₁.ads ∨ s₁.heap.get? b = none := fun b hb => by
    by_cases hm : b ∈ mu₁.ads
    · exact .inl hm
    · refine .inr ?_
      cases e : s₁.heap.get? b with
      | none => rfl
      | some o => rw [x.keep b o hm e] at hb; cases hb
  refine ⟨y.st, x.le.trans y.le, ?_, fun b o hb e => ?_, fun a ha => ?_, fun b o e => ?_⟩
  · obtain ⟨h, t, rfl⟩ := x.same
    obtain ⟨h', t', rfl⟩ := y.same
    exact ⟨h', t', rfl⟩
  · have e2 := x.keep b o hb e
    refine y.keep b o (fun hm => ?_) e2
    rcases x.new b hm with h | h
    · exact hb h
    · rw [h] at e; cases e
  · rcases y.new a ha with h | h
    · exact x.new a h
    · exact back a h
  · rcases y.newg b o e with h | h | h
    · exact x.newg b o h
    · exact .inr (x.new b h)
    · exact .inr (back b h)

/-- frame -/
theorem Ends.frame {g g' : FH} {mu mu' R : Mu} {s s' : Shared} (S : St prog w g (mu ++ R) s.heap) (x : Ends prog w g mu s g' mu' s') : Ends prog w g (mu ++ R) s g' (mu' ++ R) s' := by
  have ads : ∀ (a b : Mu), (a ++ b).ads = a.ads ++ b.ads := fun a b => List.map_append
  have nd := S.nd
  rw [ads] at nd
  obtain ⟨nd1, nd2, nd3⟩ := List.nodup_append.mp nd
  have sep : ∀ a ∈ R.ads, a ∉ mu.ads := fun a ha hm => nd3 a hm a ha rfl
  have live : ∀ a ∈ R.ads, ∃ o, s.heap.get? a = some o := fun a ha => S.live (by rw [ads]; exact List.mem_append_right _ ha)
  have keepR : ∀ a ∈ R.ads, ∀ o, s.heap.get? a = some o → s'.heap.get? a = some o := fun a ha o e => x.keep a o (sep a ha) e
  refine ⟨⟨x.st.sub, fun a ha => ?_, ?_, fun p hp => ?_⟩, x.le, x.same, fun b o hb e => x.keep b o (fun hm => hb (by rw [ads]; exact List.mem_append_left _ hm)) e, fun a ha => ?_, fun b o e => ?_⟩
  · rw [ads] at ha
    rcases List.mem_append.mp ha with ha | ha
    · exact x.st.off a ha
    · cases e : g' a with
      | none => rfl
      | some o =>
        rcases x.newg a o e with h | h | h
        · rw [S.off a (by rw [ads]; exact List.mem_append_right _ ha)] at h; cases h
        · exact absurd h (sep a ha)
        · obtain ⟨o', ho⟩ := live a ha
          rw [h] at ho; cases ho
  · rw [ads]
    refine List.nodup_append.mpr ⟨x.st.nd, nd2, fun a ha b hb e => ?_⟩
    subst e
    rcases x.new a ha with h | h
    · exact sep a hb h
    · obtain ⟨o', ho⟩ := live a hb
      rw [h] at ho; cases ho
  · rcases List.mem_append.mp hp with hp | hp
    · exact x.st.is p hp
    · exact (S.is p (List.mem_append_right _ hp)).mono x.le (keepR p.1 (List.mem_map_of_mem hp))
  · rw [ads] at ha ⊢
    rcases List.mem_append.mp ha with ha | ha
    · rcases x.new a ha with h | h
      · exact .inl (List.mem_append_left _ h)
      · exact .inr h
    · exact .inl (List.mem_append_right _ ha)
  · rcases x.newg b o e with h | h | h
    · exact .inl h
    · exact .inr (.inl (by rw [ads]; exact List.mem_append_left _ h))
    · exact .inr (.inr h)

theorem St.perm {g : FH} {mu mu' : Mu} {h : Heap} (S : St prog w g mu h) (p : mu.Perm mu') : St prog w g mu' h :=
  ⟨S.sub, fun a ha => S.off a ((p.map (·.1)).mem_iff.mpr ha), (List.Perm.nodup_iff (p.map (Prod.fst (α := Addr) (β := MO)))).mp S.nd, fun q hq => S.is q (p.mem_iff.mpr hq)⟩
theorem Ends.perm {g g' : FH} {mu mu₂ mu' mu₂' : Mu} {s s' : Shared} (x : Ends prog w g mu s g' mu' s') (p : mu.Perm mu₂) (p' : mu'.Perm mu₂') : Ends prog w g mu₂ s g' mu₂' s' := by
  have m1 : ∀ a, a ∈ mu.ads ↔ a ∈ mu₂.ads := fun a => (p.map (·.1)).mem_iff
  have m2 : ∀ a, a ∈ mu'.ads ↔ a ∈ mu₂'.ads := fun a => (p'.map (·.1)).mem_iff
  exact ⟨x.st.perm p', x.le, x.same, fun b o hb e => x.keep b o (fun h => hb ((m1 b).mp h)) e, fun a ha => (x.new a ((m2 a).mpr ha)).imp (m1 a).mp id, fun b o e => (x.newg b o e).imp id (Or.imp (m1 b).mp id)⟩
/-- drop the head entries -/
theorem Ends.drop {g g' : FH} {mu mu' d : Mu} {s s' : Shared} (x : Ends prog w g mu s g' (d ++ mu') s') : Ends prog w g mu s g' mu' s' := by
  have ads : (d ++ mu').ads = d.ads ++ mu'.ads := List.map_append
  have nd := x.st.nd
  rw [ads] at nd
  exact ⟨⟨x.st.sub, fun a ha => x.st.off a (by rw [ads]; exact List.mem_append_right _ ha), (List.nodup_append.mp nd).2.1, fun p hp => x.st.is p (List.mem_append_right _ hp)⟩, x.le, x.same, x.keep,
    fun a ha => x.new a (by rw [ads]; exact List.mem_append_right _ ha), x.newg⟩

theorem ads_set {mu : Mu} {i : Nat} {a : Addr} {mo mo' : MO} (hi : mu[i]? = some (a, mo)) : Mu.ads (mu.set i (a, mo')) = mu.ads := by
  unfold Mu.ads
  rw [List.map_set]
  apply List.ext_getElem?
  intro j
  rw [List.getElem?_set]
  split
  · rename_i h; subst h
    split
    · simp [hi]
    · rename_i h; rw [List.getElem?_eq_none (by simpa using h)]
  · rfl

/-- one entry is changed -/
theorem Ends.upd {g : FH} {mu : Mu} {s : Shared} {h' : Heap} {t : Nat} {i : Nat} {a : Addr} {mo mo' : MO} (S : St prog w g mu s.heap) (hi : mu[i]? = some (a, mo))
    (hx : ∀ b o, b ≠ a → s.heap.get? b = some o → h'.get? b = some o) (hm : MRep prog w g h' a mo') : Ends prog w g mu s g (mu.set i (a, mo')) { s with heap := h', toks := t } := by
  have hin : a ∈ mu.ads := List.mem_map.mpr ⟨_, List.mem_of_getElem? hi, rfl⟩
  have ads := ads_set (mo' := mo') hi
  refine ⟨⟨fun b o e => hx b o (fun q => ?_) (S.sub b o e), fun b hb => S.off b (ads ▸ hb), ads ▸ S.nd, fun p hp => ?_⟩, FH.le.rfl, ⟨_, _, rfl⟩, fun b o hb e => hx b o (fun q => hb (q ▸ hin)) e, fun b hb => .inl (ads ▸ hb), fun b o e => .inl e⟩
  · rw [q, S.off a hin] at e; cases e
  · obtain ⟨j, hj, rfl⟩ := List.getElem_of_mem hp
    rw [List.getElem_set]
    split
    · exact hm
    · rename_i hne
      have hj' : j < mu.length := by simpa using hj
      have hji : mu[j] ∈ mu := List.getElem_mem hj'
      refine (S.is _ hji).mono FH.le.rfl fun o e => hx _ _ (fun q => ?_) e
      have hil : i < mu.length := (List.getElem?_eq_some_iff.mp hi).1
      have hie : mu[i] = (a, mo) := (List.getElem?_eq_some_iff.mp hi).2
      have e1 : mu.ads[i]'(by unfold Mu.ads; simpa using hil) = a := by unfold Mu.ads; simp [hie]
      have e2 : mu.ads[j]'(by unfold Mu.ads; simpa using hj') = a := by unfold Mu.ads; simpa using q
      have hp := List.pairwise_iff_getElem.mp S.nd
      rcases Nat.lt_or_gt_of_ne hne with h | h
      · exact hp i j _ _ h (e1.trans e2.symm)
      · exact hp j i _ _ h (e2.trans e1.symm)

/-- everything that lives is kept, new mutable objects come, new frozen ones too -/
theorem Ends.grow {g g' : FH} {mu new : Mu} {s : Shared} {h' : Heap} {t : Nat} (S : St prog w g mu s.heap) (hk : ∀ b o, s.heap.get? b = some o → h'.get? b = some o)
    (hg : g.le g') (hin : ∀ b o, g' b = some o → g b = some o ∨ (s.heap.get? b = none ∧ b ∉ new.ads ∧ h'.get? b = some o))
    (hn : ∀ a ∈ new.ads, s.heap.get? a = none) (hnd : new.ads.Nodup) (hm : ∀ p ∈ new, MRep prog w g' h' p.1 p.2) : Ends prog w g mu s g' (new ++ mu) { s with heap := h', toks := t } := by
  have ads : (new ++ mu).ads = new.ads ++ mu.ads := List.map_append
  have ge : ∀ a, s.heap.get? a = none → g a = none := fun a ha => by
    cases e : g a with
    | none => rfl
    | some o => rw [S.sub a o e] at ha; cases ha
  refine ⟨⟨fun b o e => ?_, fun a ha => ?_, ?_, fun p hp => ?_⟩, hg, ⟨_, _, rfl⟩, fun b o _ e => hk b o e, fun a ha => ?_, fun b o e => (hin b o e).imp id fun h => .inr h.1⟩
  · rcases hin b o e with h | h
    · exact hk b o (S.sub b o h)
    · exact h.2.2
  · rw [ads] at ha
    cases e : g' a with
    | none => rfl
    | some o =>
      rcases List.mem_append.mp ha with ha | ha
      · rcases hin a o e with h | h
        · rw [ge a (hn a ha)] at h; cases h
        · exact absurd ha h.2.1
      · rcases hin a o e with h | h
        · rw [S.off a ha] at h; cases h
        · obtain ⟨o', ho⟩ := S.live ha
          rw [h.1] at ho; cases ho
  · rw [ads]
    refine List.nodup_append.mpr ⟨hnd, S.nd, fun a ha b hb e => ?_⟩
    subst e
    obtain ⟨o', ho⟩ := S.live hb
    rw [hn a ha] at ho; cases ho
  · rcases List.mem_append.mp hp with hp | hp
    · exact hm p hp
    · exact (S.is p hp).mono hg fun o e => hk _ _ e
  · rw [ads] at ha
    rcases List.mem_append.mp ha with ha | ha
    · exact .inr (hn a ha)
    · exact .inl ha

/-- the heap grows, nothing is said of what is new -/
theorem Ends.grow0 {g : FH} {mu : Mu} {s : Shared} {h' : Heap} {t : Nat} (S : St prog w g mu s.heap) (hk : ∀ b o, s.heap.get? b = some o → h'.get? b = some o) : Ends prog w g mu s g mu { s with heap := h', toks := t } :=
  Ends.grow (new := []) S hk FH.le.rfl (fun _ _ e => .inl e) (fun _ ha => nomatch ha) List.nodup_nil (fun _ hp => nomatch hp)

def FH.add (g : FH) (a : Addr) (o : Obj) : FH := fun b => if b = a then some o else g b
theorem FH.add_self (g : FH) (a : Addr) (o : Obj) : g.add a o a = some o := by simp [FH.add]
theorem FH.le_add {g : FH} {a : Addr} {o : Obj} (h : g a = none) : g.le (g.add a o) := fun b o' e => by
  unfold FH.add; split
  · rename_i q; rw [q, h] at e; cases e
  · exact e
theorem FH.of_add {g : FH} {a b : Addr} {o o' : Obj} (e : g.add a o b = some o') : g b = some o' ∨ (b = a ∧ o' = o) := by
  unfold FH.add at e; split at e
  · rename_i q; exact .inr ⟨q, (Option.some.inj e).symm⟩
  · exact .inl e

/-- a mutable object becomes frozen -/
theorem Ends.freeze {g : FH} {mu : Mu} {s : Shared} {a : Addr} {mo : MO} {o : Obj} (S : St prog w g ((a, mo) :: mu) s.heap) (ho : s.heap.get? a = some o) :
    Ends prog w g ((a, mo) :: mu) s (g.add a o) mu s := by
  have hg : g a = none := S.off a (List.mem_cons_self ..)
  have hl := FH.le_add (o := o) hg
  have nd : a ∉ mu.ads ∧ mu.ads.Nodup := List.nodup_cons.mp S.nd
  refine ⟨⟨fun b o' e => ?_, fun b hb => ?_, nd.2, fun p hp => (S.is p (.tail _ hp)).mono hl fun _ e => e⟩, hl, ⟨s.heap, s.toks, rfl⟩, fun _ _ _ e => e, fun b hb => .inl (.tail _ hb), fun b o' e => ?_⟩
  · rcases FH.of_add e with h | ⟨rfl, rfl⟩
    · exact S.sub _ _ h
    · exact ho
  · unfold FH.add; split
    · rename_i q; exact absurd (q ▸ hb) nd.1
    · exact S.off b (.tail _ hb)
  · rcases FH.of_add e with h | ⟨rfl, rfl⟩
    · exact .inl h
    · exact .inr (.inl (.head _))

structure Room (n : Nat) (A : Around) : Prop where
  handled : A.handled = none
  depth : A.depth + 3 * n + 3 ≤ 1000
  units : A.units + 30 * n + 100 ≤ 9900
theorem Room.le {n m : Nat} {A : Around} (r : Room n A) (h : m ≤ n) : Room m A := ⟨r.handled, by have := r.depth; omega, by have := r.units; omega⟩

variable (prog w) in
def WT {β β' : Type} (H₀ : FH) (n : Nat) (R : FH → β → β' → Prop) (T : FH → Prop) (mu : Mu) (t : Sem β) (Q : β' → Mu → Prop) : Prop :=
  ∀ A g s, Room n A → H₀.le g → T g → St prog w g mu s.heap → wpAny (model prog w) A t (fun v s' => ∃ g' mu' α, R g' v α ∧ Ends prog w g mu s g' mu' s' ∧ Q α mu') (fun _ _ => False) s

section
variable {H₀ : FH} {n : Nat} {β β' γ γ' : Type} {R : FH → β → β' → Prop} {R' : FH → γ → γ' → Prop} {T T' : FH → Prop} {mu : Mu} {t : Sem β} {Q Q' : β' → Mu → Prop}

theorem WT.mono (h : WT prog w H₀ n R T mu t Q) (hq : ∀ α mu, Q α mu → Q' α mu) : WT prog w H₀ n R T mu t Q' := fun A g s hA hg hT S =>
  wpAny_mono (h A g s hA hg hT S) (fun _ _ ⟨g', mu', α, h1, h2, h3⟩ => ⟨g', mu', α, h1, h2, hq _ _ h3⟩) fun _ _ e => e
theorem WT.weak (h : WT prog w H₀ n R T mu t Q) (hT : ∀ g, T' g → T g) : WT prog w H₀ n R T' mu t Q := fun A g s hA hg h' S => h A g s hA hg (hT g h') S
theorem WT.pure {v : β} {α : β'} (hr : ∀ g, T g → R g v α) (hq : Q α mu) : WT prog w H₀ n R T mu (pure v) Q := fun _ g _ _ _ hT S => wpAny_pure ⟨g, mu, α, hr g hT, Ends.refl S, hq⟩
theorem WT.of_eq {t' : Sem β} (e : t = t') (h : WT prog w H₀ n R T mu t' Q) : WT prog w H₀ n R T mu t Q := e ▸ h

def Mono (T : FH → Prop) : Prop := ∀ g g' : FH, g.le g' → T g → T g'
theorem mono_true : Mono fun _ => True := fun _ _ _ _ => trivial
theorem mono_and {T T' : FH → Prop} (a : Mono T) (b : Mono T') : Mono fun g => T g ∧ T' g := fun g g' l x => ⟨a g g' l x.1, b g g' l x.2⟩
theorem mono_rep {v : Value} {α : AV} : Mono fun g => Rep prog w g v α := fun _ _ l x => x.mono l
theorem mono_reps {v : List Value} {α : List AV} : Mono fun g => Reps prog w g v α := fun _ _ l x => x.mono l

theorem WT.bind {f : β → Sem γ} {P : γ' → Mu → Prop} (hm : Mono T) (h : WT prog w H₀ n R T mu t Q)
    (k : ∀ α mu', Q α mu' → ∀ v, WT prog w H₀ n R' (fun g => T g ∧ R g v α) mu' (f v) P) : WT prog w H₀ n R' T mu (t >>= f) P := fun A g s hA hg hT S => by
  refine wpAny_bind (wpAny_mono (h A g s hA hg hT S) (fun v s' x => ?_) fun _ _ e => e)
  obtain ⟨g', mu', α, h1, h2, h3⟩ := x
  refine wpAny_mono (k α mu' h3 v A g' s' hA (hg.trans h2.le) ⟨hm _ _ h2.le hT, h1⟩ h2.st) (fun u s'' y => ?_) fun _ _ e => e
  obtain ⟨g'', mu'', β, k1, k2, k3⟩ := y
  exact ⟨g'', mu'', β, k1, h2.trans k2, k3⟩

theorem WT.frame {F : Mu} (h : WT prog w H₀ n R T mu t Q) : WT prog w H₀ n R T (mu ++ F) t (fun α mu' => ∃ m, mu' = m ++ F ∧ Q α m) := fun A g s hA hg hT S => by
  have ads : (mu ++ F).ads = mu.ads ++ F.ads := List.map_append
  have nd := S.nd
  rw [ads] at nd
  have S' : St prog w g mu s.heap := ⟨S.sub, fun a ha => S.off a (by rw [ads]; exact List.mem_append_left _ ha), (List.nodup_append.mp nd).1, fun p hp => S.is p (List.mem_append_left _ hp)⟩
  refine wpAny_mono (h A g s hA hg hT S') (fun v s' x => ?_) fun _ _ e => e
  obtain ⟨g', mu', α, h1, h2, h3⟩ := x
  exact ⟨g', mu' ++ F, α, h1, h2.frame S, mu', rfl, h3⟩
theorem WT.perm {mu₂ : Mu} (p : mu₂.Perm mu) (h : WT prog w H₀ n R T mu t Q) : WT prog w H₀ n R T mu₂ t Q := fun A g s hA hg hT S => by
  refine wpAny_mono (h A g s hA hg hT (S.perm p)) (fun v s' x => ?_) fun _ _ e => e
  obtain ⟨g', mu', α, h1, h2, h3⟩ := x
  exact ⟨g', mu', α, h1, h2.perm p.symm (.refl _), h3⟩
/-- the end's store may be permuted, and its head dropped -/
theorem WT.post {Q₂ : β' → Mu → Prop} (h : WT prog w H₀ n R T mu t Q₂) (hq : ∀ α mu', Q₂ α mu' → ∃ d m, mu'.Perm (d ++ m) ∧ Q α m) : WT prog w H₀ n R T mu t Q := fun A g s hA hg hT S => by
  refine wpAny_mono (h A g s hA hg hT S) (fun v s' x => ?_) fun _ _ e => e
  obtain ⟨g', mu', α, h1, h2, h3⟩ := x
  obtain ⟨d, m, hp, hq'⟩ := hq _ _ h3
  exact ⟨g', m, α, h1, (h2.perm (.refl _) hp).drop, hq'⟩
theorem WT.le {m : Nat} (h : WT prog w H₀ n R T mu t Q) (hn : n ≤ m) : WT prog w H₀ m R T mu t Q := fun A g s hA hg hT S => h A g s (hA.le hn) hg hT S
/-- a step of the library's, raw -/
theorem WT.raw (h : ∀ A g s, Room n A → H₀.le g → T g → St prog w g mu s.heap → wpAny (model prog w) A t (fun v s' => ∃ g' mu' α, R g' v α ∧ Ends prog w g mu s g' mu' s' ∧ Q α mu') (fun _ _ => False) s) : WT prog w H₀ n R T mu t Q := h
end
end Mine
end
section
open PySem PySem.W PyProof.Rows
namespace Mine

structure Cx where
  prog : Program
  w : World
  H : FH
  mg : Str → Option Value
  mb : Str → Option Value

structure Cx.Ok (C : Cx) : Prop where
  g : ∀ h, C.H.In h → h.Ns mainGlobals C.mg
  b : ∀ h, C.H.In h → h.Ns builtinsNs C.mb
  lim : ∀ h, C.H.In h → h.NoLimit
  blt : ∀ x : Str, x ≠ "__name__" → C.mb x = bootBuiltins x
  sysm : ∀ h, C.H.In h → sysModules < h.objs.size

inductive AF where
  | next | brk | cont
  | ret (α : AV)
inductive RF (C : Cx) (g : FH) : Flow → AF → Prop
  | next : RF C g .next .next
  | brk : RF C g .brk .brk
  | cont : RF C g .cont .cont
  | ret {v : Value} {α : AV} (h : Rep C.prog C.w g v α) : RF C g (.ret v) (.ret α)
theorem RF.mono {C : Cx} {g g' : FH} (l : g.le g') {f : Flow} {φ : AF} : RF C g f φ → RF C g' f φ
  | .next => .next | .brk => .brk | .cont => .cont | .ret h => .ret (h.mono l)

abbrev RB : FH → Bool → Bool → Prop := fun _ b c => b = c
abbrev RU : FH → Unit → Unit → Prop := fun _ _ _ => True
abbrev Tt : FH → Prop := fun _ => True

abbrev WE (C : Cx) (n : Nat) (mu : Mu) (env : Env) (e : Expr) (Q : AV → Mu → Prop) : Prop := WT C.prog C.w C.H n (Rep C.prog C.w) Tt mu (eval e env) Q
abbrev WB (C : Cx) (n : Nat) (mu : Mu) (env : Env) (e : Expr) (Q : Bool → Mu → Prop) : Prop := WT C.prog C.w C.H n RB Tt mu (isTrue e env (eval e env)) Q
abbrev WX (C : Cx) (n : Nat) (mu : Mu) (env : Env) (st : Stmt) (Q : AF → Mu → Prop) : Prop := WT C.prog C.w C.H n (RF C) Tt mu (exec st env) Q
abbrev WS (C : Cx) (n : Nat) (mu : Mu) (env : Env) (ss : List Stmt) (Q : AF → Mu → Prop) : Prop := WT C.prog C.w C.H n (RF C) Tt mu (execs ss env) Q
abbrev W1 (C : Cx) (n : Nat) (α : AV) (mu : Mu) (f : Value → Sem Value) (Q : AV → Mu → Prop) : Prop := ∀ v, WT C.prog C.w C.H n (Rep C.prog C.w) (fun g => Rep C.prog C.w g v α) mu (f v) Q
abbrev W2 (C : Cx) (n : Nat) (α β : AV) (mu : Mu) (f : Value → Value → Sem Value) (Q : AV → Mu → Prop) : Prop :=
  ∀ u v, WT C.prog C.w C.H n (Rep C.prog C.w) (fun g => Rep C.prog C.w g u α ∧ Rep C.prog C.w g v β) mu (f u v) Q
abbrev WL (C : Cx) (n : Nat) (αs : List AV) (mu : Mu) (f : List Value → Sem Value) (Q : AV → Mu → Prop) : Prop :=
  ∀ vs, WT C.prog C.w C.H n (Rep C.prog C.w) (fun g => Reps C.prog C.w g vs αs) mu (f vs) Q
abbrev Wtr (C : Cx) (n : Nat) (α : AV) (mu : Mu) (Q : Bool → Mu → Prop) : Prop := ∀ v, WT C.prog C.w C.H n RB (fun g => Rep C.prog C.w g v α) mu (truthy v) Q
abbrev Was (C : Cx) (n : Nat) (α : AV) (mu : Mu) (env : Env) (e : Expr) (Q : Unit → Mu → Prop) : Prop := ∀ v, WT C.prog C.w C.H n RU (fun g => Rep C.prog C.w g v α) mu (assign e env v) Q

section
variable {C : Cx} {n : Nat} {mu : Mu} {env : Env}

theorem comb {β β' : Type} {R : FH → β → β' → Prop} {A : Around} {g g1 : FH} {mu1 : Mu} {s s1 : Shared} {t : Sem β} {Q : β' → Mu → Prop} (x : Ends C.prog C.w g mu s g1 mu1 s1)
    (h : wpAny (model C.prog C.w) A t (fun v s' => ∃ g' mu' α, R g' v α ∧ Ends C.prog C.w g1 mu1 s1 g' mu' s' ∧ Q α mu') (fun _ _ => False) s1) :
    wpAny (model C.prog C.w) A t (fun v s' => ∃ g' mu' α, R g' v α ∧ Ends C.prog C.w g mu s g' mu' s' ∧ Q α mu') (fun _ _ => False) s1 :=
  wpAny_mono h (fun _ _ ⟨g', mu', α, h1, h2, h3⟩ => ⟨g', mu', α, h1, x.trans h2, h3⟩) fun _ _ e => e

theorem E_loc {x : Str} {pos : Pos} {i : Nat} {m : List (Str × AV)} {α : AV} {Q : AV → Mu → Prop} (hk : env.scope.kind = .function) (hl : env.kindOf x = some .local) (hi : mu[i]? = some (env.locals, .ns m))
    (hv : m.lookup x = some α) (hd : (x == ("__debug__" : Str)) = false) (h : Q α mu) : WE C n mu env (.Name x pos) Q := fun A g s _ _ _ S => by
  obtain ⟨f, hns, hf⟩ := S.is _ (List.mem_of_getElem? hi)
  obtain ⟨v, h1, h2⟩ := hf x α hv
  exact wpAny_Name (wpAny_loadName_local hk hl hns h1 ⟨g, mu, α, h2, Ends.refl S, h⟩) hd
theorem E_cell {x : Str} {pos : Pos} {i : Nat} {c : Addr} {α : AV} {Q : AV → Mu → Prop} (hk : env.scope.kind = .function) (hl : env.kindOf x = some .cell) (hc : env.cells.lookup x = some c) (hi : mu[i]? = some (c, .cell (some α)))
    (hd : (x == ("__debug__" : Str)) = false) (h : Q α mu) : WE C n mu env (.Name x pos) Q := fun A g s _ _ _ S => by
  obtain ⟨v, h1, h2⟩ := S.is _ (List.mem_of_getElem? hi)
  exact wpAny_Name (wpAny_loadName_cell hk hl hc h1 ⟨g, mu, α, h2, Ends.refl S, h⟩) hd
theorem E_glob (K : C.Ok) {x : Str} {pos : Pos} {v : Value} {α : AV} {Q : AV → Mu → Prop} (hk : env.scope.kind = .function) (hl : env.kindOf x = some .globalImplicit) (hg : env.globals = mainGlobals) (hv : C.mg x = some v)
    (hr : ∀ g, Rep C.prog C.w g v α) (hd : (x == ("__debug__" : Str)) = false) (h : Q α mu) : WE C n mu env (.Name x pos) Q := fun A g s _ hH _ S =>
  Calls.Name_function_global hk hl (Calls.loadGlobal_global (env := env) (by rw [hg]; exact K.g _ fun b o e => S.sub b o (hH b o e)) hv ⟨g, mu, α, hr g, Ends.refl S, h⟩) hd
theorem E_blt (K : C.Ok) {x : Str} {pos : Pos} {v : Value} {Q : AV → Mu → Prop} (hk : env.scope.kind = .function) (hl : env.kindOf x = some .globalImplicit) (hg : env.globals = mainGlobals) (hb : env.builtins = builtinsNs)
    (hno : C.mg x = none) (hv : bootBuiltins x = some v) (hn : x ≠ "__name__") (hd : (x == ("__debug__" : Str)) = false) (h : Q (.val v) mu) : WE C n mu env (.Name x pos) Q := fun A g s _ hH _ S =>
  Calls.Name_function_global hk hl (Calls.loadGlobal_builtin (env := env) (by rw [hg]; exact K.g _ fun b o e => S.sub b o (hH b o e)) hno (by rw [hb]; exact K.b _ fun b o e => S.sub b o (hH b o e)) ((K.blt x hn).trans hv)
    ⟨g, mu, _, .val v, Ends.refl S, h⟩) hd
theorem E_int {i : Int} {k : Nat} {pos : Pos} {Q : AV → Mu → Prop} (h : Q (.int i) mu) : WE C n mu env (.Constant (.int i) k pos) Q := fun _ g s _ _ _ S =>
  wpAny_Constant_int ⟨g, mu, _, .int i _, Ends.toks S, h⟩
theorem E_str {x : Str} {k : Nat} {pos : Pos} {Q : AV → Mu → Prop} (h : Q (.str x) mu) : WE C n mu env (.Constant (.str x) k pos) Q := fun _ g s _ _ _ S =>
  Calls.Constant_str ⟨g, mu, _, .str x _, Ends.toks S, h⟩
theorem E_bool {b : Bool} {k : Nat} {pos : Pos} {Q : AV → Mu → Prop} (h : Q (.bool b) mu) : WE C n mu env (.Constant (.bool b) k pos) Q := fun _ g s _ _ _ S =>
  Constant_bool ⟨g, mu, _, .bool b, Ends.refl S, h⟩
theorem E_none {k : Nat} {pos : Pos} {Q : AV → Mu → Prop} (h : Q .none mu) : WE C n mu env (.Constant .none k pos) Q := fun _ g s _ _ _ S =>
  Constant_none ⟨g, mu, _, .none, Ends.refl S, h⟩

theorem E_bin {l r : Expr} {op : Operator} {pos : Pos} {Q : AV → Mu → Prop} (h : WE C n mu env l fun α mu1 => WE C n mu1 env r fun β mu2 => W2 C n α β mu2 (binaryOp op) Q) :
    WE C n mu env (.BinOp l op r pos) Q := fun A g s hA hH _ S => by
  refine wpAny_BinOp (wpAny_mono (h A g s hA hH trivial S) (fun a s1 ⟨g1, mu1, α, r1, e1, q1⟩ => wpAny_mono (q1 A g1 s1 hA (hH.trans e1.le) trivial e1.st) (fun b s2 ⟨g2, mu2, β, r2, e2, q2⟩ => ?_) fun _ _ e => e) fun _ _ e => e)
  exact comb (e1.trans e2) (q2 a b A g2 s2 hA (hH.trans (e1.le.trans e2.le)) ⟨r1.mono e2.le, r2⟩ e2.st)
theorem E_cmp {l r : Expr} {op : CmpOp} {pos : Pos} {Q : AV → Mu → Prop} (hm : behindInMarks op r = false) (h : WE C n mu env l fun α mu1 => WE C n mu1 env r fun β mu2 => W2 C n α β mu2 (compareOp op) Q) :
    WE C n mu env (.Compare l [op] [r] pos) Q := fun A g s hA hH _ S => by
  refine wpAny_Compare1 (wpAny_mono (h A g s hA hH trivial S) (fun a s1 ⟨g1, mu1, α, r1, e1, q1⟩ => wpAny_mono (q1 A g1 s1 hA (hH.trans e1.le) trivial e1.st) (fun b s2 ⟨g2, mu2, β, r2, e2, q2⟩ => ?_) fun _ _ e => e) fun _ _ e => e) hm
  exact comb (e1.trans e2) (q2 a b A g2 s2 hA (hH.trans (e1.le.trans e2.le)) ⟨r1.mono e2.le, r2⟩ e2.st)
theorem B_cmp {l r : Expr} {op : CmpOp} {pos : Pos} {Q : Bool → Mu → Prop} (hm : behindInMarks op r = false)
    (h : WE C n mu env l fun α mu1 => WE C n mu1 env r fun β mu2 => W2 C n α β mu2 (compareOp op) fun γ mu3 => Wtr C n γ mu3 Q) : WB C n mu env (.Compare l [op] [r] pos) Q := fun A g s hA hH _ S => by
  refine wpAny_isTrue_Compare1 (wpAny_mono (h A g s hA hH trivial S) (fun a s1 ⟨g1, mu1, α, r1, e1, q1⟩ => wpAny_mono (q1 A g1 s1 hA (hH.trans e1.le) trivial e1.st) (fun b s2 ⟨g2, mu2, β, r2, e2, q2⟩ =>
    wpAny_mono (q2 a b A g2 s2 hA (hH.trans (e1.le.trans e2.le)) ⟨r1.mono e2.le, r2⟩ e2.st) (fun c s3 ⟨g3, mu3, γ, r3, e3, q3⟩ => ?_) fun _ _ e => e) fun _ _ e => e) fun _ _ e => e) hm
  exact comb ((e1.trans e2).trans e3) (q3 c A g3 s3 hA (hH.trans ((e1.le.trans e2.le).trans e3.le)) r3 e3.st)
/-- a < b < c as a test -/
theorem B_chain2 {l r1 r2 : Expr} {o1 o2 : CmpOp} {pos : Pos} {Q : Bool → Mu → Prop} (hm : lastMarks [o1, o2] [r1, r2] = false)
    (h : WE C n mu env l fun α mu1 => WE C n mu1 env r1 fun β mu2 => W2 C n α β mu2 (compareOp o1) fun γ mu3 => Wtr C n γ mu3 fun b mu4 =>
      if b then WE C n mu4 env r2 fun δ mu5 => W2 C n β δ mu5 (compareOp o2) fun ε mu6 => Wtr C n ε mu6 Q else Q false mu4) : WB C n mu env (.Compare l [o1, o2] [r1, r2] pos) Q := fun A g s hA hH _ S => by
  refine isTrue_chain (wpAny_mono (h A g s hA hH trivial S) (fun a s1 ⟨g1, mu1, α, r1, e1, q1⟩ => test_link (wpAny_mono (q1 A g1 s1 hA (hH.trans e1.le) trivial e1.st) (fun b s2 ⟨g2, mu2, β, r2, e2, q2⟩ =>
    wpAny_mono (q2 a b A g2 s2 hA (hH.trans (e1.le.trans e2.le)) ⟨r1.mono e2.le, r2⟩ e2.st) (fun c s3 ⟨g3, mu3, γ, r3, e3, q3⟩ =>
    wpAny_mono (q3 c A g3 s3 hA (hH.trans ((e1.le.trans e2.le).trans e3.le)) r3 e3.st) (fun t s4 ⟨g4, mu4, t', r4, e4, q4⟩ => ?_) fun _ _ e => e) fun _ _ e => e) fun _ _ e => e)) fun _ _ e => e) hm
  have e14 := ((e1.trans e2).trans e3).trans e4
  cases r4
  cases t with
  | false => exact ⟨g4, mu4, _, rfl, e14, q4⟩
  | true =>
    refine test_last (wpAny_mono (q4 A g4 s4 hA (hH.trans e14.le) trivial e4.st) (fun d s5 ⟨g5, mu5, δ, r5, e5, q5⟩ => wpAny_mono (q5 b d A g5 s5 hA (hH.trans (e14.le.trans e5.le)) ⟨r2.mono ((e3.le.trans e4.le).trans e5.le), r5⟩ e5.st)
      (fun x s6 ⟨g6, mu6, ε, r6, e6, q6⟩ => ?_) fun _ _ e => e) fun _ _ e => e)
    exact comb ((e14.trans e5).trans e6) (q6 x A g6 s6 hA (hH.trans ((e14.le.trans e5.le).trans e6.le)) r6 e6.st)
theorem B_plain {e : Expr} {Q : Bool → Mu → Prop} (he : ∀ whole, isTrue e env whole = (do let v ← whole; standAt e.pos; holding [v] (truthy v))) (h : WE C n mu env e fun α mu1 => Wtr C n α mu1 Q) : WB C n mu env e Q := fun A g s hA hH _ S => by
  refine isTrue_plain (wpAny_mono (h A g s hA hH trivial S) (fun a s1 ⟨g1, mu1, α, r1, e1, q1⟩ => ?_) fun _ _ e => e) (he _)
  exact comb e1 (q1 a A g1 s1 hA (hH.trans e1.le) r1 e1.st)
theorem B_not {e : Expr} {pos : Pos} {Q : Bool → Mu → Prop} (h : WB C n mu env e fun b mu1 => Q (!b) mu1) : WB C n mu env (.UnaryOp .Not e pos) Q := fun A g s hA hH _ S =>
  isTrue_not (wpAny_mono (h A g s hA hH trivial S) (fun b s1 ⟨g1, mu1, c, r1, e1, q1⟩ => ⟨g1, mu1, _, by rw [r1], e1, q1⟩) fun _ _ e => e)
theorem B_and2 {e1 e2 : Expr} {pos : Pos} {Q : Bool → Mu → Prop} (h : WB C n mu env e1 fun b mu1 => if b then WB C n mu1 env e2 Q else Q false mu1) : WB C n mu env (.BoolOp .And [e1, e2] pos) Q := fun A g s hA hH _ S => by
  refine isTrue_and (wpAny_mono (h A g s hA hH trivial S) (fun b s1 ⟨g1, mu1, c, r1, x1, q1⟩ => ?_) fun _ _ e => e)
  cases r1
  cases b with
  | false => exact ⟨g1, mu1, _, rfl, x1, q1⟩
  | true =>
    refine isTrue_and (wpAny_mono (q1 A g1 s1 hA (hH.trans x1.le) trivial x1.st) (fun b s2 ⟨g2, mu2, c, r2, x2, q2⟩ => ?_) fun _ _ e => e)
    cases r2
    cases b with
    | false => exact ⟨g2, mu2, _, rfl, x1.trans x2, q2⟩
    | true => exact isTrue_and_nil ⟨g2, mu2, _, rfl, x1.trans x2, q2⟩
theorem E_if {t b o : Expr} {pos : Pos} {Q : AV → Mu → Prop} (h : WB C n mu env t fun c mu1 => if c then WE C n mu1 env b Q else WE C n mu1 env o Q) : WE C n mu env (.IfExp t b o pos) Q := fun A g s hA hH _ S => by
  refine IfExp_ (wpAny_mono (h A g s hA hH trivial S) (fun b s1 ⟨g1, mu1, c, r1, x1, q1⟩ => ?_) fun _ _ e => e)
  cases r1
  cases b <;> exact comb x1 (q1 A g1 s1 hA (hH.trans x1.le) trivial x1.st)
theorem E_attr {e : Expr} {attr : Str} {pos : Pos} {Q : AV → Mu → Prop} (he : eval (.Attribute e attr pos) env = (do
      let o ← eval e env
      standAt pos.atName
      let r ← holding [o] (getAttr o attr true)
      letTemporaryGo e o r
      pure r)) (h : WE C n mu env e fun α mu1 => W1 C n α mu1 (fun v => getAttr v attr true) Q) : WE C n mu env (.Attribute e attr pos) Q := fun A g s hA hH _ S =>
  Attribute_any_ (wpAny_mono (h A g s hA hH trivial S) (fun a s1 ⟨g1, mu1, α, r1, e1, q1⟩ => comb e1 (q1 a A g1 s1 hA (hH.trans e1.le) r1 e1.st)) fun _ _ e => e) he
theorem E_sub {e i : Expr} {pos : Pos} {Q : AV → Mu → Prop} (h : WE C n mu env e fun α mu1 => WE C n mu1 env i fun β mu2 => W2 C n α β mu2 (subscriptTail e i) Q) : WE C n mu env (.Subscript e i pos) Q := fun A g s hA hH _ S => by
  refine Subscript_ (wpAny_mono (h A g s hA hH trivial S) (fun a s1 ⟨g1, mu1, α, r1, e1, q1⟩ => wpAny_mono (q1 A g1 s1 hA (hH.trans e1.le) trivial e1.st) (fun b s2 ⟨g2, mu2, β, r2, e2, q2⟩ => ?_) fun _ _ e => e) fun _ _ e => e)
  exact comb (e1.trans e2) (q2 a b A g2 s2 hA (hH.trans (e1.le.trans e2.le)) ⟨r1.mono e2.le, r2⟩ e2.st)
end

/-- arguments, elements -/
abbrev WA (C : Cx) (n : Nat) (mu : Mu) (env : Env) (pos : Pos) (es : List Expr) (Q : List AV → Mu → Prop) : Prop := WT C.prog C.w C.H n (Reps C.prog C.w) Tt mu (spliced (backTo pos (starEach es env))) Q
section
variable {C : Cx} {n : Nat} {mu : Mu} {env : Env} {pos : Pos}
theorem A_nil {Q : List AV → Mu → Prop} (h : Q [] mu) : WA C n mu env pos [] Q := fun A g s _ _ _ S => args_nil ⟨g, mu, _, .nil, Ends.refl S, h⟩
theorem A_cons {e : Expr} {es : List Expr} {Q : List AV → Mu → Prop} (he : starEach (e :: es) env = (false, eval e env) :: starEach es env)
    (h : WE C n mu env e fun α mu1 => WA C n mu1 env pos es fun αs mu2 => Q (α :: αs) mu2) : WA C n mu env pos (e :: es) Q := fun A g s hA hH _ S => by
  refine args_cons (wpAny_mono (h A g s hA hH trivial S) (fun a s1 ⟨g1, mu1, α, r1, e1, q1⟩ => wpAny_mono (q1 A g1 s1 hA (hH.trans e1.le) trivial e1.st) (fun b s2 ⟨g2, mu2, β, r2, e2, q2⟩ => ?_) fun _ _ e => e) fun _ _ e => e) he
  exact ⟨g2, mu2, _, .cons (r1.mono e2.le) r2, e1.trans e2, q2⟩

def Callable (C : Cx) (f : Value) : Prop := ∀ h, C.H.In h → ∃ k, (k = Keeper.frame ∨ k = Keeper.machine ∨ k = Keeper.boundFrame) ∧ Looks (model C.prog C.w) h (keeperOf f) k
theorem callable_builtin {id : String} : Callable C (.builtin id) := fun _ _ => ⟨.machine, .inr (.inl rfl), Looks.of_pure rfl⟩
theorem callable_type {id : String} : Callable C (.type id) := fun _ _ => ⟨.machine, .inr (.inl rfl), Looks.of_pure rfl⟩

theorem E_call {f : Expr} {es : List Expr} {v : Value} {cpos : Pos} {Q : AV → Mu → Prop} (hc : Callable C v)
    (he : eval (.Call f es [] cpos) env = (do callWith cpos (← eval f env) [] (backTo cpos (starEach es env)) (backToKw cpos (keywordEach [] env))))
    (hpl : (backTo cpos (starEach es env)).any (·.1) = false) (hne : evalArgs v true (backTo cpos (starEach es env)) [] = (do return ⟨← spliced (backTo cpos (starEach es env)), []⟩) ∨ ∃ x r, backTo cpos (starEach es env) = (false, x) :: r)
    (h : WE C n mu env f fun α mu1 => α = .val v ∧ WA C n mu1 env cpos es fun αs mu2 => WL C n αs mu2 (fun vs => call v vs) Q) : WE C n mu env (.Call f es [] cpos) Q := fun A g s hA hH _ S => by
  refine Call_ (wpAny_mono (h A g s hA hH trivial S) (fun a s1 ⟨g1, mu1, α, r1, e1, hα, q1⟩ => ?_) fun _ _ e => e) he
  subst hα
  cases r1
  have key : wpAny (model C.prog C.w) A (spliced (backTo cpos (starEach es env))) (fun vs s2 => C.H.In s2.heap ∧ wpAny (model C.prog C.w) A (call v ([] ++ vs)) (fun v s' => ∃ g' mu' α, Rep C.prog C.w g' v α ∧ Ends C.prog C.w g mu s g' mu' s' ∧ Q α mu') (fun _ _ => False) s2) (fun _ _ => False) s1 := by
    refine wpAny_mono (q1 A g1 s1 hA (hH.trans e1.le) trivial e1.st) (fun vs s2 ⟨g2, mu2, αs, r2, e2, q2⟩ => ⟨fun b o e => e2.st.sub b o (e2.le b o (e1.le b o (hH b o e))), ?_⟩) fun _ _ e => e
    exact comb (e1.trans e2) (q2 vs A g2 s2 hA (hH.trans (e1.le.trans e2.le)) r2 e2.st)
  refine callWith_of (P := C.H.In) (by rw [hpl]; rfl) hc ?_
  rcases hne with he2 | ⟨x, r, hx⟩
  · rw [he2]
    exact wpAny_bind (wpAny_mono key (fun vs s2 hs => wpAny_pure hs) fun _ _ e => e)
  · rw [hx] at key ⊢
    exact Calls.evalArgs_plain key
end
end Mine
end
section
open PySem PySem.W PyProof.Rows
namespace Mine

abbrev Wst (C : Cx) (n : Nat) (α : AV) (mu : Mu) (env : Env) (x : Str) (Q : Unit → Mu → Prop) : Prop := ∀ v, WT C.prog C.w C.H n RU (fun g => Rep C.prog C.w g v α) mu (storeName env x v) Q

section
variable {C : Cx} {n : Nat} {mu : Mu} {env : Env}

theorem ns_put {g : FH} {f : Str → Option Value} {m : List (Str × AV)} {x : Str} {v : Value} {α : AV} (hf : ∀ y β, m.lookup y = some β → ∃ u, f y = some u ∧ Rep C.prog C.w g u β) (hr : Rep C.prog C.w g v α) :
    ∀ y β, ((x, α) :: m).lookup y = some β → ∃ u, (fun z => if z = x then some v else f z) y = some u ∧ Rep C.prog C.w g u β := fun y β e => by
  rw [List.lookup_cons] at e
  by_cases hy : y = x
  · subst hy
    rw [beq_self_eq_true] at e
    cases e
    exact ⟨v, by simp, hr⟩
  · have : (y == x) = false := by simpa using hy
    rw [this] at e
    obtain ⟨u, h1, h2⟩ := hf y β e
    exact ⟨u, by simpa [hy] using h1, h2⟩

theorem st_loc {x : Str} {i : Nat} {m : List (Str × AV)} {α : AV} {Q : Unit → Mu → Prop} (hk : env.scope.kind = .function) (hl : env.kindOf x = some .local) (hi : mu[i]? = some (env.locals, .ns m))
    (h : Q () (mu.set i (env.locals, .ns ((x, α) :: m)))) : Wst C n α mu env x Q := fun v A g s _ _ hr S => by
  obtain ⟨f, hns, hf⟩ := S.is _ (List.mem_of_getElem? hi)
  refine wpAny_storeName_local hl hns (fun h' hn hs => ⟨g, _, (), trivial, Ends.upd (mo' := .ns ((x, α) :: m)) S hi (fun b o hb e => hs.extBut b o hb e) ⟨_, hn, ns_put hf hr⟩, h⟩) (by rw [hk]; rfl)
theorem st_cell {x : Str} {i : Nat} {c : Addr} {α : AV} {β : Option AV} {Q : Unit → Mu → Prop} (hk : env.scope.kind = .function) (hl : env.kindOf x = some .cell) (hc : env.cells.lookup x = some c) (hi : mu[i]? = some (c, .cell β))
    (h : Q () (mu.set i (c, .cell (some α)))) : Wst C n α mu env x Q := fun v A g s _ _ hr S => by
  obtain ⟨v₀, hv⟩ : ∃ v₀, s.heap.IsCell c v₀ := by
    have := S.is _ (List.mem_of_getElem? hi)
    cases β with
    | none => exact ⟨_, this⟩
    | some β => obtain ⟨v, h1, _⟩ := this; exact ⟨_, h1⟩
  exact wpAny_storeName_cell hk hl hc hv fun h' hv' hs => ⟨g, _, (), trivial, Ends.upd (mo' := .cell (some α)) S hi (fun b o hb e => hs.extBut b o hb e) ⟨v, hv', hr⟩, h⟩

theorem as_name {x : Str} {pos : Pos} {α : AV} {Q : Unit → Mu → Prop} (h : Wst C n α mu env x Q) : Was C n α mu env (.Name x pos) Q := fun v A g s hA hH hT S =>
  wpAny_assign_Name (h v A g s hA hH hT S)

theorem S_nil {Q : AF → Mu → Prop} (h : Q .next mu) : WS C n mu env [] Q := fun A g s _ _ _ S => wpAny_execs_nil ⟨g, mu, _, .next, Ends.refl S, h⟩
def Seq (C : Cx) (n : Nat) (env : Env) (rest : List Stmt) (Q : AF → Mu → Prop) : AF → Mu → Prop
  | .next, mu => WS C n mu env rest Q
  | f, mu => Q f mu
theorem S_cons {st : Stmt} {rest : List Stmt} {Q : AF → Mu → Prop} (h : WX C n mu env st (Seq C n env rest Q)) : WS C n mu env (st :: rest) Q := fun A g s hA hH _ S => by
  refine wpAny_execs_cons (wpAny_mono (h A g s hA hH trivial S) (fun f s1 ⟨g1, mu1, φ, r1, e1, q1⟩ => ?_) fun _ _ e => e)
  cases r1 with
  | next => exact comb e1 (q1 A g1 s1 hA (hH.trans e1.le) trivial e1.st)
  | brk => exact ⟨g1, mu1, _, .brk, e1, q1⟩
  | cont => exact ⟨g1, mu1, _, .cont, e1, q1⟩
  | ret h => exact ⟨g1, mu1, _, .ret h, e1, q1⟩
theorem X_assign {x : Str} {pos pos' : Pos} {e : Expr} {Q : AF → Mu → Prop} (hs : swapsWith e (some (.Name x pos')) pos.line env = pure false)
    (h : WE C n mu env e fun α mu1 => Wst C n α mu1 env x fun _ mu2 => Q .next mu2) : WX C n mu env (.Assign [.Name x pos'] e pos) Q := fun A g s hA hH _ S => by
  refine wpAny_Assign_Name (wpAny_mono (h A g s hA hH trivial S) (fun v s1 ⟨g1, mu1, α, r1, e1, q1⟩ => wpAny_mono (q1 v A g1 s1 hA (hH.trans e1.le) r1 e1.st) (fun _ s2 ⟨g2, mu2, _, _, e2, q2⟩ => ?_) fun _ _ e => e) fun _ _ e => e) hs
  exact ⟨g2, mu2, _, .next, e1.trans e2, q2⟩
theorem X_ret {e : Expr} {pos : Pos} {Q : AF → Mu → Prop} (h : WE C n mu env e fun α mu1 => Q (.ret α) mu1) : WX C n mu env (.Return (some e) pos) Q := fun A g s hA hH _ S =>
  wpAny_Return_some (wpAny_mono (h A g s hA hH trivial S) (fun v s1 ⟨g1, mu1, α, r1, e1, q1⟩ => ⟨g1, mu1, _, .ret r1, e1, q1⟩) fun _ _ e => e)
theorem X_if {t : Expr} {b o : List Stmt} {pos : Pos} {Q : AF → Mu → Prop} (h : WB C n mu env t fun c mu1 => if c then WS C n mu1 env b Q else WS C n mu1 env o Q) : WX C n mu env (.If t b o pos) Q := fun A g s hA hH _ S => by
  refine wpAny_If (wpAny_mono (h A g s hA hH trivial S) (fun c s1 ⟨g1, mu1, c', r1, e1, q1⟩ => ?_) fun _ _ e => e)
  cases r1
  cases c <;> exact comb e1 (q1 A g1 s1 hA (hH.trans e1.le) trivial e1.st)
theorem X_expr {e : Expr} {pos : Pos} {Q : AF → Mu → Prop} (hi : interactive env = false) (hs : swapsWith e none pos.line env = pure false) (h : WE C n mu env e fun α mu1 => α = .none ∧ Q .next mu1) : WX C n mu env (.Expr e pos) Q := fun A g s hA hH _ S => by
  refine wpAny_Expr (wpAny_mono (h A g s hA hH trivial S) (fun v s1 ⟨g1, mu1, α, r1, e1, hα, q1⟩ => ?_) fun _ _ e => e) hi hs
  subst hα
  cases r1
  exact ⟨g1, mu1, _, .next, e1, q1⟩

/-- what is iterated -/
def ownedT (T : String) : Bool := ["enumerate", "zip", "dict_itemiterator", "dict_reverseitemiterator", "odict_iterator", "itertools.zip_longest", "itertools.pairwise"].contains T
structure ItAt (C : Cx) (A : Around) (g : FH) (mu : Mu) (s : Shared) (I : Addr) (xs : List AV) (fp : List Addr) (P : Nat → Value → Prop) (Sx : Nat → Heap → Prop) : Prop where
  walks : Walks C.prog C.w A I fp [I] xs.length P Sx
  st : Sx 0 s.heap
  live : ∀ b ∈ fp, ∃ o, s.heap.get? b = some o
  off : ∀ b ∈ fp, b ∉ mu.ads
  plain : ∀ i h, Sx i h → ∃ o T, h.get? I = some o ∧ o.cls = .type T ∧ ownedT T = false
  item : ∀ i v, P i v → ∀ α, xs[i]? = some α → Rep C.prog C.w g v α
  offg : g I = none
def IterOf (C : Cx) (x : AV) (xs : List AV) : Prop := ∀ A g mu s v, Room 0 A → C.H.le g → Rep C.prog C.w g v x → St C.prog C.w g mu s.heap →
  wpAny (model C.prog C.w) A (pyIter v) (fun it s' => ∃ I fp P Sx, it = .ref I ∧ ItAt C A g mu s' I xs fp P Sx ∧ (∀ b o, s.heap.get? b = some o → s'.heap.get? b = some o) ∧ s.heap.get? I = none ∧ ∃ h t, s' = { s with heap := h, toks := t }) (fun _ _ => False) s

theorem letOwned_ok {prog : Program} {w : World} {A : Around} {s : Shared} {target : Expr} {I : Addr} {v : Value} {o : Obj} {T : String} {Q : Unit → Shared → Prop} (ho : s.heap.get? I = some o) (hc : o.cls = .type T) (hT : ownedT T = false) (h : Q () s) :
    wpAny (model prog w) A (letOwnedTupleGo target (.ref I) v) Q (fun _ _ => False) s := by
  have key : ∀ a, wpAny (model prog w) A (do
      let o ← load I
      match o.cls, o.data with
      | .type n, .fields vs =>
        if ["enumerate", "zip", "dict_itemiterator", "dict_reverseitemiterator", "odict_iterator", "itertools.zip_longest", "itertools.pairwise"].contains n && vs[0]? == some (rawInt a) then
          rule "for.unpacks-the-owned-tuple"
          updateField I 0 .none
      | _, _ => pure ()) Q (fun _ _ => False) s := fun a => by
    refine wpAny_bind (wpAny_load ho ?_)
    rw [hc]
    unfold ownedT at hT
    cases o.data <;> first | exact wpAny_pure h | (dsimp only; rw [hT]; exact wpAny_pure h)
  unfold letOwnedTupleGo
  split
  · cases v <;> first | exact wpAny_pure h | exact key _
  · cases v <;> first | exact wpAny_pure h | exact key _
  · exact wpAny_pure h
end

section
variable {prog : Program} {w : World} {A : Around} {s : Shared}
theorem forLoop2 {R : Result → Shared → Prop} {target it body orelse env} (I : Nat → Shared → Prop)
    (turn : ∀ n s, I n s → wpAny (model prog w) A (pyNext it) (fun r s₁ => match r with
      | none => wpAny (model prog w) A (execs orelse env) (fun f s₃ => R (.ok f) s₃) (fun _ _ => False) s₁
      | some v => wpAny (model prog w) A (letOwnedTupleGo target it v) (fun _ s₁ => wpAny (model prog w) A (assign target env v) (fun _ s₂ => wpAny (model prog w) A (execs body env) (fun f s₃ => match f with
          | .next | .cont => ∃ m, m < n ∧ I m s₃
          | .brk => R (.ok .next) s₃
          | .ret v => R (.ok (.ret v)) s₃) (fun _ _ => False) s₂) (fun _ _ => False) s₁) (fun _ _ => False) s₁) (fun _ _ => False) s)
    (n : Nat) (h : I n s) : codeAny (model prog w) A (.forLoop target it body orelse env) R s := by
  refine codeAny_loop' rfl I (fun n s hI => ?_) n h
  show wpAny _ _ ((forTurn target it body orelse env).onRaise (fun x => do noteFrame x env; theTreesLotGoes x)) _ _ s
  refine wpAny_noted ?_
  simp only [forTurn]
  refine wpAny_bind (wpAny_standAt (wpAny_bind (wpAny_onRaise (wpAny_mono (turn n s hI) (fun r s₁ h₁ => ?_) fun _ _ h' => h'.elim))))
  cases r with
  | none => exact wpAny_pure (.inr ⟨rfl, codeAny_block (wpAny_mono h₁ (fun _ _ x => x) fun _ _ x => x.elim)⟩)
  | some v =>
    refine wpAny_bind (wpAny_mono h₁ (fun _ s₁ h₁ => ?_) fun _ _ h' => h'.elim)
    refine wpAny_bind (wpAny_mono h₁ (fun _ s₂ h₂ => wpAny_bind (wpAny_mono h₂ (fun f s₃ h₃ => ?_) fun _ _ h' => h'.elim)) fun _ _ h' => h'.elim)
    cases f with
    | next => exact wpAny_pure (.inl ⟨rfl, h₃⟩)
    | cont => exact wpAny_pure (.inl ⟨rfl, h₃⟩)
    | brk => exact wpAny_pure h₃
    | ret v => exact wpAny_pure h₃
theorem compLoop2 {elt target iter : Expr} {ifs : List Expr} {scope : Scope} {pos : Pos} {it acc : Value} {env : Env} {R : Result → Shared → Prop} (I : Nat → Shared → Prop)
    (turn : ∀ n s, I n s → wpAny (model prog w) A (pyNext it) (fun r s₁ => match r with
      | none => R (.ok .next) s₁
      | some v => wpAny (model prog w) A (letOwnedTupleGo target it v) (fun _ s₁ => wpAny (model prog w) A (assign target env v) (fun _ s₂ =>
          wpAny (model prog w) A (forIn ifs true fun c r => if r = true then do let ok ← isTrue c env (eval c env); pure (ForInStep.yield ok) else pure (ForInStep.yield r)) (fun ok s₃ =>
            if ok = true then wpAny (model prog w) A (eval elt env) (fun x s₄ =>
              wpAny (model prog w) A (call (.builtin "list.append") [acc, x]) (fun _ s₅ => ∃ m, m < n ∧ I m s₅) (fun _ _ => False) s₄) (fun _ _ => False) s₃
            else ∃ m, m < n ∧ I m s₃) (fun _ _ => False) s₂) (fun _ _ => False) s₁) (fun _ _ => False) s₁) (fun _ _ => False) s)
    (n : Nat) (h : I n s) : codeAny (model prog w) A (.compLoop (.ListComp elt [⟨target, iter, ifs, 0⟩] scope pos) 0 it acc env) R s := by
  refine codeAny_loop rfl I (fun n s hI => ?_) n h
  show wpAny _ A ((compTurn (.ListComp elt [⟨target, iter, ifs, 0⟩] scope pos) 0 it acc env).onRaise (fun x => do noteFrame x env; theTreesLotGoes x)) _ _ s
  refine wpAny_noted ?_
  rw [compTurn_list]
  refine wpAny_bind (wpAny_standAt (wpAny_bind (wpAny_mono (turn n s hI) (fun r s₁ h₁ => ?_) fun _ _ h' => h'.elim)))
  cases r with
  | none => exact wpAny_pure h₁
  | some v =>
    refine wpAny_bind (wpAny_mono h₁ (fun _ s₁ h₁ => ?_) fun _ _ h' => h'.elim)
    refine wpAny_bind (wpAny_mono h₁ (fun _ s₂ h₂ => wpAny_bind (wpAny_mono h₂ (fun ok s₃ h₃ => ?_) fun _ _ h' => h'.elim)) fun _ _ h' => h'.elim)
    cases ok with
    | false => exact wpAny_pure ⟨rfl, h₃⟩
    | true =>
      exact wpAny_bind (wpAny_bind (wpAny_mono h₃ (fun x s₄ h₄ => wpAny_bind (wpAny_mono h₄ (fun _ s₅ h₅ => wpAny_pure (wpAny_pure ⟨rfl, h₅⟩)) fun _ _ h' => h'.elim)) fun _ _ h' => h'.elim))
end
end Mine
end
section
open PySem PySem.W PyProof.Rows
namespace Mine

theorem Ends.poke {prog : Program} {w : World} {g g' : FH} {mu mu' : Mu} {s s' : Shared} {h' : Heap} {t : Nat} {I : Addr} (x : Ends prog w g mu s g' mu' s') (hI : s.heap.get? I = none) (hg : g' I = none) (hm : I ∉ mu'.ads)
    (hk : ∀ b o, b ≠ I → s'.heap.get? b = some o → h'.get? b = some o) : Ends prog w g mu s g' mu' { s' with heap := h', toks := t } := by
  refine ⟨⟨fun b o e => hk b o (fun q => ?_) (x.st.sub b o e), x.st.off, x.st.nd, fun p hp => (x.st.is p hp).mono FH.le.rfl fun o e => hk _ _ (fun q => hm ?_) e⟩, x.le, ?_, fun b o hb e => hk b o (fun q => ?_) (x.keep b o hb e), x.new, x.newg⟩
  · rw [q, hg] at e; cases e
  · exact q ▸ List.mem_map_of_mem hp
  · obtain ⟨h, t', rfl⟩ := x.same
    exact ⟨_, _, rfl⟩
  · rw [q, hI] at e; cases e

section
variable {C : Cx} {n : Nat} {mu : Mu} {env : Env}

def LoopK (P : Mu → Prop) (Q : AF → Mu → Prop) : AF → Mu → Prop
  | .next, mu => P mu
  | .cont, mu => P mu
  | .brk, mu => Q .next mu
  | .ret α, mu => Q (.ret α) mu

theorem X_for {target iter : Expr} {body : List Stmt} {pos : Pos} {Q : AF → Mu → Prop} (I : Nat → Mu → Prop) (hs : ∀ x, foldedSetIterable iter env x = pure x)
    (h : WE C n mu env iter fun α mu1 => ∃ xs, IterOf C α xs ∧ I 0 mu1 ∧ (∀ i x mu, xs[i]? = some x → I i mu → Was C n x mu env target fun _ mu2 => WS C n mu2 env body (LoopK (I (i + 1)) Q)) ∧ ∀ mu, I xs.length mu → Q .next mu) :
    WX C n mu env (.For target iter body [] pos) Q := fun A g s hA hH _ S => by
  refine wpAny_For (wpAny_mono (h A g s hA hH trivial S) (fun x s1 ⟨g1, mu1, α, r1, e1, xs, hit, hI0, turn, fin⟩ => ?_) fun _ _ e => e) hs
  refine wpAny_mono (hit A g1 mu1 s1 x (hA.le (Nat.zero_le _)) (hH.trans e1.le) r1 e1.st) (fun it s2 hh => ?_) fun _ _ e => e
  obtain ⟨J, fp, P, Sx, rfl, T, hk, hJ, h2, t2, rfl⟩ := hh
  have e2 : Ends C.prog C.w g1 mu1 s1 g1 mu1 { s1 with heap := h2, toks := t2 } := Ends.grow0 e1.st hk
  have hJfp : J ∈ fp := T.walks.sub J (List.mem_singleton.mpr rfl)
  refine forLoop2 (fun k s' => ∃ i g' mu', k = xs.length + 1 - i ∧ i ≤ xs.length ∧ Ends C.prog C.w g1 mu1 s1 g' mu' s' ∧ Sx i s'.heap ∧ I i mu' ∧ g' J = none ∧ ∀ b ∈ fp, b ∉ mu'.ads ∧ ∃ o, s'.heap.get? b = some o) ?_ (xs.length + 1)
    ⟨0, g1, mu1, rfl, Nat.zero_le _, e2, T.st, hI0, T.offg, fun b hb => ⟨T.off b hb, T.live b hb⟩⟩
  rintro k s' ⟨i, g', mu', rfl, hi, e, hst, hIi, hgJ, hfp⟩
  by_cases hlt : i < xs.length
  · refine T.walks.item i s' _ _ hlt hst fun v h' tk hP hst' hk' => ?_
    have hx : xs[i]? = some xs[i] := List.getElem?_eq_getElem hlt
    have e' : Ends C.prog C.w g1 mu1 s1 g' mu' { s' with heap := h', toks := tk } := e.poke hJ hgJ (hfp J hJfp).1 fun b o hb eb => hk' b o (fun q => hb (List.mem_singleton.mp q)) eb
    obtain ⟨o, Ty, ho, hc, hT⟩ := T.plain _ _ hst'
    refine letOwned_ok ho hc hT ?_
    have live' : ∀ b ∈ fp, ∃ o, h'.get? b = some o := fun b hb => by
      by_cases q : b = J
      · exact ⟨o, q ▸ ho⟩
      · obtain ⟨o', ho'⟩ := (hfp b hb).2
        exact ⟨o', hk' b o' (fun z => q (List.mem_singleton.mp z)) ho'⟩
    refine wpAny_mono (turn i _ mu' hx hIi v A g' { s' with heap := h', toks := tk } hA ((hH.trans e1.le).trans e'.le) ((T.item i v hP _ hx).mono e'.le) e'.st) (fun _ s3 ⟨g3, mu3, _, _, e3, q3⟩ => ?_) fun _ _ e => e
    refine wpAny_mono (q3 A g3 s3 hA (((hH.trans e1.le).trans e'.le).trans e3.le) trivial e3.st) (fun f s4 ⟨g4, mu4, φ, r4, e4, q4⟩ => ?_) fun _ _ e => e
    have e34 := e3.trans e4
    have back : Ends C.prog C.w g mu s g4 mu4 s4 := e1.trans (e'.trans e34)
    have again : I (i + 1) mu4 → ∃ m, m < xs.length + 1 - i ∧ ∃ i g' mu', m = xs.length + 1 - i ∧ i ≤ xs.length ∧ Ends C.prog C.w g1 mu1 s1 g' mu' s4 ∧ Sx i s4.heap ∧ I i mu' ∧ g' J = none ∧ ∀ b ∈ fp, b ∉ mu'.ads ∧ ∃ o, s4.heap.get? b = some o := fun hI => by
      have kp : ∀ b ∈ fp, ∀ o, h'.get? b = some o → s4.heap.get? b = some o := fun b hb o eo => e34.keep b o (hfp b hb).1 eo
      refine ⟨xs.length + 1 - (i + 1), by omega, i + 1, g4, mu4, rfl, hlt, e'.trans e34, T.walks.frame _ _ _ hst' kp, hI, ?_, fun b hb => ⟨fun hm => ?_, ?_⟩⟩
      · cases q : g4 J with
        | none => rfl
        | some o' =>
          rcases e34.newg J o' q with z | z | z
          · rw [hgJ] at z; cases z
          · exact absurd z (hfp J hJfp).1
          · obtain ⟨o2, ho2⟩ := live' J hJfp
            rw [z] at ho2; cases ho2
      · rcases e34.new b hm with z | z
        · exact (hfp b hb).1 z
        · obtain ⟨o2, ho2⟩ := live' b hb
          rw [z] at ho2; cases ho2
      · obtain ⟨o2, ho2⟩ := live' b hb
        exact ⟨o2, kp b hb o2 ho2⟩
    cases r4 with
    | next => exact again q4
    | cont => exact again q4
    | brk => exact ⟨g4, mu4, _, .next, back, q4⟩
    | ret hr => exact ⟨g4, mu4, _, .ret hr, back, q4⟩
  · have hin : i = xs.length := by omega
    subst hin
    refine T.walks.done s' _ _ hst fun h' tk hk' => ?_
    have e' : Ends C.prog C.w g1 mu1 s1 g' mu' { s' with heap := h', toks := tk } := e.poke hJ hgJ (hfp J hJfp).1 fun b o hb eb => hk' b o (fun q => hb (List.mem_singleton.mp q)) eb
    exact wpAny_execs_nil ⟨g', mu', _, .next, e1.trans e', fin _ hIi⟩

/-- the tests of a comprehension's one clause -/
abbrev Tests (C : Cx) (n : Nat) (mu : Mu) (env : Env) (ifs : List Expr) (Q : Bool → Mu → Prop) : Prop := WT C.prog C.w C.H n RB Tt mu (forIn ifs true fun c r => if r = true then do let ok ← isTrue c env (eval c env); pure (ForInStep.yield ok) else pure (ForInStep.yield r)) Q
theorem tests_nil {Q : Bool → Mu → Prop} (h : Q true mu) : Tests C n mu env [] Q := fun A g s _ _ _ S => wpAny_tests_nil ⟨g, mu, _, rfl, Ends.refl S, h⟩
theorem tests_one {e : Expr} {Q : Bool → Mu → Prop} (h : WB C n mu env e Q) : Tests C n mu env [e] Q := fun A g s hA hH _ S => wpAny_tests_one (h A g s hA hH trivial S)

def CompTurn (C : Cx) (n : Nat) (env : Env) (scope : Scope) (cl : List (Str × Addr)) (target elt : Expr) (ifs : List Expr) (xs : List AV) (I : Nat → List AV → Mu → Prop) : Prop :=
  ∀ (D : Addr) (m : List (Str × AV)) i x ys mu, xs[i]? = some x → I i ys mu → Was C n x ((D, .ns m) :: mu) (compEnvC scope cl D env) target fun _ mu2 => Tests C n mu2 (compEnvC scope cl D env) ifs fun ok mu3 =>
    if ok then WE C n mu3 (compEnvC scope cl D env) elt fun β mu4 => ∃ m' mu5, mu4 = (D, .ns m') :: mu5 ∧ I (i + 1) (ys ++ [β]) mu5 else ∃ m' mu5, mu3 = (D, .ns m') :: mu5 ∧ I (i + 1) ys mu5

theorem ads_snoc {a : Addr} {mo : MO} : Mu.ads (mu ++ [(a, mo)]) = mu.ads ++ [a] := by simp [Mu.ads]

/-- the loop of a comprehension, from its iterator on -/
theorem comp_block {A : Around} {g : FH} {s : Shared} {elt target iter : Expr} {ifs : List Expr} {scope : Scope} {pos : Pos} {cl : List (Str × Addr)} {xs : List AV} {J : Addr} {fp : List Addr} {P : Nat → Value → Prop} {Sx : Nat → Heap → Prop} {s₀ : Shared}
    {I : Nat → List AV → Mu → Prop} {RR : Value → Addr → Result → Shared → Prop} (hA : Room n A) (hH : C.H.le g) (T : ItAt C A g mu s J xs fp P Sx) (e₀ : Ends C.prog C.w g mu s₀ g mu s) (hJ : s₀.heap.get? J = none) (hsz : xs.length ≤ 1000)
    (hcell : ∀ y ∈ scope.names, y.2 ≠ .cell) (hkind : scope.kind = .function) (h0 : I 0 [] mu) (turn : CompTurn C n env scope cl target elt ifs xs I) (hlen : ∀ i ys mu, I i ys mu → ys.length ≤ i)
    (hRR : ∀ D E g' ys m mu' s', s₀.heap.get? E = none → Ends C.prog C.w g mu s₀ g' (((E, .ns m) :: mu') ++ [(D, .list ys)]) s' → I xs.length ys mu' → RR (.ref D) E (.ok .next) s') :
    wpAny (model C.prog C.w) A (newList []) (fun acc s₃ => wpAny (model C.prog C.w) A (newFunctionEnv scope env.globals cl [] env.qual none .none (some env)) (fun cenv s₄ =>
      codeAny (model C.prog C.w) A (.compStart (.ListComp elt [⟨target, iter, ifs, 0⟩] scope pos) 0 (.ref J) acc { cenv with scope := relabel scope env }) (RR acc cenv.locals) s₄) (fun _ _ => False) s₃) (fun _ _ => False) s := by
  have hJfp : J ∈ fp := T.walks.sub J (List.mem_singleton.mpr rfl)
  refine wpAny_newObj_type (wpAny_newFunctionEnv hcell (by intro y hy; simp at hy) (fun h₁ hns₁ hsb₁ => ?_) hkind)
  dsimp only at hns₁ hsb₁ ⊢
  generalize hH2 : s.heap.push { cls := .type "list", dict := none, data := .seq ([] : List Value).toArray } = H2 at hns₁ hsb₁ ⊢
  have hC : H2.objs.size = s.heap.objs.size + 1 := by rw [← hH2, Heap.size_push]
  generalize hD : s.heap.objs.size = D at hC
  generalize hE : H2.objs.size = E at hns₁ hsb₁ hC ⊢
  have fresh : ∀ a, s.heap.objs.size ≤ a → s.heap.get? a = none := fun a ha => by
    cases e : s.heap.get? a with
    | none => rfl
    | some o' => exact absurd (Heap.lt_size e) (Nat.not_lt.mpr ha)
  have hDf : s.heap.get? D = none := fresh D (Nat.le_of_eq hD)
  have hEf : s.heap.get? E = none := fresh E (by omega)
  have hDE : D ≠ E := by rw [hC]; exact Nat.ne_of_lt (Nat.lt_succ_self _)
  have hE0 : s₀.heap.get? E = none := by
    cases q : s₀.heap.get? E with
    | none => rfl
    | some o' =>
      by_cases hm : E ∈ mu.ads
      · obtain ⟨o2, ho2⟩ := e₀.st.live hm
        rw [hEf] at ho2; cases ho2
      · rw [e₀.keep E o' hm q] at hEf; cases hEf
  have old : ∀ b o, s.heap.get? b = some o → h₁.get? b = some o := fun b o e => hsb₁.extBut b o (fun q => by rw [q, hEf] at e; cases e) (Heap.get?_push_of_some _ (hH2 ▸ Heap.get?_push_of_some _ e))
  have hDl : h₁.PlainList D #[] := ⟨_, hsb₁.extBut _ _ hDE (Heap.get?_push_of_some _ (hH2 ▸ hD ▸ Heap.get?_push_size _ rfl))⟩
  have S := e₀.st
  have e₁ : Ends C.prog C.w g mu s₀ g (((E, .ns []) :: mu) ++ [(D, .list [])]) { s with heap := h₁, toks := s.toks + ([] : List (Str × Value)).length } := by
    have := e₀.trans (Ends.grow (g' := g) (new := [(D, .list []), (E, .ns [])]) (t := s.toks + ([] : List (Str × Value)).length) S old FH.le.rfl (fun _ _ e => .inl e)
      (fun a ha => by simp [Mu.ads] at ha; rcases ha with rfl | rfl <;> assumption) (by simp [Mu.ads, hDE])
      (fun p hp => by
        simp at hp
        rcases hp with rfl | rfl
        · exact ⟨#[], hDl, .nil⟩
        · exact ⟨_, hns₁, fun x α e => nomatch e⟩))
    refine this.perm (.refl _) ?_
    show List.Perm ((D, MO.list []) :: ((E, .ns []) :: mu)) (((E, MO.ns []) :: mu) ++ [(D, .list [])])
    exact (List.perm_append_singleton _ _).symm
  have loop : ∀ s₃ : Shared, s₃ = { s with heap := h₁, toks := s.toks + ([] : List (Str × Value)).length } →
      codeAny (model C.prog C.w) A (.compLoop (.ListComp elt [⟨target, iter, ifs, 0⟩] scope pos) 0 (.ref J) (.ref D) (compEnvC scope cl E env)) (RR (.ref D) E) s₃ := by
    rintro s₃ rfl
    refine compLoop2 (fun k s' => ∃ i g' ys m mu', k = xs.length + 1 - i ∧ i ≤ xs.length ∧ Ends C.prog C.w g mu s₀ g' (((E, .ns m) :: mu') ++ [(D, .list ys)]) s' ∧ Sx i s'.heap ∧ I i ys mu' ∧ g' J = none ∧ ∀ b ∈ fp, b ∉ Mu.ads (((E, .ns m) :: mu') ++ [(D, .list ys)]) ∧ ∃ o, s'.heap.get? b = some o) ?_ (xs.length + 1)
      ⟨0, g, [], [], mu, rfl, Nat.zero_le _, e₁, T.walks.frame _ _ _ T.st fun b hb o e => old b o e, h0, T.offg, fun b hb => ⟨fun hm => ?_, ?_⟩⟩
    rotate_left
    · rw [ads_snoc] at hm
      obtain ⟨o, ho⟩ := T.live b hb
      rcases List.mem_append.mp hm with hm | hm
      · rcases List.mem_cons.mp hm with hm | hm
        · have hm : b = E := hm
          rw [hm, hEf] at ho; cases ho
        · exact T.off b hb hm
      · rw [List.mem_singleton.mp hm, hDf] at ho; cases ho
    · obtain ⟨o, ho⟩ := T.live b hb
      exact ⟨o, old b o ho⟩
    rintro k s' ⟨i, g', ys, m, mu', rfl, hi, e, hst, hIi, hgJ, hfp⟩
    by_cases hlt : i < xs.length
    · refine T.walks.item i s' _ _ hlt hst fun v h' tk hP hst' hk' => ?_
      have hx : xs[i]? = some xs[i] := List.getElem?_eq_getElem hlt
      have e' : Ends C.prog C.w g mu s₀ g' (((E, .ns m) :: mu') ++ [(D, .list ys)]) { s' with heap := h', toks := tk } := e.poke hJ hgJ (hfp J hJfp).1 fun b o hb eb => hk' b o (fun q => hb (List.mem_singleton.mp q)) eb
      obtain ⟨o, Ty, ho, hc, hT⟩ := T.plain _ _ hst'
      refine letOwned_ok ho hc hT ?_
      have live' : ∀ b ∈ fp, ∃ o, h'.get? b = some o := fun b hb => by
        by_cases q : b = J
        · exact ⟨o, q ▸ ho⟩
        · obtain ⟨o', ho'⟩ := (hfp b hb).2
          exact ⟨o', hk' b o' (fun z => q (List.mem_singleton.mp z)) ho'⟩
      refine wpAny_mono (WT.frame (F := [(D, .list ys)]) (turn E m i _ ys mu' hx hIi v) A g' { s' with heap := h', toks := tk } hA (hH.trans e'.le) ((T.item i v hP _ hx).mono e'.le) e'.st) (fun _ s3 ⟨g3, mu3, _, _, e3, m3, hm3, q3⟩ => ?_) fun _ _ e => e
      subst hm3
      refine wpAny_mono (WT.frame (F := [(D, .list ys)]) q3 A g3 s3 hA ((hH.trans e'.le).trans e3.le) trivial e3.st) (fun ok s4 ⟨g4, mu4, ok', r4, e4, m4, hm4, q4⟩ => ?_) fun _ _ e => e
      subst hm4
      cases r4
      have hH4 := ((hH.trans e'.le).trans e3.le).trans e4.le
      have again : ∀ g5 ys5 m5 mu5 s5, Ends C.prog C.w g' (((E, .ns m) :: mu') ++ [(D, .list ys)]) { s' with heap := h', toks := tk } g5 (((E, .ns m5) :: mu5) ++ [(D, .list ys5)]) s5 → I (i + 1) ys5 mu5 →
          ∃ k, k < xs.length + 1 - i ∧ ∃ i g' ys m mu', k = xs.length + 1 - i ∧ i ≤ xs.length ∧ Ends C.prog C.w g mu s₀ g' (((E, .ns m) :: mu') ++ [(D, .list ys)]) s5 ∧ Sx i s5.heap ∧ I i ys mu' ∧ g' J = none ∧ ∀ b ∈ fp, b ∉ Mu.ads (((E, .ns m) :: mu') ++ [(D, .list ys)]) ∧ ∃ o, s5.heap.get? b = some o := by
        intro g5 ys5 m5 mu5 s5 e35 hI5
        have kp : ∀ b ∈ fp, ∀ o, h'.get? b = some o → s5.heap.get? b = some o := fun b hb o eo => e35.keep b o (hfp b hb).1 eo
        refine ⟨xs.length + 1 - (i + 1), by omega, i + 1, g5, ys5, m5, mu5, rfl, hlt, e'.trans e35, T.walks.frame _ _ _ hst' kp, hI5, ?_, fun b hb => ⟨fun hm => ?_, ?_⟩⟩
        · cases q : g5 J with
          | none => rfl
          | some o' =>
            rcases e35.newg J o' q with z | z | z
            · rw [hgJ] at z; cases z
            · exact absurd z (hfp J hJfp).1
            · obtain ⟨o2, ho2⟩ := live' J hJfp
              rw [z] at ho2; cases ho2
        · rcases e35.new b hm with z | z
          · exact (hfp b hb).1 z
          · obtain ⟨o2, ho2⟩ := live' b hb
            rw [z] at ho2; cases ho2
        · obtain ⟨o2, ho2⟩ := live' b hb
          exact ⟨o2, kp b hb o2 ho2⟩
      cases ok with
      | false =>
        obtain ⟨m', mu5, rfl, hI5⟩ := q4
        exact again g4 ys m' mu5 s4 (e3.trans e4) hI5
      | true =>
        refine wpAny_mono (WT.frame (F := [(D, .list ys)]) q4 A g4 s4 hA hH4 trivial e4.st) (fun β s5 ⟨g5, mu5, β', r5, e5, m5, hm5, m', mu6, hm6, hI5⟩ => ?_) fun _ _ e => e
        subst hm5
        subst hm6
        have hin : (D, MO.list ys) ∈ ((E, MO.ns m') :: mu6) ++ [(D, .list ys)] := by simp
        obtain ⟨its, hl, hr⟩ := e5.st.is _ hin
        have hsz' : its.size ≤ sizeLine := by
          have h1 : its.toList.length = ys.length := by
            clear hl
            have : ∀ {vs : List Value} {αs : List AV}, Reps C.prog C.w g5 vs αs → vs.length = αs.length := by
              intro vs
              induction vs with
              | nil => intro αs h; cases h; rfl
              | cons v r ih => intro αs h; cases h with | cons _ h2 => simp [ih h2]
            exact this hr
          have h2 := hlen _ _ _ hI5
          rw [sizeLine_eq]
          simp at h1 h2
          omega
        refine wpAny_list_append_plain (hsz := hsz') hl fun h6 hl6 hs6 => ?_
        have hi6 : (((E, MO.ns m') :: mu6) ++ [(D, .list ys)])[(((E, MO.ns m') :: mu6)).length]? = some (D, .list ys) := by simp
        have e6 := Ends.upd (t := s5.toks) (mo' := .list (ys ++ [β'])) e5.st hi6 (fun b o hb eb => hs6.extBut b o hb eb) ⟨_, hl6, by
          have : ∀ {vs : List Value} {αs : List AV}, Reps C.prog C.w g5 vs αs → Reps C.prog C.w g5 (vs ++ [β]) (αs ++ [β']) := by
            intro vs
            induction vs with
            | nil => intro αs h; cases h; exact .cons r5 .nil
            | cons v r ih => intro αs h; cases h with | cons h1 h2 => exact .cons h1 (ih h2)
          simpa using this hr⟩
        have hset : ((((E, MO.ns m') :: mu6) ++ [(D, MO.list ys)]).set (((E, MO.ns m') :: mu6)).length (D, .list (ys ++ [β']))) = ((E, MO.ns m') :: mu6) ++ [(D, .list (ys ++ [β']))] := by simp
        rw [hset] at e6
        exact again g5 (ys ++ [β']) m' mu6 _ ((e3.trans e4).trans (e5.trans e6)) hI5
    · have hin : i = xs.length := by omega
      subst hin
      refine T.walks.done s' _ _ hst fun h' tk hk' => ?_
      exact hRR D E g' ys m mu' _ hE0 (e.poke hJ hgJ (hfp J hJfp).1 fun b o hb eb => hk' b o (fun q => hb (List.mem_singleton.mp q)) eb) hIi
  exact codeAny_compStart_list (loop _ rfl) (T.walks.self 0 _ _ _ (T.walks.frame _ _ _ T.st fun b hb o e => old b o e) (loop _ rfl))
end

section
variable {prog : Program} {w : World}
theorem frz_list {g : FH} {mu : Mu} {s : Shared} {a : Addr} {ys : List AV} (S : St prog w g ((a, .list ys) :: mu) s.heap) :
    ∃ g', Ends prog w g ((a, .list ys) :: mu) s g' mu s ∧ Rep prog w g' (.ref a) (.list ys) := by
  obtain ⟨its, ⟨k, ho⟩, hr⟩ := S.is _ (List.mem_cons_self ..)
  exact ⟨_, Ends.freeze S ho, .list (FH.add_self ..) (hr.mono (FH.le_add (S.off a (List.mem_cons_self ..))))⟩
theorem frz_dict {g : FH} {mu : Mu} {s : Shared} {a : Addr} {ys : List (Str × AV)} (S : St prog w g ((a, .dictS ys) :: mu) s.heap) :
    ∃ g', Ends prog w g ((a, .dictS ys) :: mu) s g' mu s ∧ Rep prog w g' (.ref a) (.dict ys) := by
  obtain ⟨kvv, ⟨o, es, ep, ho, hx, hd, hk, hp, hn⟩, hr, hm⟩ := S.is _ (List.mem_cons_self ..)
  exact ⟨_, Ends.freeze S ho, .dict (FH.add_self ..) ⟨hx, es, ep, hd, hk, hp, hn⟩ hm (hr.mono (FH.le_add (S.off a (List.mem_cons_self ..))))⟩
theorem WT.frz {H : FH} {n : Nat} {T : FH → Prop} {mu : Mu} {t : Sem Value} {Q : AV → Mu → Prop} (h : WT prog w H n (Rep prog w) T mu t fun α mu' => ∃ a ys m, α = .val (.ref a) ∧ mu' = (a, .list ys) :: m ∧ Q (.list ys) m) :
    WT prog w H n (Rep prog w) T mu t Q := fun A g s hA hg hT S => by
  refine wpAny_mono (h A g s hA hg hT S) (fun v s' hh => ?_) fun _ _ e => e
  obtain ⟨g', mu', α, h1, h2, a, ys, m, rfl, rfl, h3⟩ := hh
  cases h1
  obtain ⟨g'', h4, h5⟩ := frz_list h2.st
  exact ⟨g'', m, _, h5, h2.trans h4, h3⟩
/-- an entry is frozen ahead of a step -/
theorem WT.frzT {β β' : Type} {R : FH → β → β' → Prop} {H : FH} {n : Nat} {T T' : FH → Prop} {mu mu₁ : Mu} {t : Sem β} {Q : β' → Mu → Prop} {a : Addr} {mo : MO} {α : AV}
    (hf : (∃ ys, mo = .list ys ∧ α = .list ys) ∨ (∃ ys, mo = .dictS ys ∧ α = .dict ys)) (hp : mu₁.Perm ((a, mo) :: mu)) (hT : ∀ g g', g.le g' → T g → Rep prog w g' (.ref a) α → T' g')
    (h : WT prog w H n R T' mu t Q) : WT prog w H n R T mu₁ t Q := fun A g s hA hg hTg S => by
  have S' := S.perm hp
  have key : ∃ g', Ends prog w g ((a, mo) :: mu) s g' mu s ∧ Rep prog w g' (.ref a) α := by
    rcases hf with ⟨ys, rfl, rfl⟩ | ⟨ys, rfl, rfl⟩
    · exact frz_list S'
    · exact frz_dict S'
  obtain ⟨g', e, hr⟩ := key
  refine wpAny_mono (h A g' s hA (hg.trans e.le) (hT _ _ e.le hTg hr) e.st) (fun v s' hh => ?_) fun _ _ e => e
  obtain ⟨g'', mu', α', h1, h2, h3⟩ := hh
  exact ⟨g'', mu', α', h1, (e.trans h2).perm hp.symm (.refl _), h3⟩
end

section
variable {C : Cx} {n : Nat} {mu : Mu} {env : Env}
theorem ends_list_ns {g g' : FH} {s s' : Shared} {h' : Heap} {mu mu' : Mu} {D E : Addr} {ys : List AV} {m : List (Str × AV)} (hE : s.heap.get? E = none) (e : Ends C.prog C.w g mu s g' (((E, .ns m) :: mu') ++ [(D, .list ys)]) s') (hs : Heap.SameBut E s'.heap h') :
    Ends C.prog C.w g mu s g' ((D, .list ys) :: mu') { s' with heap := h' } := by
  have hp : (((E, MO.ns m) :: mu') ++ [(D, MO.list ys)]).Perm ([(E, MO.ns m)] ++ ((D, .list ys) :: mu')) := by
    simp only [List.cons_append, List.nil_append]
    exact List.Perm.cons _ (List.perm_append_singleton _ _)
  have e1 := e.perm (.refl _) hp
  have nd := e1.st.nd
  have hoff := e1.st.off E (by simp [Mu.ads])
  have hni : E ∉ Mu.ads ((D, .list ys) :: mu') := (List.nodup_cons.mp (show (E :: Mu.ads ((D, .list ys) :: mu')).Nodup from nd)).1
  exact (e1.drop).poke (t := s'.toks) hE hoff hni fun b o hb eb => hs.extBut b o hb eb

theorem E_comp {elt target iter : Expr} {ifs : List Expr} {scope : Scope} {pos : Pos} {cl : List (Str × Addr)} {Q : AV → Mu → Prop} (I : Nat → List AV → Mu → Prop) (hs : ∀ x, foldedSetIterable iter env x = pure x) (hclos : closureFor scope env = pure cl)
    (hcell : ∀ y ∈ scope.names, y.2 ≠ .cell) (hkind : scope.kind = .function) (hnames : ∀ y ∈ scope.names, y.2 = .local → scope.names.lookup y.1 = some .local)
    (hlen : ∀ i ys mu, I i ys mu → ys.length ≤ i)
    (h : WE C n mu env iter fun α mu1 => ∃ xs, IterOf C α xs ∧ xs.length ≤ 1000 ∧ I 0 [] mu1 ∧ CompTurn C n env scope cl target elt ifs xs I ∧ ∀ ys mu a, I xs.length ys mu → Q (.val (.ref a)) ((a, .list ys) :: mu)) :
    WE C n mu env (.ListComp elt [⟨target, iter, ifs, 0⟩] scope pos) Q := fun A g s hA hH _ S => by
  rw [eval_ListComp]
  refine wpAny_comprehension_free (use := none) rfl hs hclos hkind hnames (wpAny_mono (h A g s hA hH trivial S) (fun x s1 hh => ?_) fun _ _ e => e)
  obtain ⟨g1, mu1, α, r1, e1, xs, hit, hsz, h0, turn, fin⟩ := hh
  refine wpAny_mono (hit A g1 mu1 s1 x (hA.le (Nat.zero_le _)) (hH.trans e1.le) r1 e1.st) (fun it s2 hh => ?_) fun _ _ e => e
  obtain ⟨J, fp, P, Sx, rfl, T, hk, hJ, h2, t2, rfl⟩ := hh
  have e2 : Ends C.prog C.w g1 mu1 s1 g1 mu1 { s1 with heap := h2, toks := t2 } := Ends.grow0 e1.st hk
  refine comp_block (RR := fun acc E => compPost (model C.prog C.w) A (fun _ _ => False) none (fun v s' => ∃ g' mu' α, Rep C.prog C.w g' v α ∧ Ends C.prog C.w g mu s g' mu' s' ∧ Q α mu') acc E) hA (hH.trans e1.le) T e2 hJ hsz hcell hkind h0 turn hlen ?_
  intro D E g' ys m mu' s' hE e hI
  obtain ⟨f, hns, _⟩ := e.st.is (E, .ns m) (by simp)
  exact ⟨f, hns, fun h' hsb => ⟨g', _, _, .val _, e1.trans (ends_list_ns hE e hsb), fin ys mu' D hI⟩⟩

theorem E_compF {elt target iter : Expr} {ifs : List Expr} {scope : Scope} {pos : Pos} {cl : List (Str × Addr)} {Q : AV → Mu → Prop} (I : Nat → List AV → Mu → Prop) (hs : ∀ x, foldedSetIterable iter env x = pure x) (hclos : closureFor scope env = pure cl)
    (hcell : ∀ y ∈ scope.names, y.2 ≠ .cell) (hkind : scope.kind = .function) (hnames : ∀ y ∈ scope.names, y.2 = .local → scope.names.lookup y.1 = some .local)
    (hlen : ∀ i ys mu, I i ys mu → ys.length ≤ i)
    (h : WE C n mu env iter fun α mu1 => ∃ xs, IterOf C α xs ∧ xs.length ≤ 1000 ∧ I 0 [] mu1 ∧ CompTurn C n env scope cl target elt ifs xs I ∧ ∀ ys mu, I xs.length ys mu → Q (.list ys) mu) :
    WE C n mu env (.ListComp elt [⟨target, iter, ifs, 0⟩] scope pos) Q :=
  WT.frz (E_comp I hs hclos hcell hkind hnames hlen (WT.mono h fun α mu1 ⟨xs, h1, h2, h3, h4, h5⟩ => ⟨xs, h1, h2, h3, h4, fun ys mu a hI => ⟨a, ys, mu, rfl, rfl, h5 ys mu hI⟩⟩))

/-- y = [comprehension], y a local, the store is exchanged -/
theorem X_assign_comp {elt target iter : Expr} {ifs : List Expr} {scope : Scope} {pos spos py : Pos} {y : Str} {cl : List (Str × Addr)} {Q : AF → Mu → Prop} (I : Nat → List AV → Mu → Prop)
    (hsw : swapsWith (.ListComp elt [⟨target, iter, ifs, 0⟩] scope pos) (some (.Name y py)) spos.line env = pure true)
    (hs : ∀ x, foldedSetIterable iter env x = pure x) (hclos : closureFor scope env = pure cl)
    (hcell : ∀ y ∈ scope.names, y.2 ≠ .cell) (hkind : scope.kind = .function) (hnames : ∀ y ∈ scope.names, y.2 = .local → scope.names.lookup y.1 = some .local)
    (hlen : ∀ i ys mu, I i ys mu → ys.length ≤ i)
    (h : WE C n mu env iter fun α mu1 => ∃ xs, IterOf C α xs ∧ xs.length ≤ 1000 ∧ I 0 [] mu1 ∧ CompTurn C n env scope cl target elt ifs xs I ∧ ∀ ys mu, I xs.length ys mu → Wst C n (.list ys) mu env y fun _ mu2 => Q .next mu2) :
    WX C n mu env (.Assign [.Name y py] (.ListComp elt [⟨target, iter, ifs, 0⟩] scope pos) spos) Q := fun A g s hA hH _ S => by
  rw [exec_Assign_Name_used _ _ _ _ hsw]
  refine wpAny_bind (wpAny_standAt (wpAny_bind ?_))
  show wpAny _ A (do let _ ← comprehension (.ListComp elt [⟨target, iter, ifs, 0⟩] scope pos) scope env _ (newList []) false (eval iter env) (some (assign (.Name y py) env))) _ _ s
  refine wpAny_bind (wpAny_mono (wpAny_comprehension_free (use := some (assign (.Name y py) env)) (Q := fun _ s' => ∃ g' mu' φ, RF C g' .next φ ∧ Ends C.prog C.w g mu s g' mu' s' ∧ Q φ mu') rfl hs hclos hkind hnames (wpAny_mono (h A g s hA hH trivial S) (fun x s1 hh => ?_) fun _ _ e => e)) (fun _ s' hq => wpAny_pure (wpAny_pure hq)) fun _ _ e => e)
  obtain ⟨g1, mu1, α, r1, e1, xs, hit, hsz, h0, turn, fin⟩ := hh
  refine wpAny_mono (hit A g1 mu1 s1 x (hA.le (Nat.zero_le _)) (hH.trans e1.le) r1 e1.st) (fun it s2 hh => ?_) fun _ _ e => e
  obtain ⟨J, fp, P, Sx, rfl, T, hk, hJ, h2, t2, rfl⟩ := hh
  have e2 : Ends C.prog C.w g1 mu1 s1 g1 mu1 { s1 with heap := h2, toks := t2 } := Ends.grow0 e1.st hk
  refine comp_block (RR := fun acc E => compPost (model C.prog C.w) A (fun _ _ => False) (some (assign (.Name y py) env)) (fun _ s' => ∃ g' mu' φ, RF C g' .next φ ∧ Ends C.prog C.w g mu s g' mu' s' ∧ Q φ mu') acc E) hA (hH.trans e1.le) T e2 hJ hsz hcell hkind h0 turn hlen ?_
  intro D E g' ys m mu' s' hE e hI
  show wpAny _ A (assign (.Name y py) env (.ref D)) _ _ _
  have hp : (((E, MO.ns m) :: mu') ++ [(D, MO.list ys)]).Perm ((D, .list ys) :: (mu' ++ [(E, .ns m)])) := by
    refine (List.perm_append_singleton _ _).trans (List.Perm.cons _ ?_)
    exact (List.perm_append_singleton _ _).symm
  have e3 := e.perm (.refl _) hp
  obtain ⟨g4, e4, hr4⟩ := frz_list e3.st
  have hH4 := ((hH.trans e1.le).trans e3.le).trans e4.le
  refine wpAny_mono (WT.frame (F := [(E, .ns m)]) (as_name (fin ys mu' hI) (.ref D)) A g4 s' hA hH4 hr4 e4.st) (fun _ s5 hh => ?_) fun _ _ e => e
  obtain ⟨g5, mu5, _, _, e5, m6, rfl, q5⟩ := hh
  obtain ⟨f, hns, _⟩ := e5.st.is (E, .ns m) (by simp)
  refine ⟨f, hns, fun h' hsb => ⟨g5, m6, _, .next, ?_, q5⟩⟩
  have eall := (e3.trans e4).trans e5
  have e6 := eall.perm (.refl _) (show (m6 ++ [(E, MO.ns m)]).Perm ([(E, MO.ns m)] ++ m6) from List.perm_append_comm)
  have hoff := e6.st.off E (by simp [Mu.ads])
  have hni : E ∉ Mu.ads m6 := (List.nodup_cons.mp (show (E :: Mu.ads m6).Nodup from e6.st.nd)).1
  exact e1.trans ((e6.drop).poke (t := s5.toks) hE hoff hni fun b o hb eb => hsb.extBut b o hb eb)
end
end Mine
end
section
open PySem PySem.W PyProof.Rows
namespace Mine
section
variable {prog : Program} {w : World} {g : FH}
theorem Reps.length : ∀ {vs : List Value} {αs : List AV}, Reps prog w g vs αs → vs.length = αs.length
  | _, _, .nil => rfl
  | _, _, .cons _ h => by simp [Reps.length h]
theorem Reps.get : ∀ {vs : List Value} {αs : List AV}, Reps prog w g vs αs → ∀ {i : Nat} {v : Value} {α : AV}, vs[i]? = some v → αs[i]? = some α → Rep prog w g v α
  | _, _, .nil, i, v, α, e, _ => by simp at e
  | _, _, .cons h1 h2, 0, v, α, e, e' => by simp at e e'; subst e; subst e'; exact h1
  | _, _, .cons h1 h2, i + 1, v, α, e, e' => by simp at e e'; exact Reps.get h2 e e'
theorem Reps.at : ∀ {vs : List Value} {αs : List AV}, Reps prog w g vs αs → ∀ {i : Nat} {α : AV}, αs[i]? = some α → ∃ v, vs[i]? = some v ∧ Rep prog w g v α := fun {vs αs} h {i α} e => by
  have hi : i < αs.length := (List.getElem?_eq_some_iff.mp e).1
  have hi' : i < vs.length := by rw [h.length]; exact hi
  exact ⟨vs[i], List.getElem?_eq_getElem hi', h.get (List.getElem?_eq_getElem hi') e⟩
theorem Reps.append : ∀ {vs : List Value} {αs : List AV} {ws : List Value} {βs : List AV}, Reps prog w g vs αs → Reps prog w g ws βs → Reps prog w g (vs ++ ws) (αs ++ βs)
  | _, _, _, _, .nil, h => h
  | _, _, _, _, .cons h1 h2, h => .cons h1 (Reps.append h2 h)
theorem RepsD.keys : ∀ {vs : List (Str × Value)} {αs : List (Str × AV)}, RepsD prog w g vs αs → vs.map (·.1) = αs.map (·.1)
  | _, _, .nil => rfl
  | _, _, .cons _ h => by simp [RepsD.keys h]
theorem RepsD.at : ∀ {vs : List (Str × Value)} {αs : List (Str × AV)}, RepsD prog w g vs αs → ∀ {k : Str} {α : AV}, αs.lookup k = some α → ∃ v, valueAt vs k = some v ∧ Rep prog w g v α
  | _, _, .nil, k, α, e => by simp at e
  | _, _, .cons (k := k') h1 h2, k, α, e => by
    rw [List.lookup_cons] at e
    by_cases hk : k = k'
    · subst hk
      rw [beq_self_eq_true] at e
      cases e
      exact ⟨_, by simp [valueAt], h1⟩
    · rw [beq_eq_false_iff_ne.mpr hk] at e
      obtain ⟨v, h3, h4⟩ := RepsD.at h2 e
      refine ⟨v, ?_, h4⟩
      have hk' : ¬ k' = k := fun q => hk q.symm
      simpa [valueAt, List.find?_cons, hk'] using h3
end

section
variable {C : Cx}
theorem fresh_size {h : Heap} : h.get? h.objs.size = none := by
  cases e : h.get? h.objs.size with
  | none => rfl
  | some o => exact absurd (Heap.lt_size e) (Nat.lt_irrefl _)

theorem ItAt.mk' {A : Around} {g : FH} {mu : Mu} {s : Shared} {h' : Heap} {I a : Addr} {xs : List AV} {P : Nat → Value → Prop} {Sx : Nat → Heap → Prop} {o oI : Obj} (S : St C.prog C.w g mu s.heap) (hI : s.heap.get? I = none) (ha : s.heap.get? a = some o)
    (hoff : a ∉ mu.ads) (hk : ∀ b o, s.heap.get? b = some o → h'.get? b = some o) (hI' : h'.get? I = some oI) (W : Walks C.prog C.w A I [I, a] [I] xs.length P Sx) (st : Sx 0 h')
    (plain : ∀ i h, Sx i h → ∃ o T, h.get? I = some o ∧ o.cls = .type T ∧ ownedT T = false) (item : ∀ i v, P i v → ∀ α, xs[i]? = some α → Rep C.prog C.w g v α) {t : Nat} :
    ItAt C A g mu { s with heap := h', toks := t } I xs [I, a] P Sx := by
  refine ⟨W, st, fun b hb => ?_, fun b hb hm => ?_, plain, item, ?_⟩
  · simp at hb
    rcases hb with rfl | rfl
    · exact ⟨_, hI'⟩
    · exact ⟨_, hk _ _ ha⟩
  · simp at hb
    rcases hb with rfl | rfl
    · obtain ⟨o', ho'⟩ := S.live hm
      rw [hI] at ho'; cases ho'
    · exact hoff hm
  · cases e : g I with
    | none => rfl
    | some o' => have := S.sub I o' e; rw [hI] at this; cases this

theorem off_of_g {g : FH} {mu : Mu} {h : Heap} {a : Addr} {o : Obj} (S : St C.prog C.w g mu h) (e : g a = some o) : a ∉ mu.ads := fun hm => by
  rw [S.off a hm] at e; cases e

theorem iter_seq_list {A : Around} {g : FH} {mu : Mu} {s : Shared} {a : Addr} {o : Obj} {its : Array Value} {n : Nat} {xs : List AV} (hA : Room 0 A) (S : St C.prog C.w g mu s.heap) (h1 : g a = some o) (h2 : o.cls = .type "list") (h3 : o.data = .seq its n) (h4 : Reps C.prog C.w g its.toList xs) :
    wpAny (model C.prog C.w) A (pyIter (.ref a)) (fun it s' => ∃ I fp P Sx, it = .ref I ∧ ItAt C A g mu s' I xs fp P Sx ∧ (∀ b o, s.heap.get? b = some o → s'.heap.get? b = some o) ∧ s.heap.get? I = none ∧ ∃ h t, s' = { s with heap := h, toks := t }) (fun _ _ => False) s := by
  have ha := S.sub a o h1
  have hl : s.heap.IsList a its := ⟨o, ha, h2, n, h3⟩
  have hne : a ≠ s.heap.objs.size := Nat.ne_of_lt (Heap.lt_size ha)
  have hlen : its.size = xs.length := by rw [← h4.length]; simp
  refine wpAny_pyIter_list hl ⟨_, _, _, _, rfl, ItAt.mk' (t := s.toks) S fresh_size ha (off_of_g S h1) (fun b o e => Heap.get?_push_of_some _ e) (Heap.get?_push_size _ rfl) (hlen ▸ Walks.list hA.handled _ a hne its)
    ⟨⟨_, Heap.get?_push_size _ rfl, rfl, rfl⟩, hl.push _⟩ (fun i h st => ?_) (fun i v hP α e => h4.get (by rw [Array.getElem?_toList]; exact hP) e), fun b o e => Heap.get?_push_of_some _ e, fresh_size, _, _, rfl⟩
  obtain ⟨⟨o', ho', hc, _⟩, _⟩ := st
  exact ⟨o', _, ho', hc, by decide⟩
theorem iter_list {xs : List AV} : IterOf C (.list xs) xs := fun A g mu s v hA hH hr S => by
  cases hr with
  | list h1 h4 => exact iter_seq_list hA S h1 rfl rfl h4
theorem iter_tup {xs : List AV} : IterOf C (.tup xs) xs := fun A g mu s v hA hH hr S => by
  cases hr with
  | @tup a o its n xs h1 h2 h3 h4 =>
    have ha := S.sub a o h1
    have hl : s.heap.IsTuple a its := ⟨o, ha, h2, n, h3⟩
    have hne : a ≠ s.heap.objs.size := Nat.ne_of_lt (Heap.lt_size ha)
    have hlen : its.size = xs.length := by rw [← h4.length]; simp
    refine wpAny_pyIter_tuple hl ⟨_, _, _, _, rfl, ItAt.mk' (t := s.toks) S fresh_size ha (off_of_g S h1) (fun b o e => Heap.get?_push_of_some _ e) (Heap.get?_push_size _ rfl) (hlen ▸ Walks.tuple hA.handled _ a hne its)
      ⟨⟨_, Heap.get?_push_size _ rfl, rfl, rfl⟩, hl.push _⟩ (fun i h st => ?_) (fun i v hP α e => h4.get (by rw [Array.getElem?_toList]; exact hP) e), fun b o e => Heap.get?_push_of_some _ e, fresh_size, _, _, rfl⟩
    obtain ⟨⟨o', ho', hc, _⟩, _⟩ := st
    exact ⟨o', _, ho', hc, by decide⟩
theorem RepsD.key_at {prog : Program} {w : World} {g : FH} {vs : List (Str × Value)} {kvs : List (Str × AV)} (h : RepsD prog w g vs kvs) {i : Nat} {k : Str} {x : Value} (e : vs[i]? = some (k, x)) : (kvs.map (·.1))[i]? = some k := by
  rw [← h.keys]; simp [e]
theorem iter_dict {kvs : List (Str × AV)} : IterOf C (.dict kvs) (kvs.map fun p => .str p.1) := fun A g mu s v hA hH hr S => by
  cases hr with
  | @dict a o kvv kvs h1 h2 h3 h4 =>
    obtain ⟨hx, es, ep, hd, hk, hp, hn⟩ := h2
    have ha := S.sub a o h1
    have hm : s.heap.DictAt (strKind C.prog C.w) a kvv ep := ⟨o, es, ha, hx, hd, hk, hp, hn⟩
    have hne : a ≠ s.heap.objs.size := Nat.ne_of_lt (Heap.lt_size ha)
    have hlen : kvv.length = (kvs.map fun p => AV.str p.1).length := by
      have := congrArg List.length h4.keys
      simpa using this
    refine wpAny_pyIter_dict h3 hm ⟨_, _, _, _, rfl, ItAt.mk' (t := s.toks) S fresh_size ha (off_of_g S h1) (fun b o e => Heap.get?_push_of_some _ e) (Heap.get?_push_size _ rfl) (P := fun i v => ∃ k x, kvv[i]? = some (k, x) ∧ (strKind C.prog C.w).is k v = true) (Sx := fun i h => h.IsKeyIter s.heap.objs.size a i kvv.length ep ∧ h.DictAt (strKind C.prog C.w) a kvv ep) (by rw [← hlen]; exact Walks.dictKeys hA.handled _ a hne kvv ep)
      ⟨⟨_, Heap.get?_push_size _ rfl, rfl, rfl⟩, hm.push _⟩ (fun i h st => ?_) (fun i v hP α e => ?_), fun b o e => Heap.get?_push_of_some _ e, fresh_size, _, _, rfl⟩
    · obtain ⟨⟨o', ho', hc, _⟩, _⟩ := st
      exact ⟨o', _, ho', hc, by decide⟩
    · obtain ⟨k, x, h5, h6⟩ := hP
      obtain ⟨t, rfl⟩ := Value.isStrOf_shape h6
      have := h4.key_at h5
      rw [List.getElem?_map] at this e
      cases q : kvs[i]? with
      | none => rw [q] at e; cases e
      | some p =>
        rw [q] at e this
        cases e
        cases this
        exact .str _ _
theorem iter_range {n : Nat} (hn : n ≤ 1000) : IterOf C (.range (n : Int)) ((List.range n).map fun i : Nat => AV.int (i : Int)) := fun A g mu s v hA hH hr S => by
  cases hr with
  | @range a _ t u v h1 =>
    have ha := S.sub _ _ h1
    have hsz : Builtin.Range.rangeSize 0 (n : Int) 1 = (n : Int) := by
      unfold Builtin.Range.rangeSize
      simp
      omega
    have hsmall : Builtin.Range.small 0 (n : Int) 1 = true := by
      unfold Builtin.Range.small
      rw [hsz]
      simp [Builtin.Range.rangeFitsLong]
      omega
    have hlen : n = ((List.range n).map fun i : Nat => AV.int (i : Int)).length := by simp
    refine wpAny_pyIter_range ha hsmall ?_
    rw [hsz]
    have W := Walks.range (prog := C.prog) (w := C.w) hA.handled s.heap.objs.size 0 1 n
    refine ⟨s.heap.objs.size, [s.heap.objs.size], _, _, rfl, ⟨hlen ▸ W, ?_, fun b hb => ?_, fun b hb hm => ?_, fun i h st => ⟨_, _, st, rfl, by decide⟩, fun i v hP α e => ?_, ?_⟩, fun b o e => Heap.get?_push_of_some _ e, fresh_size, _, _, rfl⟩
    · simpa [rawInt] using Heap.get?_push_size s.heap (o := { cls := .type "range_iterator", data := .fields #[rawInt 0, rawInt (n : Int), rawInt 1] }) rfl
    · rw [List.mem_singleton.mp hb]; exact ⟨_, Heap.get?_push_size _ rfl⟩
    · rw [List.mem_singleton.mp hb] at hm
      obtain ⟨o', ho'⟩ := S.live hm
      rw [fresh_size] at ho'; cases ho'
    · obtain ⟨t, rfl⟩ := hP
      rw [List.getElem?_map] at e
      by_cases hi : i < n
      · rw [List.getElem?_range hi] at e
        cases e
        simpa using Rep.int (g := g) (0 + (i : Int) * 1) t
      · rw [List.getElem?_eq_none (by simpa using hi)] at e
        cases e
    · cases e : g s.heap.objs.size with
      | none => rfl
      | some o' => have := S.sub _ o' e; rw [fresh_size] at this; cases this
end
end Mine
end
section
open PySem PySem.W PyProof.Rows PySem.SeqAt
namespace Mine
section
variable {C : Cx} {n : Nat} {mu : Mu} {env : Env} {Q : AV → Mu → Prop}

theorem b_add {a b : Int} (h : Q (.int (a + b)) mu) : W2 C n (.int a) (.int b) mu (binaryOp .Add) Q := fun u v A g s hA hH ⟨r1, r2⟩ S => by
  cases r1; cases r2; exact PyProof.Rows.add_int ⟨g, mu, _, .int _ _, Ends.toks S, h⟩
theorem b_sub {a b : Int} (h : Q (.int (a - b)) mu) : W2 C n (.int a) (.int b) mu (binaryOp .Sub) Q := fun u v A g s hA hH ⟨r1, r2⟩ S => by
  cases r1; cases r2; exact PyProof.Rows.sub_int ⟨g, mu, _, .int _ _, Ends.toks S, h⟩
theorem b_mul {a b : Int} (ha : Builtin.Int.intBits a ≤ 64) (h : Q (.int (a * b)) mu) : W2 C n (.int a) (.int b) mu (binaryOp .Mult) Q := fun u v A g s hA hH ⟨r1, r2⟩ S => by
  cases r1; cases r2; exact PyProof.Rows.mul_int ⟨g, mu, _, .int _ _, Ends.toks S, h⟩ (IntMulOk.of_left ha)
theorem b_mod {a b : Int} (hb : b ≠ 0) (h : Q (.int (a.fmod b)) mu) : W2 C n (.int a) (.int b) mu (binaryOp .Mod) Q := fun u v A g s hA hH ⟨r1, r2⟩ S => by
  cases r1; cases r2; exact mod_int' hb ⟨g, mu, _, .int _ _, Ends.toks S, h⟩
theorem b_div {a b : Int} (hb : b ≠ 0) (hs : b.natAbs < 1073741824) (h : Q (.int (a.fdiv b)) mu) : W2 C n (.int a) (.int b) mu (binaryOp .FloorDiv) Q := fun u v A g s hA hH ⟨r1, r2⟩ S => by
  cases r1; cases r2; exact floordiv_int hb ⟨g, mu, _, .int _ _, Ends.toks S, h⟩ (.inl (PyProof.noPylong_small hs))
theorem b_or {a b : Int} (h : Q (.int (Builtin.bitOr a b)) mu) : W2 C n (.int a) (.int b) mu (binaryOp .BitOr) Q := fun u v A g s hA hH ⟨r1, r2⟩ S => by
  cases r1; cases r2; exact or_int ⟨g, mu, _, .int _ _, Ends.toks S, h⟩
theorem c_lt {a b : Int} (h : Q (.bool (decide (a < b))) mu) : W2 C n (.int a) (.int b) mu (compareOp .Lt) Q := fun u v A g s hA hH ⟨r1, r2⟩ S => by
  cases r1; cases r2; exact PyProof.Rows.lt_int ⟨g, mu, _, .bool _, Ends.refl S, h⟩
theorem c_gt {a b : Int} (h : Q (.bool (decide (b < a))) mu) : W2 C n (.int a) (.int b) mu (compareOp .Gt) Q := fun u v A g s hA hH ⟨r1, r2⟩ S => by
  cases r1; cases r2; exact PyProof.Rows.gt_int ⟨g, mu, _, .bool _, Ends.refl S, h⟩
theorem c_le {a b : Int} (h : Q (.bool (decide (a ≤ b))) mu) : W2 C n (.int a) (.int b) mu (compareOp .LtE) Q := fun u v A g s hA hH ⟨r1, r2⟩ S => by
  cases r1; cases r2; exact PySem.P.le_int ⟨g, mu, _, .bool _, Ends.refl S, h⟩
theorem c_eq_int {a b : Int} (h : Q (.bool (a == b)) mu) : W2 C n (.int a) (.int b) mu (compareOp .Eq) Q := fun u v A g s hA hH ⟨r1, r2⟩ S => by
  cases r1; cases r2; exact PyProof.Rows.eq_int ⟨g, mu, _, .bool _, Ends.refl S, h⟩
theorem c_ne_int {a b : Int} (h : Q (.bool (a != b)) mu) : W2 C n (.int a) (.int b) mu (compareOp .NotEq) Q := fun u v A g s hA hH ⟨r1, r2⟩ S => by
  cases r1; cases r2; exact PyProof.Rows.ne_int ⟨g, mu, _, .bool _, Ends.refl S, h⟩
theorem str_beq {x y : Str} : (x.cps.toList == y.cps.toList) = decide (x = y) := by
  by_cases h : x = y
  · subst h; simp
  · rw [decide_eq_false h]
    refine beq_eq_false_iff_ne.mpr fun hl => h ?_
    cases x; cases y
    simp only [Str.mk.injEq]
    exact Array.toList_inj.mp hl
theorem c_eq_str {a b : Str} (h : Q (.bool (decide (a = b))) mu) : W2 C n (.str a) (.str b) mu (compareOp .Eq) Q := fun u v A g s hA hH ⟨r1, r2⟩ S => by
  cases r1; cases r2; exact PySem.P.eq_str (by rw [str_beq]; exact ⟨g, mu, _, .bool _, Ends.refl S, h⟩)
theorem c_ne_str {a b : Str} (h : Q (.bool (!decide (a = b))) mu) : W2 C n (.str a) (.str b) mu (compareOp .NotEq) Q := fun u v A g s hA hH ⟨r1, r2⟩ S => by
  cases r1; cases r2; exact PySem.P.ne_str (by rw [bne, str_beq]; exact ⟨g, mu, _, .bool _, Ends.refl S, h⟩)
def AV.isObj : AV → Bool
  | .obj _ _ => true
  | _ => false
theorem c_is_none_none (h : Q (.bool true) mu) : W2 C n .none .none mu (compareOp .Is) Q := fun u v A g s hA hH ⟨r1, r2⟩ S => by
  cases r1; cases r2; exact wpAny_is_self rfl ⟨g, mu, _, .bool _, Ends.refl S, h⟩
theorem c_isnot_none_none (h : Q (.bool false) mu) : W2 C n .none .none mu (compareOp .IsNot) Q := fun u v A g s hA hH ⟨r1, r2⟩ S => by
  cases r1; cases r2; exact wpAny_isNot_self rfl ⟨g, mu, _, .bool _, Ends.refl S, h⟩
theorem c_is_none_obj {K : Addr} {fs : List (Str × AV)} (h : Q (.bool false) mu) : W2 C n (.obj K fs) .none mu (compareOp .Is) Q := fun u v A g s hA hH ⟨r1, r2⟩ S => by
  cases r1; cases r2; exact wpAny_is_other rfl (fun e => nomatch e) ⟨g, mu, _, .bool _, Ends.refl S, h⟩
theorem c_isnot_none_obj {K : Addr} {fs : List (Str × AV)} (h : Q (.bool true) mu) : W2 C n (.obj K fs) .none mu (compareOp .IsNot) Q := fun u v A g s hA hH ⟨r1, r2⟩ S => by
  cases r1; cases r2; exact wpAny_isNot_other rfl (fun e => nomatch e) ⟨g, mu, _, .bool _, Ends.refl S, h⟩
theorem t_bool {b : Bool} {P : Bool → Mu → Prop} (h : P b mu) : Wtr C n (.bool b) mu P := fun v A g s hA hH r1 S => by
  cases r1; exact wpAny_truthy_bool ⟨g, mu, _, rfl, Ends.refl S, h⟩

mutual
noncomputable def ofPD : PyData → AV
  | .none => .none
  | .bool b => .bool b
  | .int i => .int i
  | .str s => .str s
  | .list xs => .list (ofPDs xs)
  | .tuple xs => .tup (ofPDs xs)
  | .dict _ => .none
noncomputable def ofPDs : List PyData → List AV
  | [] => []
  | x :: r => ofPD x :: ofPDs r
end
theorem ofPDs_map : ∀ xs : List PyData, ofPDs xs = xs.map ofPD
  | [] => rfl
  | x :: r => by rw [ofPDs, ofPDs_map r]; rfl
mutual
theorem reads_of {prog : Program} {w : World} {g : FH} {h : Heap} (hi : g.In h) : ∀ (d : PyData) (v : Value), d.canLay0 = true → Rep prog w g v (ofPD d) → ∃ as, Reads h v d as
  | .none, v, _, r => by cases r; exact ⟨_, .none⟩
  | .bool b, v, _, r => by cases r; exact ⟨_, .bool b⟩
  | .int i, v, _, r => by cases r with | int _ t => exact ⟨_, .int i t⟩
  | .str x, v, _, r => by cases r with | str _ t => exact ⟨_, .str x t⟩
  | .list xs, v, hc, r => by
    cases r with
    | list h1 h4 =>
      obtain ⟨as, ha⟩ := readsAll_of hi xs _ hc h4
      exact ⟨_, .list (hi _ _ h1) rfl rfl ha⟩
  | .tuple xs, v, hc, r => by
    cases r with
    | tup h1 h2 h3 h4 =>
      obtain ⟨as, ha⟩ := readsAll_of hi xs _ hc h4
      exact ⟨_, .tuple (hi _ _ h1) h2 h3 ha⟩
  | .dict _, v, hc, r => by simp [PyData.canLay0] at hc
theorem readsAll_of {prog : Program} {w : World} {g : FH} {h : Heap} (hi : g.In h) : ∀ (ds : List PyData) (vs : List Value), PyData.canLayAll0 ds = true → Reps prog w g vs (ofPDs ds) → ∃ as, ReadsAll h vs ds as
  | [], vs, _, r => by cases r; exact ⟨_, .nil⟩
  | d :: ds, vs, hc, r => by
    cases r with
    | cons h1 h2 =>
      have hc' : (PyData.canLay0 d && PyData.canLayAll0 ds) = true := hc
      obtain ⟨hc1, hc2⟩ := Bool.and_eq_true_iff.mp hc'
      obtain ⟨as, ha⟩ := reads_of hi d _ hc1 h1
      obtain ⟨bs, hb⟩ := readsAll_of hi ds _ hc2 h2
      exact ⟨_, .cons ha hb⟩
end
theorem Room.u64 {A : Around} {k : Nat} (r : Room k A) : A.units + 64 < cLine := by
  rw [cLine_is]; have := r.units; omega
theorem c_eq_pd {d d' : PyData} {α β : AV} (ha : α = ofPD d) (hb : β = ofPD d') (h1 : shaped d = true) (h2 : shaped d' = true) (h : Q (.bool (PyData.eqv d d')) mu) : W2 C n α β mu (compareOp .Eq) Q := fun u v A g s hA hH ⟨r1, r2⟩ S => by
  subst ha; subst hb
  obtain ⟨as, q1⟩ := reads_of S.sub d u (canLay_of_shaped h1) r1
  obtain ⟨bs, q2⟩ := reads_of S.sub d' v (canLay_of_shaped h2) r2
  exact compareEq_shaped q1 q2 h1 h2 hA.u64 ⟨g, mu, _, .bool _, Ends.refl S, h⟩
theorem c_ne_pd {d d' : PyData} {α β : AV} (ha : α = ofPD d) (hb : β = ofPD d') (h1 : shaped d = true) (h2 : shaped d' = true) (h : Q (.bool (!PyData.eqv d d')) mu) : W2 C n α β mu (compareOp .NotEq) Q := fun u v A g s hA hH ⟨r1, r2⟩ S => by
  subst ha; subst hb
  obtain ⟨as, q1⟩ := reads_of S.sub d u (canLay_of_shaped h1) r1
  obtain ⟨bs, q2⟩ := reads_of S.sub d' v (canLay_of_shaped h2) r2
  exact compareNe_shaped q1 q2 h1 h2 hA.u64 ⟨g, mu, _, .bool _, Ends.refl S, h⟩
theorem in_room {A : Around} {k a b : Nat} (r : Room k A) (h : b ≤ 60) : A.units + 1 + min a b < cLine := by
  rw [cLine_is]; have := r.units; omega
/-- in a mutable list -/
theorem c_notin_mut {d : PyData} {ds : List PyData} {α : AV} {i : Nat} {a : Addr} {xs : List AV} (ha : α = ofPD d) (hb : xs = ofPDs ds) (hi : mu[i]? = some (a, .list xs)) (h1 : shaped d = true) (h2 : PyData.canLayAll0 ds = true) (hd : d.depth ≤ 60)
    (h : Q (.bool (!ds.any fun y => PyData.eqv y d)) mu) : W2 C n α (.val (.ref a)) mu (compareOp .NotIn) Q := fun u v A g s hA hH ⟨r1, r2⟩ S => by
  subst ha; subst hb
  cases r2
  obtain ⟨its, ⟨k, hl⟩, hr⟩ := S.is _ (List.mem_of_getElem? hi)
  obtain ⟨as, q1⟩ := reads_of S.sub d u (canLay_of_shaped h1) r1
  obtain ⟨bs, q2⟩ := readsAll_of S.sub ds _ h2 hr
  exact notIn_list_reads (.list hl rfl rfl q2) q1 h2 (canLay_of_shaped h1) (in_room hA hd) ⟨g, mu, _, .bool _, Ends.refl S, h⟩
theorem c_in_list {d : PyData} {ds : List PyData} {α β : AV} (ha : α = ofPD d) (hb : β = ofPD (.list ds)) (h1 : shaped d = true) (h2 : PyData.canLayAll0 ds = true) (hd : d.depth ≤ 60)
    (h : Q (.bool (ds.any fun y => PyData.eqv y d)) mu) : W2 C n α β mu (compareOp .In) Q := fun u v A g s hA hH ⟨r1, r2⟩ S => by
  subst ha; subst hb
  obtain ⟨as, q1⟩ := reads_of S.sub d u (canLay_of_shaped h1) r1
  obtain ⟨bs, q2⟩ := reads_of S.sub (.list ds) v h2 r2
  exact in_list_reads q2 q1 h2 (canLay_of_shaped h1) (in_room hA hd) ⟨g, mu, _, .bool _, Ends.refl S, h⟩

/-- a new frozen object -/
theorem Ends.fz {prog : Program} {w : World} {g : FH} {mu : Mu} {s : Shared} {h' : Heap} {t : Nat} {a : Addr} {o : Obj} (S : St prog w g mu s.heap) (hk : ∀ b o, s.heap.get? b = some o → h'.get? b = some o) (hf : s.heap.get? a = none) (ho : h'.get? a = some o) :
    Ends prog w g mu s (g.add a o) mu { s with heap := h', toks := t } := by
  have hg : g a = none := by
    cases e : g a with
    | none => rfl
    | some o' => have := S.sub a o' e; rw [hf] at this; cases this
  refine Ends.grow (new := []) S hk (FH.le_add hg) (fun b o' e => ?_) (fun _ ha => nomatch ha) List.nodup_nil (fun _ hp => nomatch hp)
  rcases FH.of_add e with h | ⟨rfl, rfl⟩
  · exact .inl h
  · exact .inr ⟨hf, List.not_mem_nil, ho⟩
theorem g_none {g : FH} {mu : Mu} {h : Heap} {a : Addr} (S : St C.prog C.w g mu h) (hf : h.get? a = none) : g a = none := by
  cases e : g a with
  | none => rfl
  | some o' => have := S.sub a o' e; rw [hf] at this; cases this
theorem keep_push {h : Heap} (o : Obj) : ∀ b x, h.get? b = some x → (h.push o).get? b = some x := fun b x e => Heap.get?_push_of_some _ e

theorem b_add_list {xs ys : List AV} (hsz : xs.length + ys.length ≤ 1000) (h : Q (.list (xs ++ ys)) mu) : W2 C n (.list xs) (.list ys) mu (binaryOp .Add) Q := fun u v A g s hA hH ⟨r1, r2⟩ S => by
  cases r1 with
  | @list l its k _ h1 h4 =>
  cases r2 with
  | @list b its2 k2 _ h1' h4' =>
  have ho := S.sub _ _ h1
  have ho2 := S.sub _ _ h1'
  have e1 := h4.length
  have e2 := h4'.length
  simp at e1 e2
  refine concat_meets ⟨_, ho, rfl⟩ ⟨_, ho2, rfl⟩ noFill_list_add seq_list_add PySem.F.slot_list_add PySem.F.entry_list_add (PySem.F.args_list_add_2 _ _) (list_addW l b its its2 k k2 none none #[] #[] (by rw [sizeLine_eq]; omega)) ⟨ho, ho2, ?_⟩
  refine ⟨_, mu, _, .list (FH.add_self ..) ?_, Ends.fz (t := s.toks) S (keep_push _) fresh_size (Heap.get?_push_size _ rfl), h⟩
  simpa using (h4.append h4').mono (FH.le_add (g_none S fresh_size))
theorem foldl_app (l : List (Array Value)) : ∀ a : Array Value, (l.foldl (fun x1 x2 => x1 ++ x2) a).toList = a.toList ++ (l.map (·.toList)).flatten := by
  induction l with
  | nil => intro a; simp
  | cons x r ih => intro a; rw [List.foldl_cons, ih]; simp
theorem reps_mul {prog : Program} {w : World} {g : FH} {its : Array Value} {xs : List AV} (h : Reps prog w g its.toList xs) (k : Nat) :
    Reps prog w g (List.foldl (fun x1 x2 => x1 ++ x2) #[] (List.replicate (if its.isEmpty = true then 0 else k) its)).toList (List.replicate k xs).flatten := by
  rw [foldl_app]
  have key : ∀ m, Reps prog w g ((List.replicate m its).map (·.toList)).flatten (List.replicate m xs).flatten := fun m => by
    induction m with
    | zero => exact .nil
    | succ m ih => simp only [List.replicate_succ, List.map_cons, List.flatten_cons]; exact h.append ih
  by_cases he : its.isEmpty = true
  · have h0 : its.toList = [] := by simpa using he
    have hx : xs = [] := by
      have := h.length
      rw [h0] at this
      exact List.length_eq_zero_iff.mp this.symm
    subst hx
    rw [if_pos he]
    simpa using Reps.nil
  · rw [if_neg he]
    simpa using key k
theorem mul_list_raw {A : Around} {E : Value → Shared → Prop} {s : Shared} {l : Addr} {its : Array Value} {k1 : Nat} {x : Int} {u : Tok} {Q : Value → Shared → Prop} {prog : Program} {w : World} (ho : s.heap.get? l = some { cls := .type "list", dict := none, data := .seq its k1, slots := #[] }) (hlo : -(2 ^ 63 : Int) ≤ x) (hhi : x < 2 ^ 63)
    (hsz : its.size * x.toNat ≤ 1000) (h : Q (.ref s.heap.objs.size) { s with heap := s.heap.push { cls := Value.type "list", data := Data.seq (List.foldl (fun x1 x2 => x1 ++ x2) #[] (List.replicate (if its.isEmpty = true then 0 else x.toNat) its)) } }) :
    wpAny (model prog w) A (binaryOp .Mult (.ref l) (.int x u)) Q E s :=
  wpAny_binaryOp_repeat_ref (T := "list") (U := "int") (by decide) ⟨_, ho, rfl⟩ (fun s' => typeIs_int s' x u) noFill_list_mul PySem.F.fills_int_mul PySem.F.slot_int_rmul repeat_list PySem.F.slot_int_index.lookup
    (call_meets PySem.F.slot_int_rmul (typeIs_int s x u) PySem.F.entry_int_rmul (PySem.F.args_int_rmul_2 _ _) (lm_int_rmul_list_any x u l its k1 none #[])
      ⟨ho, rfl, ⟨_, ho, rfl⟩, call_meets PySem.F.slot_list_mul ⟨_, ho, rfl⟩ PySem.F.entry_list_mul (PySem.F.args_list_mul_2 _ _)
        (lm_list_mul_any l its k1 none #[] x u (by simp [Builtin.List.listFitsIndex]; omega) (by omega) (by simp [Builtin.List.listTooLong, sizeLine]; omega))
        ⟨ho, h⟩⟩)
theorem b_mul_list {xs : List AV} {k : Nat} (hk : k < 1000000) (hsz : xs.length * k ≤ 1000) (h : Q (.list (List.replicate k xs).flatten) mu) : W2 C n (.list xs) (.int (k : Int)) mu (binaryOp .Mult) Q := fun u v A g s hA hH ⟨r1, r2⟩ S => by
  cases r1 with
  | @list l its k1 _ h1 h4 =>
  cases r2 with
  | int _ tk =>
  have ho := S.sub _ _ h1
  have e1 := h4.length
  simp at e1
  have hx : ((k : Int)).toNat = k := Int.toNat_natCast k
  refine mul_list_raw ho (by omega) (by omega) (by rw [hx, e1]; exact hsz) ?_
  rw [hx]
  refine ⟨_, mu, _, .list (FH.add_self ..) ?_, Ends.fz (t := s.toks) S (keep_push _) fresh_size (Heap.get?_push_size _ rfl), h⟩
  exact reps_mul (h4.mono (FH.le_add (g_none S fresh_size))) k
end
end Mine
end
section
open PySem PySem.W PyProof.Rows PySem.SeqAt
namespace Mine
theorem rmul_bool (b : Bool) (l : Addr) (items : Array Value) (n : Nat) :
    Meets (Builtin.«int.__rmul__» ⟨[.bool b, .ref l], []⟩) (fun _ R s => s.heap.get? l = some { cls := .type "list", dict := none, data := .seq items n, slots := #[] } ∧ R (.ok (.ret Value.notImplemented)) s) :=
  .of_wp fun prog w A R s h => by obtain ⟨hp, g, d, tk, os⟩ := s; obtain ⟨hl, h⟩ := h; wp_walk; exact ⟨_, rfl, h⟩
theorem mul_bool (l : Addr) (items : Array Value) (n : Nat) (b : Bool) (hsz : items.size ≤ 1000) :
    Meets (Builtin.«list.__mul__» ⟨[.ref l, .bool b], []⟩) (fun _ R s => s.heap.get? l = some { cls := .type "list", dict := none, data := .seq items n, slots := #[] } ∧ R (.ok (.ret (Value.ref s.heap.objs.size))) { s with heap := s.heap.push { cls := Value.type "list", data := Data.seq (List.foldl (fun x1 x2 => x1 ++ x2) #[] (List.replicate (if items.isEmpty = true then 0 else (if b = true then (1 : Int) else 0).toNat) items)) }, toks := s.toks }) :=
  .of_wp fun prog w A R s h => by
    obtain ⟨hp, g, d, tk, os⟩ := s; obtain ⟨hl, h⟩ := h
    have hc0 : ¬(!Builtin.List.listFitsIndex (if b = true then 1 else 0)) = true := by cases b <;> decide
    have hle : items.size * (if b = true then (1 : Int) else 0).toNat ≤ 1000 := by cases b <;> simp <;> omega
    have hc1 : ¬items.size * (if b = true then (1 : Int) else 0).toNat > (2 ^ 63 - 1) / 8 := by omega
    have hc2 : ¬Builtin.List.listTooLong (items.size * (if b = true then (1 : Int) else 0).toNat) = true := by simp only [Builtin.List.listTooLong, sizeLine_eq, decide_eq_true_eq]; omega
    have hsz := AutoListH.joined_fits hc2
    wp_walk; refine wpAny_ite_false (decide_eq_false (Nat.not_lt.mpr hsz)) ?_; wp_walk; exact ⟨_, rfl, h⟩
section
variable {C : Cx} {n : Nat} {mu : Mu} {env : Env} {Q : AV → Mu → Prop}
theorem mul_bool_raw {A : Around} {E : Value → Shared → Prop} {s : Shared} {l : Addr} {its : Array Value} {k1 : Nat} {b : Bool} {Q : Value → Shared → Prop} {prog : Program} {w : World} (ho : s.heap.get? l = some { cls := .type "list", dict := none, data := .seq its k1, slots := #[] })
    (hsz : its.size ≤ 1000) (h : Q (.ref s.heap.objs.size) { s with heap := s.heap.push { cls := Value.type "list", data := Data.seq (List.foldl (fun x1 x2 => x1 ++ x2) #[] (List.replicate (if its.isEmpty = true then 0 else (if b = true then (1 : Int) else 0).toNat) its)) } }) :
    wpAny (model prog w) A (binaryOp .Mult (.ref l) (.bool b)) Q E s :=
  wpAny_binaryOp_repeat_ref (T := "list") (U := "bool") (by decide) ⟨_, ho, rfl⟩ (fun s' => rfl) noFill_list_mul PySem.F.fills_bool_mul PySem.F.slot_bool_rmul repeat_list PySem.F.slot_bool_index.lookup
    (call_meets PySem.F.slot_bool_rmul rfl PySem.F.entry_int_rmul (PySem.F.args_int_rmul_2 _ _) (rmul_bool b l its k1)
      ⟨ho, rfl, ⟨_, ho, rfl⟩, call_meets PySem.F.slot_list_mul ⟨_, ho, rfl⟩ PySem.F.entry_list_mul (PySem.F.args_list_mul_2 _ _) (mul_bool l its k1 b hsz) ⟨ho, h⟩⟩)
theorem b_mul_bool {xs : List AV} {b : Bool} (hsz : xs.length ≤ 1000) (h : Q (.list (if b then xs else [])) mu) : W2 C n (.list xs) (.bool b) mu (binaryOp .Mult) Q := fun u v A g s hA hH ⟨r1, r2⟩ S => by
  cases r1 with
  | @list l its k1 _ h1 h4 =>
  cases r2
  have ho := S.sub _ _ h1
  have e1 := h4.length
  simp at e1
  refine mul_bool_raw ho (by omega) ?_
  have key := reps_mul (h4.mono (FH.le_add (a := s.heap.objs.size) (o := { cls := Value.type "list", data := Data.seq (List.foldl (fun x1 x2 => x1 ++ x2) #[] (List.replicate (if its.isEmpty = true then 0 else (if b = true then (1 : Int) else 0).toNat) its)) }) (g_none S fresh_size))) (if b = true then (1 : Int) else 0).toNat
  refine ⟨_, mu, _, .list (FH.add_self ..) key, Ends.fz (t := s.toks) S (keep_push _) fresh_size (Heap.get?_push_size _ rfl), ?_⟩
  cases b <;> simpa using h
end
end Mine
end
section
open PySem PySem.W PyProof.Rows PySem.SeqAt
namespace Mine
section
variable {C : Cx} {n : Nat} {mu : Mu} {env : Env} {Q : AV → Mu → Prop}
theorem Reps.one {prog : Program} {w : World} {g : FH} {vs : List Value} {α : AV} (h : Reps prog w g vs [α]) : ∃ v, vs = [v] ∧ Rep prog w g v α := by
  cases h with | cons h1 h2 => cases h2; exact ⟨_, rfl, h1⟩
theorem Reps.two {prog : Program} {w : World} {g : FH} {vs : List Value} {α β : AV} (h : Reps prog w g vs [α, β]) : ∃ v u, vs = [v, u] ∧ Rep prog w g v α ∧ Rep prog w g u β := by
  cases h with | cons h1 h2 => obtain ⟨u, rfl, h3⟩ := h2.one; exact ⟨_, _, rfl, h1, h3⟩
theorem Reps.three {prog : Program} {w : World} {g : FH} {vs : List Value} {α β γ : AV} (h : Reps prog w g vs [α, β, γ]) : ∃ v u x, vs = [v, u, x] ∧ Rep prog w g v α ∧ Rep prog w g u β ∧ Rep prog w g x γ := by
  cases h with | cons h1 h2 => obtain ⟨u, x, rfl, h3, h4⟩ := h2.two; exact ⟨_, _, _, rfl, h1, h3, h4⟩

theorem l_abs {a : Int} (h : Q (.int (if a < 0 then -a else a)) mu) : WL C n [.int a] mu (fun vs => call (.builtin "abs") vs) Q := fun vs A g s hA hH hr S => by
  obtain ⟨v, rfl, r⟩ := hr.one
  cases r
  exact call_abs_int fun u tk => ⟨g, mu, _, .int _ _, Ends.toks S, h⟩
theorem l_int_int {a : Int} (h : Q (.int a) mu) : WL C n [.int a] mu (fun vs => call (.type "int") vs) Q := fun vs A g s hA hH hr S => by
  obtain ⟨v, rfl, r⟩ := hr.one
  cases r
  exact call_int_int ⟨g, mu, _, .int _ _, Ends.refl S, h⟩
theorem l_int_bool {b : Bool} (h : Q (.int (if b then 1 else 0)) mu) : WL C n [.bool b] mu (fun vs => call (.type "int") vs) Q := fun vs A g s hA hH hr S => by
  obtain ⟨v, rfl, r⟩ := hr.one
  cases r
  exact call_int_bool ⟨g, mu, _, .int _ _, Ends.toks S, h⟩
theorem l_len {xs : List AV} (hsz : xs.length ≤ 1000) (h : Q (.int (xs.length : Int)) mu) : WL C n [.list xs] mu (fun vs => call (.builtin "len") vs) Q := fun vs A g s hA hH hr S => by
  obtain ⟨v, rfl, r⟩ := hr.one
  cases r with
  | @list l its k1 _ h1 h4 =>
  have e1 := h4.length
  simp at e1
  refine PySem.Calls.call_len_list ⟨_, S.sub _ _ h1, rfl, _, rfl⟩ (by omega) ⟨g, mu, _, ?_, Ends.toks S, h⟩
  rw [e1]; exact .int _ _
theorem l_range {k : Nat} (h : Q (.range (k : Int)) mu) : WL C n [.int (k : Int)] mu (fun vs => call (.type "range") vs) Q := fun vs A g s hA hH hr S => by
  obtain ⟨v, rfl, r⟩ := hr.one
  cases r
  exact call_range_1 ⟨_, mu, _, .range (FH.add_self ..), Ends.fz S (keep_push _) fresh_size (Heap.get?_push_size _ rfl), h⟩
theorem l_tuple {xs : List AV} (hsz : xs.length ≤ 1000) (h : Q (.tup xs) mu) : WL C n [.list xs] mu (fun vs => call (.type "tuple") vs) Q := fun vs A g s hA hH hr S => by
  obtain ⟨v, rfl, r⟩ := hr.one
  cases r with
  | @list l its k1 _ h1 h4 =>
  have e1 := h4.length
  simp at e1
  refine call_tuple_list ⟨_, S.sub _ _ h1, rfl, _, rfl⟩ (fun h' hk => ?_) (by rw [sizeLine_eq]; omega)
  have hf : s.heap.get? h'.objs.size = none := by
    cases e : s.heap.get? h'.objs.size with
    | none => rfl
    | some o => exact absurd (Heap.lt_size (hk _ _ e)) (Nat.lt_irrefl _)
  exact ⟨_, mu, _, .tup (FH.add_self ..) rfl rfl (h4.mono (FH.le_add (g_none S hf))), Ends.fz (t := s.toks) S (fun b o e => Heap.get?_push_of_some _ (hk b o e)) hf (Heap.get?_push_size _ rfl), h⟩
theorem l_list {xs : List AV} (hsz : xs.length ≤ 1000) (h : Q (.list xs) mu) : WL C n [.list xs] mu (fun vs => call (.type "list") vs) Q := fun vs A g s hA hH hr S => by
  obtain ⟨v, rfl, r⟩ := hr.one
  cases r with
  | @list l its k1 _ h1 h4 =>
  have e1 := h4.length
  simp at e1
  refine call_list_seq l (.inl rfl) (S.sub _ _ h1) rfl rfl (fun h' c' hk ho => ?_) (by rw [sizeLine_eq]; omega)
  exact ⟨_, mu, _, .list (FH.add_self ..) (h4.mono (FH.le_add (g_none S fresh_size))), Ends.fz (t := s.toks) S hk fresh_size ho, h⟩

/-- displays -/
theorem new_list_fz {A : Around} {g : FH} {s : Shared} {vs : List Value} {xs : List AV} (S : St C.prog C.w g mu s.heap) (hr : Reps C.prog C.w g vs xs) (hsz : xs.length ≤ 1000) (h : Q (.list xs) mu) :
    wpAny (model C.prog C.w) A (newList vs) (fun v s' => ∃ g' mu' α, Rep C.prog C.w g' v α ∧ Ends C.prog C.w g mu s g' mu' s' ∧ Q α mu') (fun _ _ => False) s := by
  have e1 := hr.length
  refine wpAny_newObj_type ⟨_, mu, _, .list (FH.add_self ..) ?_, Ends.fz (t := s.toks) S (keep_push _) fresh_size (Heap.get?_push_size _ rfl), h⟩ (by show vs.toArray.size ≤ sizeLine; rw [List.size_toArray, sizeLine_eq]; omega)
  simpa using hr.mono (FH.le_add (g_none S fresh_size))
theorem E_list {es : List Expr} {pos : Pos} (h : WA C n mu env pos es fun xs mu1 => xs.length ≤ 1000 ∧ Q (.list xs) mu1) : WE C n mu env (.List es pos) Q := fun A g s hA hH _ S => by
  refine List_ (wpAny_mono (h A g s hA hH trivial S) (fun vs s1 hh => ?_) fun _ _ e => e)
  obtain ⟨g1, mu1, xs, r1, e1, hsz, q1⟩ := hh
  exact comb e1 (new_list_fz e1.st r1 hsz q1)
/-- a display that stays open to change -/
theorem E_list_mut {es : List Expr} {pos : Pos} (h : WA C n mu env pos es fun xs mu1 => xs.length ≤ 1000 ∧ ∀ a, Q (.val (.ref a)) ((a, .list xs) :: mu1)) : WE C n mu env (.List es pos) Q := fun A g s hA hH _ S => by
  refine List_ (wpAny_mono (h A g s hA hH trivial S) (fun vs s1 hh => ?_) fun _ _ e => e)
  obtain ⟨g1, mu1, xs, r1, e1, hsz, q1⟩ := hh
  have e2 := r1.length
  refine wpAny_newObj_type ?_ (by show vs.toArray.size ≤ sizeLine; rw [List.size_toArray, sizeLine_eq]; omega)
  refine ⟨g1, _, _, .val _, e1.trans (Ends.grow (g' := g1) (new := [(s1.heap.objs.size, .list xs)]) (t := s1.toks) e1.st (keep_push _) FH.le.rfl (fun _ _ e => .inl e) (fun a ha => ?_) (by simp [Mu.ads]) fun p hp => ?_), q1 _⟩
  · rw [List.mem_singleton.mp ha]; exact fresh_size
  · rw [List.mem_singleton.mp hp]
    exact ⟨vs.toArray, ⟨_, Heap.get?_push_size _ rfl⟩, by simpa using r1⟩
theorem E_tuple {es : List Expr} {k : Nat} {pos : Pos} (h : WA C n mu env pos es fun xs mu1 => xs.length ≤ 1000 ∧ Q (.tup xs) mu1) : WE C n mu env (.Tuple es k pos) Q := fun A g s hA hH _ S => by
  refine Tuple_ (wpAny_mono (h A g s hA hH trivial S) (fun vs s1 hh => ?_) fun _ _ e => e)
  obtain ⟨g1, mu1, xs, r1, e1, hsz, q1⟩ := hh
  have e2 := r1.length
  refine comb e1 (wpAny_newObj_type ⟨_, mu1, _, .tup (FH.add_self ..) rfl rfl ?_, Ends.fz (t := s1.toks) e1.st (keep_push _) fresh_size (Heap.get?_push_size _ rfl), q1⟩ (by show vs.toArray.size ≤ sizeLine; rw [List.size_toArray, sizeLine_eq]; omega))
  simpa using r1.mono (FH.le_add (g_none e1.st fresh_size))

/-- items -/
theorem s_list {xs : List AV} {k : Int} {x : AV} {ve se : Expr} (h0 : 0 ≤ k) (hk : k < 2 ^ 62) (hx : xs[k.toNat]? = some x) (hs : ∀ l u, subscripted se false (.ref l) (.int k u) = operate [.ref l, .int k u] (getItem (.ref l) (.int k u))) (h : Q x mu) :
    W2 C n (.list xs) (.int k) mu (subscriptTail ve se) Q := fun u v A g s hA hH ⟨r1, r2⟩ S => by
  cases r1 with
  | @list l its k1 _ h1 h4 =>
  cases r2 with
  | int _ tk =>
  obtain ⟨v, hv, hr⟩ := h4.at hx
  have hl : s.heap.IsList l its := ⟨_, S.sub _ _ h1, rfl, _, rfl⟩
  exact PyProof.Rows.tail_any hl.typeIs slot_list_getitem.lookup (wpAny_getItem_list hl h0 (by omega) (by rw [← Array.getElem?_toList]; exact hv) ⟨g, mu, x, hr, Ends.refl S, h⟩) (hs l tk)
theorem s_mut {xs : List AV} {k : Int} {x : AV} {ve se : Expr} {i : Nat} {l : Addr} (hi : mu[i]? = some (l, .loose xs) ∨ mu[i]? = some (l, .list xs)) (h0 : 0 ≤ k) (hk : k < 2 ^ 62) (hx : xs[k.toNat]? = some x) (hs : ∀ l u, subscripted se false (.ref l) (.int k u) = operate [.ref l, .int k u] (getItem (.ref l) (.int k u))) (h : Q x mu) :
    W2 C n (.val (.ref l)) (.int k) mu (subscriptTail ve se) Q := fun u v A g s hA hH ⟨r1, r2⟩ S => by
  cases r1
  cases r2 with
  | int _ tk =>
  have key : ∃ its, s.heap.IsList l its ∧ Reps C.prog C.w g its.toList xs := by
    rcases hi with hi | hi
    · exact S.is _ (List.mem_of_getElem? hi)
    · obtain ⟨its, hp, hr⟩ := S.is _ (List.mem_of_getElem? hi)
      exact ⟨its, hp.isList, hr⟩
  obtain ⟨its, hl, h4⟩ := key
  obtain ⟨v, hv, hr⟩ := h4.at hx
  exact PyProof.Rows.tail_any hl.typeIs slot_list_getitem.lookup (wpAny_getItem_list hl h0 (by omega) (by rw [← Array.getElem?_toList]; exact hv) ⟨g, mu, x, hr, Ends.refl S, h⟩) (hs l tk)
theorem s_tup {xs : List AV} {k : Nat} {x : AV} {ve se : Expr} (hk : k < xs.length) (hk' : k < 1000) (hx : xs[k]? = some x) (hs : ∀ l u, subscripted se false (.ref l) (.int (k : Int) u) = operate [.ref l, .int (k : Int) u] (getItem (.ref l) (.int (k : Int) u))) (h : Q x mu) :
    W2 C n (.tup xs) (.int (k : Int)) mu (subscriptTail ve se) Q := fun u v A g s hA hH ⟨r1, r2⟩ S => by
  cases r1 with
  | @tup l o its k1 _ h1 h2 h3 h4 =>
  cases r2 with
  | int _ tk =>
  obtain ⟨v, hv, hr⟩ := h4.at hx
  have hl : IsTup s.heap l its := ⟨_, S.sub _ _ h1, h2, _, h3⟩
  have e1 := h4.length
  simp at e1
  refine PyProof.Rows.tail_any hl.typeIs slot_tuple_getitem.lookup (getItem_tuple (j := k) hl (by omega) (by omega) ?_ (by rw [← Array.getElem?_toList]; exact hv) ⟨g, mu, x, hr, Ends.refl S, h⟩) (hs l tk)
  unfold seqIndex?
  simp
  omega
theorem s_dict {kvs : List (Str × AV)} {k : Str} {x : AV} {ve se : Expr} (hx : kvs.lookup k = some x) (hs : ∀ l u, subscripted se false (.ref l) (.str k u) = operate [.ref l, .str k u] (getItem (.ref l) (.str k u))) (h : Q x mu) :
    W2 C n (.dict kvs) (.str k) mu (subscriptTail ve se) Q := fun u v A g s hA hH ⟨r1, r2⟩ S => by
  cases r1 with
  | @dict a o kvv _ h1 h2 h3 h4 =>
  cases r2 with
  | str _ tk =>
  obtain ⟨hx', es, ep, hd, hk, hp, hn⟩ := h2
  have hm : s.heap.DictOf (strKind C.prog C.w) a kvv := ⟨o, es, ep, S.sub _ _ h1, hx', hd, hk, hp, hn⟩
  obtain ⟨v, hv, hr⟩ := h4.at hx
  exact PyProof.Rows.tail_any hm.typeIs slot_dict_getitem.lookup (wpAny_getItem_of (k := k) (by simp [PySem.strKind, Value.isStrOf]) hm.mapOf hv ⟨g, mu, x, hr, Ends.toks S, h⟩) (hs a tk)
end
end Mine
end
section
open PySem PySem.W PyProof.Rows PySem.SeqAt
namespace Mine
section
variable {C : Cx} {n : Nat} {mu : Mu} {env : Env} {Q : AV → Mu → Prop}
theorem reps_take {prog : Program} {w : World} {g : FH} : ∀ {vs : List Value} {xs : List AV}, Reps prog w g vs xs → ∀ k, Reps prog w g (vs.take k) (xs.take k)
  | _, _, .nil, k => by simp; exact .nil
  | _, _, .cons h1 h2, 0 => .nil
  | _, _, .cons h1 h2, k + 1 => .cons h1 (reps_take h2 k)
theorem reps_drop {prog : Program} {w : World} {g : FH} : ∀ {vs : List Value} {xs : List AV}, Reps prog w g vs xs → ∀ k, Reps prog w g (vs.drop k) (xs.drop k)
  | _, _, .nil, k => by simp; exact .nil
  | _, _, .cons h1 h2, 0 => .cons h1 h2
  | _, _, .cons h1 h2, k + 1 => reps_drop h2 k
theorem slice_end {A : Around} {g g0 : FH} {s0 s3 : Shared} {mu0 mu3 : Mu} {l : Addr} {its : Array Value} {xs : List AV} {vl vu : Value} {lo hi : Option Int} {ve : Expr} {lower upper : Option Expr} {p : Pos} (e0 : Ends C.prog C.w g0 mu0 s0 g mu3 s3) (hl : s3.heap.IsList l its) (hsz : its.size ≤ 1000)
    (pl : IsPart vl lo) (pu : IsPart vu hi) (hr : Reps C.prog C.w g (slicePick its lo hi none).toList xs) (h : Q (.list xs) mu3) :
    wpAny (model C.prog C.w) A (subscriptTail ve (.Slice lower upper none p) (.ref l) (.ref s3.heap.objs.size)) (fun v s' => ∃ g' mu' α, Rep C.prog C.w g' v α ∧ Ends C.prog C.w g0 mu0 s0 g' mu' s' ∧ Q α mu') (fun _ _ => False)
      { s3 with heap := s3.heap.push { cls := .type "slice", data := .fields #[vl, vu, .none] } } := by
  have hl' := hl.push { cls := .type "slice", data := .fields #[vl, vu, .none] }
  refine PyProof.Rows.tail_any (ops := [.ref s3.heap.objs.size, .ref l]) (T := "list") hl'.typeIs slot_list_getitem.lookup (wpAny_getItem_list_slice hl' (Heap.IsSliceOf.new ..) pl pu .none (by simp) ?_ (by rw [sizeLine_eq]; omega)) rfl
  have hf : s3.heap.get? (s3.heap.push { cls := .type "slice", data := .fields #[vl, vu, .none] }).objs.size = none := by
    rw [Heap.size_push]
    cases e : s3.heap.get? (s3.heap.objs.size + 1) with
    | none => rfl
    | some o => exact absurd (Heap.lt_size e) (Nat.not_lt.mpr (Nat.le_succ _))
  exact ⟨_, mu3, _, .list (FH.add_self ..) (hr.mono (FH.le_add (g_none e0.st hf))), e0.trans <| Ends.fz (t := s3.toks) e0.st (fun b o e => Heap.get?_push_of_some _ (Heap.get?_push_of_some _ e)) hf (Heap.get?_push_size _ rfl), h⟩
theorem E_slice_from {ve lo : Expr} {p pos : Pos} (h : WE C n mu env ve fun α mu1 => ∃ xs, α = .list xs ∧ xs.length ≤ 1000 ∧ WE C n mu1 env lo fun β mu2 => ∃ k : Nat, β = .int (k : Int) ∧ Q (.list (xs.drop k)) mu2) :
    WE C n mu env (.Subscript ve (.Slice (some lo) none none p) pos) Q := fun A g s hA hH _ S => by
  refine Subscript_ (wpAny_mono (h A g s hA hH trivial S) (fun o s1 hh => ?_) fun _ _ e => e)
  obtain ⟨g1, mu1, α, r1, e1, xs, rfl, hsz, q1⟩ := hh
  refine wpAny_Slice (wpAny_mono (q1 A g1 s1 hA (hH.trans e1.le) trivial e1.st) (fun vl s2 hh => ?_) fun _ _ e => e)
  obtain ⟨g2, mu2, β, r2, e2, k, rfl, q2⟩ := hh
  rw [evalPart_none]
  refine wpAny_pure (wpAny_pure ?_)
  have r1' := r1.mono e2.le
  cases r1' with
  | @list l its k1 _ h1 h4 =>
  cases r2 with
  | int _ tk =>
  have hsz' : its.size ≤ 1000 := by have := h4.length; simp at this; omega
  refine slice_end (e1.trans e2) ⟨_, e2.st.sub _ _ h1, rfl, _, rfl⟩ hsz' (.int _ _) .none ?_ q2
  rw [slicePick_from']
  exact reps_drop h4 k
theorem E_slice_upto {ve hi : Expr} {p pos : Pos} (h : WE C n mu env ve fun α mu1 => ∃ xs, α = .llist xs ∧ xs.length ≤ 1000 ∧ WE C n mu1 env hi fun β mu2 => ∃ k : Nat, β = .int (k : Int) ∧ Q (.list (xs.take k)) mu2) :
    WE C n mu env (.Subscript ve (.Slice none (some hi) none p) pos) Q := fun A g s hA hH _ S => by
  refine Subscript_ (wpAny_mono (h A g s hA hH trivial S) (fun o s1 hh => ?_) fun _ _ e => e)
  obtain ⟨g1, mu1, α, r1, e1, xs, rfl, hsz, q1⟩ := hh
  refine wpAny_Slice ?_
  rw [evalPart_none]
  refine wpAny_pure (wpAny_mono (q1 A g1 s1 hA (hH.trans e1.le) trivial e1.st) (fun vl s2 hh => ?_) fun _ _ e => e)
  obtain ⟨g2, mu2, β, r2, e2, k, rfl, q2⟩ := hh
  refine wpAny_pure ?_
  have r1' := r1.mono e2.le
  cases r1' with
  | @llist l o its k1 _ h1 h2 h3 h4 =>
  cases r2 with
  | int _ tk =>
  have hsz' : its.size ≤ 1000 := by have := h4.length; simp at this; omega
  refine slice_end (e1.trans e2) ⟨_, e2.st.sub _ _ h1, h2, _, h3⟩ hsz' .none (.int _ _) ?_ q2
  rw [slicePick_upto']
  simpa using reps_take h4 k

/-- methods of the built-in types -/
def GetM (C : Cx) (α : AV) (mu : Mu) (name : Str) (id : String) : Prop := ∀ A g s v pl (Q' : Value × List Value → Shared → Prop), Rep C.prog C.w g v α → St C.prog C.w g mu s.heap → Q' (.builtin id, [v]) s → wpAny (model C.prog C.w) A (getMethod v name pl) Q' (fun _ _ => False) s
theorem getm_list {name : Str} {id : String} {a : Addr} {i : Nat} {xs : List AV} (slot : Slot "list" name id) (hty : typeOf (.builtin id) = pure (.type "method_descriptor")) (hi : mu[i]? = some (a, .list xs)) : GetM C (.val (.ref a)) mu name id := fun A g s v pl Q' hr S h => by
  cases hr
  obtain ⟨its, ⟨k, hl⟩, _⟩ := S.is _ (List.mem_of_getElem? hi)
  exact getMethod_list_of slot hty ⟨_, hl, rfl, _, rfl⟩ ⟨_, hl, rfl⟩ h
theorem getm_dictI {name : Str} {id : String} {a : Addr} {i : Nat} {xs : List (Int × AV)} (slot : Slot "dict" name id) (hty : typeOf (.builtin id) = pure (.type "method_descriptor")) (hi : mu[i]? = some (a, .dictI xs)) : GetM C (.val (.ref a)) mu name id := fun A g s v pl Q' hr S h => by
  cases hr
  obtain ⟨kvv, hd, _, _⟩ := S.is _ (List.mem_of_getElem? hi)
  exact getMethod_builtin hd.typeIs PySem.F.plainAttrs_dict slot hty hd.mapOf.noDict h
theorem E_meth {o e : Expr} {es : List Expr} {name : Str} {id : String} {apos pos : Pos} {pl : Sem Bool}
    (he : eval (.Call (.Attribute o name apos) (e :: es) [] pos) env = (do
      let ov ← eval o env
      standAt apos.atName
      let (f, first) ← holding [ov] (getMethod ov name pl)
      callWith pos f first (backTo pos (starEach (e :: es) env)) []))
    (hs : starEach (e :: es) env = (false, eval e env) :: starEach es env) (hpl : (backTo pos (starEach es env)).any (·.1) = false)
    (h : WE C n mu env o fun α mu1 => GetM C α mu1 name id ∧ WA C n mu1 env pos (e :: es) fun αs mu2 => WL C n (α :: αs) mu2 (fun vs => call (.builtin id) vs) Q) :
    WE C n mu env (.Call (.Attribute o name apos) (e :: es) [] pos) Q := fun A g s hA hH _ S => by
  refine MethodCall_ (pl := pl) (wpAny_mono (h A g s hA hH trivial S) (fun ov s1 hh => ?_) fun _ _ e => e) he
  obtain ⟨g1, mu1, α, r1, e1, gm, q1⟩ := hh
  refine gm A g1 s1 ov pl _ r1 e1.st ?_
  refine callWith_method1 (wpAny_mono (q1 A g1 s1 hA (hH.trans e1.le) trivial e1.st) (fun vs s2 hh => ?_) fun _ _ e => e) hs hpl
  obtain ⟨g2, mu2, αs, r2, e2, q2⟩ := hh
  exact comb (e1.trans e2) (q2 (ov :: vs) A g2 s2 hA (hH.trans (e1.le.trans e2.le)) (.cons (r1.mono e2.le) r2) e2.st)

theorem l_append {a : Addr} {i : Nat} {xs : List AV} {β : AV} (hi : mu[i]? = some (a, .list xs)) (hsz : xs.length ≤ 1000) (h : Q .none (mu.set i (a, .list (xs ++ [β])))) : WL C n [.val (.ref a), β] mu (fun vs => call (.builtin "list.append") vs) Q := fun vs A g s hA hH hr S => by
  obtain ⟨v, u, rfl, r1, r2⟩ := hr.two
  cases r1
  obtain ⟨its, hl, hr⟩ := S.is _ (List.mem_of_getElem? hi)
  have e1 := hr.length
  simp at e1
  refine wpAny_list_append_plain (hsz := by rw [sizeLine_eq]; omega) hl fun h' hl' hs => ⟨g, _, _, .none, Ends.upd (t := s.toks) (mo' := .list (xs ++ [β])) S hi (fun b o hb e => hs.extBut b o hb e) ⟨_, hl', ?_⟩, h⟩
  simpa using hr.append (.cons r2 .nil)
theorem l_pop0 {a : Addr} {i : Nat} {x : AV} {xs : List AV} (hi : mu[i]? = some (a, .list (x :: xs))) (hsz : xs.length ≤ 1000) (h : Q x (mu.set i (a, .list xs))) : WL C n [.val (.ref a), .int 0] mu (fun vs => call (.builtin "list.pop") vs) Q := fun vs A g s hA hH hr S => by
  obtain ⟨v, u, rfl, r1, r2⟩ := hr.two
  cases r1
  cases r2 with
  | int _ tk =>
  obtain ⟨its, ⟨k, hl⟩, hq⟩ := S.is _ (List.mem_of_getElem? hi)
  obtain ⟨its⟩ := its
  cases hq with
  | @cons y _ ys _ h1 h2 =>
  have e1 := h2.length
  refine call_meets PySem.F.slot_list_pop ⟨_, hl, rfl⟩ PySem.F.entry_list_pop (PySem.F.args_list_pop_2 _ _) (MeetsSeq.list_pop_at a _ k 0 tk 0 y (by decide) (by simp [seqIndex?]) (by simp) (by rw [sizeLine_eq]; simp; omega)) ⟨hl, ?_⟩
  have hz : (Array.eraseIdxIfInBounds { toList := y :: ys } 0 : Array Value) = ys.toArray := by simp
  have hg := Heap.get?_update_self (Obj.mapSeq fun xs => xs.eraseIdxIfInBounds 0) hl rfl
  obtain ⟨c, hm⟩ : ∃ c, Obj.mapSeq (fun xs => xs.eraseIdxIfInBounds 0) { cls := Value.type "list", dict := none, data := Data.seq { toList := y :: ys } k, slots := #[] } = { cls := Value.type "list", dict := none, data := Data.seq ys.toArray c, slots := #[] } :=
    ⟨_, by
      show (Obj.mk _ _ (Data.seq (Array.eraseIdxIfInBounds { toList := y :: ys } 0) _) _) = _
      rw [hz]⟩
  rw [hm] at hg
  exact ⟨g, _, _, h1, Ends.upd (t := s.toks) (mo' := .list xs) S hi (fun b o hb e => (Heap.get?_update_other _ _ (Ne.symm hb)).trans e) ⟨ys.toArray, ⟨_, hg⟩, by simpa using h2⟩, h⟩
theorem l_extend {a : Addr} {i : Nat} {xs ys : List AV} (hi : mu[i]? = some (a, .list xs)) (hsz : xs.length + ys.length ≤ 1000) (h : Q .none (mu.set i (a, .list (xs ++ ys)))) : WL C n [.val (.ref a), .list ys] mu (fun vs => call (.builtin "list.extend") vs) Q := fun vs A g s hA hH hr S => by
  obtain ⟨v, u, rfl, r1, r2⟩ := hr.two
  cases r1
  obtain ⟨its, ⟨k, hl⟩, hq⟩ := S.is _ (List.mem_of_getElem? hi)
  cases r2 with
  | @list b its2 k2 _ h1 h4 =>
  have e1 := hq.length
  have e2 := h4.length
  simp at e1 e2
  have hsz' : its.size + its2.size ≤ sizeLine := by rw [sizeLine_eq]; omega
  refine call_meets PySem.F.slot_list_extend ⟨_, hl, rfl⟩ PySem.F.entry_list_extend (PySem.F.args_list_extend_2 _ _) (AutoSeq1.list_extend_list_list_0 a its k b its2 k2 (extend_door hsz') (Nat.le_trans (Nat.le_add_right _ _) hsz')) ⟨hl, S.sub _ _ h1, ?_⟩
  refine ⟨g, _, _, .none, Ends.upd (t := s.toks) (mo' := .list (xs ++ ys)) S hi (fun b o hb e => (Heap.get?_update_other _ _ (Ne.symm hb)).trans e) ⟨its ++ its2, ⟨_, Heap.get?_update_self _ hl rfl⟩, by simpa using hq.append h4⟩, h⟩
theorem RepsK.at {prog : Program} {w : World} {g : FH} {K : Type} [DecidableEq K] : ∀ {vs : List (K × Value)} {αs : List (K × AV)}, RepsK (prog := prog) (w := w) g vs αs → ∀ {k : K}, (∃ v α, valueAt vs k = some v ∧ (αs.find? fun p => p.1 = k).map (·.2) = some α ∧ Rep prog w g v α) ∨ (valueAt vs k = none ∧ (αs.find? fun p => p.1 = k).map (·.2) = none)
  | _, _, .nil, k => .inr ⟨rfl, rfl⟩
  | _, _, .cons (k := k') h1 h2, k => by
    by_cases hk : k' = k
    · subst hk
      exact .inl ⟨_, _, by simp [valueAt], by simp, h1⟩
    · rcases RepsK.at h2 (k := k) with ⟨v, α, h3, h4, h5⟩ | ⟨h3, h4⟩
      · exact .inl ⟨v, α, by simpa [valueAt, List.find?_cons, hk] using h3, by simpa [List.find?_cons, hk] using h4, h5⟩
      · exact .inr ⟨by simpa [valueAt, List.find?_cons, hk] using h3, by simpa [List.find?_cons, hk] using h4⟩
theorem l_get2 {a : Addr} {i : Nat} {kvs : List (Int × AV)} {k : Int} {δ : AV} (hi : mu[i]? = some (a, .dictI kvs)) (h : Q (((kvs.find? fun p => p.1 = k).map (·.2)).getD δ) mu) : WL C n [.val (.ref a), .int k, δ] mu (fun vs => call (.builtin "dict.get") vs) Q := fun vs A g s hA hH hr S => by
  obtain ⟨v, u, x, rfl, r1, r2, r3⟩ := hr.three
  cases r1
  cases r2 with
  | int _ tk =>
  obtain ⟨kvv, hd, hr, hm⟩ := S.is _ (List.mem_of_getElem? hi)
  refine call_meetsIn PySem.F.slot_dict_get hd.typeIs PySem.F.entry_dict_get (PySem.F.args_dict_get_3 _ _ _) (meets_dict_get_default (intKind C.prog C.w) (k := k) a (intKind_is _ _ _ _) hm x) ⟨_, hd.mapOf, ?_⟩
  rcases RepsK.at hr (k := k) with ⟨v, α, h3, h4, h5⟩ | ⟨h3, h4⟩
  · rw [h4] at h
    rw [h3]
    exact ⟨g, mu, _, h5, Ends.toks S, h⟩
  · rw [h4] at h
    rw [h3]
    exact ⟨g, mu, _, r3, Ends.toks S, h⟩
end
end Mine
end
section
open PySem PySem.W PyProof.Rows PySem.SeqAt
namespace Mine

section
variable {C : Cx} {n : Nat} {mu : Mu} {env : Env}

theorem E_free {x : Str} {pos : Pos} {i : Nat} {c : Addr} {α : AV} {Q : AV → Mu → Prop} (hk : env.scope.kind = .function) (hl : env.kindOf x = some .free) (hc : env.cells.lookup x = some c) (hi : mu[i]? = some (c, .cell (some α)))
    (hd : (x == ("__debug__" : Str)) = false) (hn : (x == ("__classdict__" : Str)) = false) (h : Q α mu) : WE C n mu env (.Name x pos) Q := fun A g s _ _ _ S => by
  obtain ⟨v, h1, h2⟩ := S.is _ (List.mem_of_getElem? hi)
  exact wpAny_Name (wpAny_loadName_free hk hl hc h1 ⟨g, mu, α, h2, Ends.refl S, h⟩ hn) hd

/-! calls of the program's own functions -/
noncomputable def nsL (names : List (Str × NameKind)) : List (Str × AV) → List (Str × AV) → List (Str × AV)
  | [], m => m
  | (x, v) :: r, m => nsL names r (if names.lookup x = some .local then (x, v) :: m else m)
noncomputable def nsC (names : List (Str × NameKind)) : List (Str × AV) → List (Str × AV) → List (Str × AV)
  | [], m => m
  | (x, v) :: r, m => nsC names r (if names.lookup x = some .local then m else (x, v) :: m)

def NsIs (C : Cx) (g : FH) (m : List (Str × AV)) (f : Str → Option Value) : Prop := ∀ x, match m.lookup x with
  | some α => ∃ v, f x = some v ∧ Rep C.prog C.w g v α
  | none => f x = none
theorem NsIs.put {g : FH} {m : List (Str × AV)} {f : Str → Option Value} (h : NsIs C g m f) {x : Str} {v : Value} {α : AV} (hr : Rep C.prog C.w g v α) : NsIs C g ((x, α) :: m) (fun y => if y = x then some v else f y) := fun y => by
  rw [List.lookup_cons]
  by_cases hy : y = x
  · subst hy; simp; exact hr
  · rw [beq_eq_false_iff_ne.mpr hy]
    simpa [hy] using h y
theorem nsL_is {g : FH} {scope : Scope} {L : Addr} : ∀ {binds : List (Str × Value)} {M : List (Str × AV)}, RepsD C.prog C.w g binds M → ∀ {m : List (Str × AV)} {f : Str → Option Value}, NsIs C g m f →
    NsIs C g (nsL scope.names M m) (bindL (fun x => scope.names.lookup x) binds f)
  | _, _, .nil, m, f, h => h
  | _, _, .cons (k := k) h1 h2, m, f, h => by
    unfold nsL bindL
    by_cases hk : scope.names.lookup k = some .local
    · rw [if_pos hk, if_pos hk]; exact nsL_is (L := L) h2 (h.put h1)
    · rw [if_neg hk, if_neg hk]; exact nsL_is (L := L) h2 h
theorem nsC_is {g : FH} {scope : Scope} {L : Addr} : ∀ {binds : List (Str × Value)} {M : List (Str × AV)}, RepsD C.prog C.w g binds M → ∀ {m : List (Str × AV)} {f : Str → Option Value}, NsIs C g m f →
    NsIs C g (nsC scope.names M m) (bindC (fun x => scope.names.lookup x) binds f)
  | _, _, .nil, m, f, h => h
  | _, _, .cons (k := k) h1 h2, m, f, h => by
    unfold nsC bindC
    by_cases hk : scope.names.lookup k = some .local
    · rw [if_pos hk, if_pos hk]; exact nsC_is (L := L) h2 h
    · rw [if_neg hk, if_neg hk]; exact nsC_is (L := L) h2 (h.put h1)
theorem RepsD.zip {prog : Program} {w : World} {g : FH} : ∀ {ps : List Str} {vs : List Value} {αs : List AV}, Reps prog w g vs αs → RepsD prog w g (ps.zip vs) (ps.zip αs)
  | [], _, _, _ => by simp; exact .nil
  | p :: ps, _, _, .nil => by simp; exact .nil
  | p :: ps, _, _, .cons h1 h2 => .cons h1 (RepsD.zip h2)

def retOf : AF → AV
  | .ret α => α
  | _ => .none

structure FnAt (C : Cx) (fa : Addr) (params : List Str) (body : List Stmt) (scope : Scope) (dv : List Value) : Prop where
  obj : ∃ o fd, C.H fa = some o ∧ o.data = .func fd ∧ fd.body = .stmts body ∧ fd.scope = scope ∧ fd.globals = mainGlobals ∧ fd.closure = [] ∧ fd.builtins = builtinsNs ∧ (∀ h, C.H.In h → h.CodeRec fd.code fd.qualname) ∧
    (∀ vs s, vs.length + dv.length = params.length → C.H.In s.heap → BindsTo s fd ⟨vs, []⟩ (params.zip (vs ++ dv)))
  keep : Callable C (.ref fa)

theorem cells_nodup {h : Heap} (names : List (Str × NameKind)) : ∀ (L : Addr), L + 1 = h.objs.size → CellsOk (pushCells h names) (L + 1) (cellsFrom (L + 1) names []) := fun L e => by
  have := cellsFrom_ok names h (L + 1) [] ⟨fun _ _ hm => (nomatch hm), List.Pairwise.nil⟩ (by rw [e]; exact Nat.le_refl _)
  rwa [← e] at this

theorem Room.deeper {A : Around} {env : Env} (r : Room (n + 1) A) : Room n (A.deeper env) :=
  ⟨r.handled, by have := r.depth; show A.depth + 1 + 3 * n + 3 ≤ 1000; omega, by have := r.units; show A.units + 3 + 30 * n + 100 ≤ 9900; omega⟩

theorem lookup_mem_nodup : ∀ {l : List (Str × Addr)}, (l.map (·.1)).Nodup → ∀ {x : Str} {c : Addr}, (x, c) ∈ l → l.lookup x = some c
  | [], _, x, c, h => nomatch h
  | (y, d) :: l, hn, x, c, h => by
    rw [List.map_cons, List.nodup_cons] at hn
    rw [List.lookup_cons]
    rcases List.mem_cons.mp h with h | h
    · cases h; rw [beq_self_eq_true]
    · have : x ≠ y := fun e => hn.1 (e ▸ List.mem_map.mpr ⟨(x, c), h, rfl⟩)
      rw [beq_eq_false_iff_ne.mpr this]
      exact lookup_mem_nodup hn.2 h

/-- as a code -/
def CL (C : Cx) (n : Nat) (αs : List AV) (mu : Mu) (f : Value) (Q : AV → Mu → Prop) : Prop := ∀ vs A g s, Room n A → C.H.le g → Reps C.prog C.w g vs αs → St C.prog C.w g mu s.heap →
  codeAny (model C.prog C.w) A (.call f ⟨vs, []⟩) (fun r s' => match r with | .ok (.ret v) => (∃ g' mu' α, Rep C.prog C.w g' v α ∧ Ends C.prog C.w g mu s g' mu' s' ∧ Q α mu') | .ok _ => False | .error _ => False) s
theorem CL.call {αs : List AV} {f : Value} {Q : AV → Mu → Prop} (h : CL C n αs mu f Q) : WL C n αs mu (fun vs => call f vs) Q := fun vs A g s hA hH hr S => wpAny_call (h vs A g s hA hH hr S)

theorem call_fnC (K : C.Ok) {fa : Addr} {params : List Str} {body : List Stmt} {scope : Scope} {dv : List Value} (F : FnAt C fa params body scope dv) {αs dα : List AV} {m0 : List (Str × AV)} {ce : Addr → List (Addr × MO)} {Q : AV → Mu → Prop}
    (hdv : ∀ g, Reps C.prog C.w g dv dα) (hlen : αs.length + dα.length = params.length)
    (hco : scope.isCoroutine = false) (hgen : scope.isGenerator = false) (hk : scope.kind = .function)
    (hkind : ∀ L, (params.all fun x => scope.names.lookup x == some .local || (scope.names.lookup x == some .cell && ((cellsFrom (L + 1) scope.names []).lookup x).isSome)) = true)
    (hcn : ∀ L, decide (((cellsFrom (L + 1) scope.names []).map (·.1)).Nodup) = true)
    (hm : nsL scope.names (params.zip (αs ++ dα)) [] = m0)
    (hc : ∀ L, (cellsFrom (L + 1) scope.names []).map (fun p => (p.2, MO.cell ((nsC scope.names (params.zip (αs ++ dα)) []).lookup p.1))) = ce L)
    (h : ∀ L q cd, WS C n ((L, .ns m0) :: (ce L ++ mu)) (newEnv scope L mainGlobals (cellsFrom (L + 1) scope.names []) q (some fa) cd none builtinsNs) body (fun φ mu' => ∃ d m, mu'.Perm (d ++ m) ∧ Q (retOf φ) m)) :
    CL C (n + 1) αs mu (.ref fa) Q := fun vs A g s hA hH hr S => by
  obtain ⟨⟨o, fd, ho, hd, hb, rfl, hgl, hcl, hbl, hcr, hbind⟩, _⟩ := F
  have hIn : C.H.In s.heap := fun b o e => S.sub b o (hH b o e)
  have hrD := RepsD.zip (ps := params) (hr.append (hdv g))
  have hvl : vs.length + dv.length = params.length := by rw [hr.length, (hdv g).length]; exact hlen
  have hdep : A.depth < recursionLimit := by have := hA.depth; show A.depth < 1000; omega
  refine codeAny_call_function (fd := fd) (body := body) hdep (hIn _ _ ho) hd hco hgen hb (hcr _ hIn) (hbind vs s hvl hIn _ _ _ _ ?_)
  rw [hcl]
  refine wpAny_newFunctionEnv_cells hk (fun x hx => ?_) fun env he s1 x => ?_
  · have h1 := List.all_eq_true.mp (hkind s.heap.objs.size) x.1 (List.of_mem_zip hx).1
    simp only [Bool.or_eq_true, Bool.and_eq_true, beq_iff_eq] at h1
    exact h1
  · have hIn1 : C.H.In s1.heap := fun b o e => x.toInCall.keep b o (hIn b o e)
    refine ⟨K.lim _ hIn1, codeAny_func ?_⟩
    subst he
    rw [hgl, hbl] at x ⊢
    generalize hL : s.heap.objs.size = L at x ⊢
    have hcs := cellsFrom_ok fd.scope.names (s.heap.push { cls := .type "frame", data := .dict #[] }) (L + 1) [] ⟨fun _ _ hm => (nomatch hm), List.Pairwise.nil⟩ (by rw [Heap.size_push, hL]; exact Nat.le_refl _)
    rw [Heap.size_push, hL] at hcs
    have fresh : ∀ a, L ≤ a → s.heap.get? a = none := fun a ha => by
      cases e : s.heap.get? a with
      | none => rfl
      | some o' => exact absurd (Heap.lt_size e) (by rw [hL]; exact Nat.not_lt.mpr ha)
    have n0 : NsIs C g [] (fun _ => none) := fun x => rfl
    have nL : NsIs C g m0 (bindL (fun x => fd.scope.names.lookup x) (params.zip (vs ++ dv)) fun _ => none) := hm ▸ nsL_is (L := L) hrD n0
    have nC := nsC_is (scope := fd.scope) (L := L) hrD n0
    have above : ∀ p ∈ cellsFrom (L + 1) fd.scope.names [], L < p.2 := fun p hp => x.above p.1 p.2 hp
    have hads : (ce L).map (·.1) = (cellsFrom (L + 1) fd.scope.names []).map (·.2) := by rw [← hc L, List.map_map]; rfl
    obtain ⟨h1, t1, rfl, hkeep⟩ := x.done
    have e1 : Ends C.prog C.w g mu s g (((L, MO.ns m0) :: ce L) ++ mu) { s with heap := h1, toks := t1 } := by
      refine Ends.grow S hkeep FH.le.rfl (fun _ _ e => .inl e) (fun a ha => ?_) ?_ (fun p hp => ?_)
      · rw [Mu.ads, List.map_cons, hads] at ha
        rcases List.mem_cons.mp ha with rfl | ha
        · exact fresh _ (Nat.le_refl _)
        · obtain ⟨p, hp, rfl⟩ := List.mem_map.mp ha
          exact fresh _ (Nat.le_of_lt (above p hp))
      · rw [Mu.ads, List.map_cons, hads, List.nodup_cons]
        refine ⟨fun hm => ?_, ?_⟩
        · obtain ⟨p, hp, e⟩ := List.mem_map.mp hm
          have hlt := above p hp
          rw [e] at hlt
          exact Nat.lt_irrefl _ hlt
        · rw [List.Nodup, List.pairwise_map]; exact x.apart
      · rcases List.mem_cons.mp hp with rfl | hp
        · exact ⟨_, x.toInCall.ns, fun y α e => by have := nL y; rw [e] at this; exact this⟩
        · rw [← hc L] at hp
          obtain ⟨q, hq, rfl⟩ := List.mem_map.mp hp
          have hcell := x.cell q.1 q.2 (lookup_mem_nodup (of_decide_eq_true (hcn L)) hq)
          have hv := nC q.1
          show MRep _ _ g h1 q.2 (MO.cell _)
          cases e : (nsC fd.scope.names (params.zip (αs ++ dα)) []).lookup q.1 with
          | none =>
            rw [e] at hv
            have hcell' : h1.IsCell q.2 none := by
              have : (bindC (newEnv fd.scope L mainGlobals (cellsFrom (L + 1) fd.scope.names []) (fd.qualname ++ ".<locals>.") (some fa) fd.code none builtinsNs).kindOf (params.zip (vs ++ dv)) fun _ => none) q.1 = none := hv
              rw [← this]; exact hcell
            exact hcell'
          | some α =>
            rw [e] at hv
            obtain ⟨v, h2, h3⟩ := hv
            refine ⟨v, ?_, h3⟩
            have : (bindC (newEnv fd.scope L mainGlobals (cellsFrom (L + 1) fd.scope.names []) (fd.qualname ++ ".<locals>.") (some fa) fd.code none builtinsNs).kindOf (params.zip (vs ++ dv)) fun _ => none) q.1 = some v := h2
            rw [← this]; exact hcell
    refine wpAny_mono (h L _ _ _ g { s with heap := h1, toks := t1 } hA.deeper hH trivial e1.st) (fun f s2 hh => ?_) fun _ _ e => e.elim
    obtain ⟨g2, mu2, φ, r2, e2, d, m, hp, hq⟩ := hh
    have e3 := (e1.trans (e2.perm (.refl _) hp)).drop
    cases r2 with
    | ret hr => exact ⟨g2, m, _, hr, e3, hq⟩
    | next => exact ⟨g2, m, _, .none, e3, hq⟩
    | brk => exact ⟨g2, m, _, .none, e3, hq⟩
    | cont => exact ⟨g2, m, _, .none, e3, hq⟩
end
end Mine
end
section
open PySem PySem.W PyProof.Rows PySem.SeqAt
namespace Mine

def AV.data : AV → Bool
  | .val _ => false
  | _ => true
theorem Rep.handed {prog : Program} {w : World} {g : FH} {v : Value} {α : AV} (h : Rep prog w g v α) (hd : α.data = true) : handedIn v = true := by
  cases h <;> first | rfl | cases hd

section
variable {prog : Program} {w : World} {g : FH}
theorem RepsE.get : ∀ {es : List DictEntry} {fs : List (Str × AV)}, RepsE prog w g es fs → ∀ {x : Str} {α : AV}, fs.lookup x = some α → ∃ v, getL x es = some (some v) ∧ Rep prog w g v α
  | _, _, .nil, x, α, e => by simp at e
  | _, _, .cons (k := k) (hsh := hsh) (t := t) (v := v) (vs := vs) h1 h2, x, α, e => by
    rw [List.lookup_cons] at e
    by_cases hk : x = k
    · subst hk
      rw [beq_self_eq_true] at e
      cases e
      exact ⟨v, by simp [getL, Value.isStr], h1⟩
    · rw [beq_eq_false_iff_ne.mpr hk] at e
      obtain ⟨u, h3, h4⟩ := RepsE.get h2 e
      refine ⟨u, ?_, h4⟩
      have hk' : (k == x) = false := beq_eq_false_iff_ne.mpr (Ne.symm hk)
      have hr : DictEntry.refKey ⟨hsh, .str k t, v⟩ = false := rfl
      unfold getL at h3 ⊢
      simpa [Value.isStr, hk', hr] using h3
theorem RepsE.miss : ∀ {es : List DictEntry} {fs : List (Str × AV)}, RepsE prog w g es fs → ∀ {x : Str}, fs.lookup x = none → getL x es = some none
  | _, _, .nil, x, e => by simp [getL]
  | _, _, .cons (k := k) (hsh := hsh) (t := t) (v := v) (vs := vs) h1 h2, x, e => by
    rw [List.lookup_cons] at e
    by_cases hk : x = k
    · subst hk
      rw [beq_self_eq_true] at e
      cases e
    · rw [beq_eq_false_iff_ne.mpr hk] at e
      have h3 := RepsE.miss h2 e
      have hk' : (k == x) = false := beq_eq_false_iff_ne.mpr (Ne.symm hk)
      have hr : DictEntry.refKey ⟨hsh, .str k t, v⟩ = false := rfl
      unfold getL at h3 ⊢
      simpa [Value.isStr, hk', hr] using h3
theorem RepsE.put : ∀ {es : List DictEntry} {fs : List (Str × AV)}, RepsE prog w g es fs → ∀ {x : Str} {hsh : Int} {t : Tok} {v : Value} {α : AV}, fs.lookup x = none → Rep prog w g v α → RepsE prog w g (putL x hsh (.str x t) v es) (fs ++ [(x, α)])
  | _, _, .nil, x, hsh, t, v, α, e, hr => .cons hr .nil
  | _, _, .cons (k := k) h1 h2, x, hsh, t, v, α, e, hr => by
    rw [List.lookup_cons] at e
    by_cases hk : x = k
    · subst hk
      rw [beq_self_eq_true] at e
      cases e
    · rw [beq_eq_false_iff_ne.mpr hk] at e
      have hk' : (k == x) = false := beq_eq_false_iff_ne.mpr (Ne.symm hk)
      unfold putL
      simp only [Value.isStr, hk', Bool.false_eq_true, if_false]
      exact .cons h1 (RepsE.put h2 e hr)
theorem RepsE.length : ∀ {es : List DictEntry} {fs : List (Str × AV)}, RepsE prog w g es fs → es.length = fs.length
  | _, _, .nil => rfl
  | _, _, .cons _ h => by simp [RepsE.length h]
end

section
variable {C : Cx} {n : Nat} {mu : Mu} {env : Env} {Q : AV → Mu → Prop}

def AttrOk (C : Cx) (Cc : Addr) (attr : Str) : Prop := ∀ A s x d es k v (Q : Value → Shared → Prop), C.H.In s.heap → s.heap.get? x = some (instObj Cc d) → s.heap.get? d = some (PySem.W.dictOf es k) → getL attr es = some (some v) → handedIn v = true →
  Q v { s with toks := s.toks + 1 } → wpAny (model C.prog C.w) A (getAttr (.ref x) attr true) Q (fun _ _ => False) s
theorem instAt_of {h : Heap} {x d Cc : Addr} {es : List DictEntry} {k : Nat} (h1 : h.get? x = some (instObj Cc d)) (h2 : h.get? d = some (PySem.W.dictOf es k)) : InstAt h x (instObj Cc d) Cc (some (PySem.W.dictOf es k)) := ⟨h1, rfl, rfl, h2⟩
theorem attr_of_K {K : Frag} {Cc : Addr} {name : Str} {attr : Option Value} (hH : ∀ h, C.H.In h → K.In h) (hg : plainGet K Cc name = true) (hh : hasDictIn K Cc = true) (ha : findIn K (.ref Cc) name = some attr) (hn : noGet K attr = true) : AttrOk C Cc name :=
  fun A s x d es k v Q hIn h1 h2 hl hv h => get_value (hH _ hIn) (instAt_of h1 h2) (plainGet_of hg).1 (findObj_own hh ha hn hl) hv h
theorem g_attr {Cc : Addr} {attr : Str} {fs : List (Str × AV)} {α : AV} (A : AttrOk C Cc attr) (hl : fs.lookup attr = some α) (hd : α.data = true) (h : Q α mu) : W1 C n (.obj Cc fs) mu (fun v => getAttr v attr true) Q := fun v Ar g s hA hH hr S => by
  cases hr with
  | obj h1 h2 h3 =>
    obtain ⟨u, h4, h5⟩ := h3.get hl
    exact A Ar s _ _ _ _ _ _ (fun b o e => S.sub b o (hH b o e)) (S.sub _ _ h1) (S.sub _ _ h2) h4 (h5.handed hd) ⟨g, mu, α, h5, Ends.toks S, h⟩

def SetOk (C : Cx) (Cc : Addr) (attr : Str) : Prop := ∀ A s x d es k v (Q : Unit → Shared → Prop), C.H.In s.heap → s.heap.get? x = some (instObj Cc d) → s.heap.get? d = some (PySem.W.dictOf es k) → (getL attr es).isSome = true → es.length ≤ 900 →
  (∀ h' hsh tk t k', h'.get? d = some (PySem.W.dictOf (putL attr hsh (.str attr tk) v es) k') → (∀ b o, b ≠ d → s.heap.get? b = some o → h'.get? b = some o) → Q () { s with heap := h', toks := t }) → wpAny (model C.prog C.w) A (setAttr (.ref x) attr v) Q (fun _ _ => False) s
theorem putL_length (name : Str) (hsh : Int) (key v : Value) : ∀ es : List DictEntry, (putL name hsh key v es).length ≤ es.length + 1
  | [] => by simp [putL]
  | e :: r => by
    unfold putL
    split
    · simp
    · have := putL_length name hsh key v r; simp; omega
theorem set_of_K {K : Frag} {Cc : Addr} {name : Str} (hH : ∀ h, C.H.In h → K.In h) (hs : findIn K (.ref Cc) "__setattr__" = some (some (.builtin "object.__setattr__"))) (hp : plainOver K Cc = true) (ht : takerIn K Cc name = some none) (hh : hasDictIn K Cc = true) : SetOk C Cc name :=
  fun A s x d es k v Q hIn h1 h2 hl hz h => by
    have X := hH _ hIn
    have I := instAt_of h1 h2
    refine set_plain X I hs (osa_open (s := { s with toks := s.toks + 1 }) X I hp ht fun b => ?_)
    obtain ⟨cd, hc, hd'⟩ := any_some hh
    dsimp only
    refine wpAny_bind (wpAny_pure (wpAny_bind (wpAny_bind (wpAny_loadPart h1 (wpAny_bind (looks_clsIn X hc _ _ _ _ (fun _ _ e => e) ?_))))))
    rw [hd']
    refine wpAny_pure (a := some d) (wpAny_bind (wpAny_pure (wpAny_bind ?_)))
    unfold nsSet
    refine wpAny_bind (wpAny_bind (wpAny_askSetting (wpAny_pure (wpAny_bind (wpAny_mkText (wpAny_bind (wpAny_loadPart h2 ?_)))))))
    have hput := putName_dict name (PyData.keyHash C.w.params name) (.str name (s.toks + 1)) v es k
    have D' := Heap.get?_update_self (Obj.putName name (PyData.keyHash C.w.params name) (.str name (s.toks + 1)) v) h2 (by rw [hput]; rfl)
    rw [hput] at D'
    dsimp only
    have c : (!es.toArray.any (·.key.isStr name) && es.toArray.any (·.refKey)) = false := by
      rw [← Array.any_toList, ← Array.any_toList]
      unfold getL at hl
      split at hl
      · rename_i en he
        rw [List.any_eq_true.mpr ⟨en, List.mem_of_find?_eq_some he, List.find?_some he⟩]; rfl
      · split at hl
        · cases hl
        · rename_i z; rw [Bool.not_eq_true] at z; simp only [z, Bool.and_false]
    rw [aRefKeyMayBeTheName_at, c]
    refine wpAny_updatePart h2 ?_
    refine wpAny_bind (wpAny_lookBehind D' (pastItsLine_dict (by rw [List.size_toArray, sizeLine_eq]; have := putL_length name (PyData.keyHash C.w.params name) (.str name (s.toks + 1)) v es; omega)) ?_)
    exact wpAny_pure (h _ _ _ _ _ D' fun b o hb e => (Heap.get?_update_ne _ _ _ _ hb).trans e)

theorem set_attr {x Cc d : Addr} {attr : Str} {fs : List (Str × AV)} {β : AV} {i j : Nat} {P : Unit → Mu → Prop} (A : SetOk C Cc attr) (hi : mu[i]? = some (x, .inst Cc d)) (hj : mu[j]? = some (d, .attrs fs)) (hl : fs.lookup attr = none) (hz : fs.length ≤ 900)
    (h : P () (mu.set j (d, .attrs (fs ++ [(attr, β)])))) (v : Value) : WT C.prog C.w C.H n RU (fun g => Rep C.prog C.w g v β) mu (setAttr (.ref x) attr v) P := fun Ar g s hA hH hr S => by
  have h1 : s.heap.get? x = some (instObj Cc d) := S.is _ (List.mem_of_getElem? hi)
  obtain ⟨es, k, h2, h3⟩ := S.is _ (List.mem_of_getElem? hj)
  refine A Ar s x d es k v _ (fun b o e => S.sub b o (hH b o e)) h1 h2 (by rw [h3.miss hl]; rfl) (by rw [h3.length]; exact hz) fun h' hsh tk t k' h4 h5 => ?_
  exact ⟨g, _, (), trivial, Ends.upd (mo' := .attrs (fs ++ [(attr, β)])) S hj (fun b o hb e => h5 b o hb e) ⟨_, _, h4, h3.put hl hr⟩, h⟩
theorem X_setattr {o value : Expr} {attr : Str} {pos' pos : Pos} {Q : AF → Mu → Prop} (hs : swapsWith value (some (.Attribute o attr pos')) pos.line env = pure false)
    (h : WE C n mu env value fun α mu1 => WE C n mu1 env o fun β mu2 => ∃ x, β = .val (.ref x) ∧ ∀ v, WT C.prog C.w C.H n RU (fun g => Rep C.prog C.w g v α) mu2 (setAttr (.ref x) attr v) fun _ mu3 => Q .next mu3) :
    WX C n mu env (.Assign [.Attribute o attr pos'] value pos) Q := fun A g s hA hH _ S => by
  refine plainObj_wpAny_Assign_Attribute (wpAny_mono (h A g s hA hH trivial S) (fun a s1 ⟨g1, mu1, α, r1, e1, q1⟩ => wpAny_mono (q1 A g1 s1 hA (hH.trans e1.le) trivial e1.st) (fun b s2 ⟨g2, mu2, β, r2, e2, x, hx, q2⟩ => ?_) fun _ _ e => e) fun _ _ e => e) hs
  subst hx
  cases r2
  refine wpAny_mono (q2 a A g2 s2 hA (hH.trans (e1.le.trans e2.le)) (r1.mono e2.le) e2.st) (fun _ s3 ⟨g3, mu3, _, _, e3, q3⟩ => ?_) fun _ _ e => e
  exact ⟨g3, mu3, _, .next, (e1.trans e2).trans e3, q3⟩

def MkOk (C : Cx) (Cc fi : Addr) : Prop := ∀ A s rest (R : Result → Shared → Prop), C.H.In s.heap →
  codeAny (model C.prog C.w) (A.under (.builtin "type.__call__" ⟨.ref Cc :: rest, []⟩)) (.call (.ref fi) ⟨.ref (s.heap.objs.size + 1) :: rest, []⟩) (InitBack (s.heap.objs.size + 1) R)
    { s with heap := (s.heap.push emptyDict).push (instObj Cc s.heap.objs.size) } → codeAny (model C.prog C.w) A (.call (.ref Cc) ⟨rest, []⟩) R s
theorem mk_of_K {K : Frag} {Cc fi : Addr} (hH : ∀ h, C.H.In h → K.In h) (hm : makesIn K Cc = true) (hi : findIn K (.ref Cc) "__init__" = some (some (.ref fi))) (hf : typeIn K (.ref fi) = some (.type "function")) : MkOk C Cc fi :=
  fun A s rest R hIn h => by
    obtain ⟨hh, g, d, t, os⟩ := s
    have X := hH _ hIn
    exact make_core (makes_of X hm) (looks_findIn X hi) (fun self => bind_fn X self hf) (.inl rfl) h

theorem Room.creation {A : Around} {args : Args} {a : Addr} {r : List Value} (h : Room (n + 1) A) : Room n (A.under (.builtin "type.__call__" ⟨.ref a :: r, []⟩)) :=
  ⟨h.handled, by have := h.depth; show A.depth + 1 + 3 * n + 3 ≤ 1000; omega, by have := h.units; show A.units + 1 + 30 * n + 100 ≤ 9900; omega⟩

theorem mk_obj {Cc fi : Addr} (M : MkOk C Cc fi) {αs : List AV}
    (h : ∀ x d, CL C n (.val (.ref x) :: αs) ((x, .inst Cc d) :: (d, .attrs []) :: mu) (.ref fi) fun β mu' => β = .none ∧ ∃ fs m, mu'.Perm ((d, .attrs fs) :: (x, .inst Cc d) :: m) ∧ Q (.obj Cc fs) m) :
    WL C (n + 1) αs mu (fun vs => call (.ref Cc) vs) Q := fun vs A g s hA hH hr S => by
  refine wpAny_call (M A s vs _ (fun b o e => S.sub b o (hH b o e)) ?_)
  have fresh : ∀ a, s.heap.objs.size ≤ a → s.heap.get? a = none := fun a ha => by
    cases e : s.heap.get? a with
    | none => rfl
    | some o' => exact absurd (Heap.lt_size e) (Nat.not_lt.mpr ha)
  have hx : ((s.heap.push emptyDict).push (instObj Cc s.heap.objs.size)).get? (s.heap.objs.size + 1) = some (instObj Cc s.heap.objs.size) := by
    have := Heap.get?_push_size (s.heap.push emptyDict) (o := instObj Cc s.heap.objs.size) rfl
    rwa [Heap.size_push] at this
  have hd : ((s.heap.push emptyDict).push (instObj Cc s.heap.objs.size)).get? s.heap.objs.size = some emptyDict := Heap.get?_push_of_some _ (Heap.get?_push_size _ rfl)
  have e1 : Ends C.prog C.w g mu s g ([(s.heap.objs.size + 1, MO.inst Cc s.heap.objs.size), (s.heap.objs.size, .attrs [])] ++ mu) { s with heap := (s.heap.push emptyDict).push (instObj Cc s.heap.objs.size), toks := s.toks } := by
    refine Ends.grow S (fun b o e => Heap.get?_push_of_some _ (Heap.get?_push_of_some _ e)) FH.le.rfl (fun _ _ e => .inl e) (fun a ha => ?_) (by simp [Mu.ads]) (fun p hp => ?_)
    · simp [Mu.ads] at ha
      rcases ha with rfl | rfl
      · exact fresh _ (Nat.le_succ _)
      · exact fresh _ (Nat.le_refl _)
    · simp at hp
      rcases hp with rfl | rfl
      · exact hx
      · exact ⟨[], 0, hd, .nil⟩
  refine codeAny_mono (h _ _ (.ref (s.heap.objs.size + 1) :: vs) _ g { s with heap := (s.heap.push emptyDict).push (instObj Cc s.heap.objs.size), toks := s.toks } (hA.creation (args := ⟨[], []⟩)) hH (.cons (.val _) hr) e1.st) fun r s2 z => ?_
  rcases r with e | (v | _ | _ | _) <;> first | exact z.elim | skip
  obtain ⟨g2, mu2, β, r2, e2, rfl, fs, m, hp, hq⟩ := z
  cases r2
  refine ⟨rfl, ?_⟩
  have e3 := e1.trans (e2.perm (.refl _) hp)
  obtain ⟨es, k, h2, h3⟩ := e3.st.is _ (List.mem_cons_self ..)
  have hg2 : g2 s.heap.objs.size = none := e3.st.off _ (List.mem_cons_self ..)
  have f1 := Ends.freeze e3.st h2
  have hxx : s2.heap.get? (s.heap.objs.size + 1) = some (instObj Cc s.heap.objs.size) := f1.st.is _ (List.mem_cons_self ..)
  have f2 := Ends.freeze f1.st hxx
  exact ⟨_, m, _, .obj (FH.add_self ..) (f2.le _ _ (FH.add_self ..)) (h3.mono (f1.le.trans f2.le)), (e3.trans f1).trans f2, hq⟩

/-! a method of an object, told without arguments -/
def MethOk (C : Cx) (Cc : Addr) (name : Str) (f : Addr) : Prop := ∀ A s x d es k pl (Q : Value × List Value → Shared → Prop), C.H.In s.heap → s.heap.get? x = some (instObj Cc d) → s.heap.get? d = some (PySem.W.dictOf es k) → getL name es = some none → Q (.ref f, [.ref x]) s →
  wpAny (model C.prog C.w) A (getMethod (.ref x) name pl) Q (fun _ _ => False) s
theorem meth_of_K {K : Frag} {Cc f : Addr} {name : Str} (hH : ∀ h, C.H.In h → K.In h) (hg : plainGet K Cc name = true) (hf : findIn K (.ref Cc) name = some (some (.ref f))) (ht : isFn K (.ref f) = true) : MethOk C Cc name f :=
  fun A s x d es k pl Q hIn h1 h2 hl h => method_fn (hH _ hIn) (instAt_of h1 h2) (plainGet_of hg).1 (plainGet_of hg).2 hf (beq_iff_eq.mp ht) (by show (lookIn name (PySem.W.dictOf es k)).map _ = _; rw [lookIn_dict, hl]; rfl) h
theorem E_meth0 {o : Expr} {name : Str} {f Cc : Addr} {apos pos : Pos} {pl : Sem Bool} (M : MethOk C Cc name f) (hc : Callable C (.ref f))
    (he : eval (.Call (.Attribute o name apos) [] [] pos) env = (do
      let ov ← eval o env
      standAt apos.atName
      let (f, first) ← holding [ov] (getMethod ov name pl)
      callWith pos f first (backTo pos (starEach [] env)) []))
    (hb : backTo pos (starEach [] env) = [])
    (h : WE C n mu env o fun α mu1 => ∃ fs, α = .obj Cc fs ∧ fs.lookup name = none ∧ WL C n [.obj Cc fs] mu1 (fun vs => call (.ref f) vs) Q) :
    WE C n mu env (.Call (.Attribute o name apos) [] [] pos) Q := fun A g s hA hH _ S => by
  refine MethodCall_ (pl := pl) (wpAny_mono (h A g s hA hH trivial S) (fun ov s1 hh => ?_) fun _ _ e => e) he
  obtain ⟨g1, mu1, α, r1, e1, fs, rfl, hl, q1⟩ := hh
  cases r1 with
  | @obj x d _ es k _ h1 h2 h3 =>
    have hIn : C.H.In s1.heap := fun b o e => e1.st.sub b o (e1.le b o (hH b o e))
    refine M A s1 x d es k pl _ hIn (e1.st.sub _ _ h1) (e1.st.sub _ _ h2) (h3.miss hl) ?_
    rw [hb]
    refine callWith_of (P := C.H.In) rfl hc ?_
    refine evalArgs_nil3 ⟨hIn, ?_⟩
    exact comb e1 (q1 [.ref x] A g1 s1 hA (hH.trans e1.le) (.cons (.obj h1 h2 h3) .nil) e1.st)
end
end Mine
end
section
open PySem PySem.W PyProof.Rows PySem.SeqAt
namespace Mine

def storedA {K : Type} [DecidableEq K] (kvs : List (K × AV)) (k : K) (α : AV) : List (K × AV) :=
  if kvs.any (fun kv => kv.1 = k) then kvs.map (fun kv => if kv.1 = k then (kv.1, α) else kv) else kvs ++ [(k, α)]

section
variable {prog : Program} {w : World} {g : FH}
theorem RepsK.any {K : Type} [DecidableEq K] : ∀ {vs : List (K × Value)} {αs : List (K × AV)}, RepsK (prog := prog) (w := w) g vs αs → ∀ k : K, vs.any (fun kv => kv.1 = k) = αs.any (fun kv => kv.1 = k)
  | _, _, .nil, _ => rfl
  | _, _, .cons _ h, k => by simp [RepsK.any h k]
theorem RepsK.put {K : Type} [DecidableEq K] {k : K} {v : Value} {α : AV} (hr : Rep prog w g v α) : ∀ {vs : List (K × Value)} {αs : List (K × AV)}, RepsK (prog := prog) (w := w) g vs αs →
    RepsK (prog := prog) (w := w) g (vs.map fun kv => if kv.1 = k then (kv.1, v) else kv) (αs.map fun kv => if kv.1 = k then (kv.1, α) else kv)
  | _, _, .nil => .nil
  | _, _, .cons (k := k') h1 h2 => by
    by_cases e : k' = k
    · simp only [List.map_cons, if_pos e]; exact .cons hr (RepsK.put hr h2)
    · simp only [List.map_cons, if_neg e]; exact .cons h1 (RepsK.put hr h2)
theorem RepsK.snoc {K : Type} {k : K} {v : Value} {α : AV} (hr : Rep prog w g v α) : ∀ {vs : List (K × Value)} {αs : List (K × AV)}, RepsK (prog := prog) (w := w) g vs αs → RepsK (prog := prog) (w := w) g (vs ++ [(k, v)]) (αs ++ [(k, α)])
  | _, _, .nil => .cons hr .nil
  | _, _, .cons h1 h2 => .cons h1 (RepsK.snoc hr h2)
theorem RepsK.stored {K : Type} [DecidableEq K] {k : K} {v : Value} {α : AV} {vs : List (K × Value)} {αs : List (K × AV)} (h : RepsK (prog := prog) (w := w) g vs αs) (hr : Rep prog w g v α) : RepsK (prog := prog) (w := w) g (PySem.stored vs k v) (storedA αs k α) := by
  unfold PySem.stored storedA
  rw [h.any k]
  split
  · exact h.put hr
  · exact h.snoc hr
theorem RepsD.toK : ∀ {vs : List (Str × Value)} {αs : List (Str × AV)}, RepsD prog w g vs αs → RepsK (prog := prog) (w := w) g vs αs
  | _, _, .nil => .nil
  | _, _, .cons h1 h2 => .cons h1 h2.toK
theorem RepsK.toD : ∀ {vs : List (Str × Value)} {αs : List (Str × AV)}, RepsK (prog := prog) (w := w) g vs αs → RepsD prog w g vs αs
  | _, _, .nil => .nil
  | _, _, .cons h1 h2 => .cons h1 h2.toD
theorem RepsK.length {K : Type} : ∀ {vs : List (K × Value)} {αs : List (K × AV)}, RepsK (prog := prog) (w := w) g vs αs → vs.length = αs.length
  | _, _, .nil => rfl
  | _, _, .cons _ h => by simp [RepsK.length h]
theorem RepsK.keys {K : Type} : ∀ {vs : List (K × Value)} {αs : List (K × AV)}, RepsK (prog := prog) (w := w) g vs αs → vs.map (·.1) = αs.map (·.1)
  | _, _, .nil => rfl
  | _, _, .cons _ h => by simp [RepsK.keys h]
end

section
variable {C : Cx} {n : Nat} {mu : Mu} {env : Env} {Q : AV → Mu → Prop}

/-- a fresh dict display -/
theorem E_dict0S (K : C.Ok) {pos : Pos} (h : ∀ a, Q (.val (.ref a)) ((a, .dictS []) :: mu)) : WE C n mu env (.Dict [] [] pos) Q := fun A g s hA hH _ S => by
  have hs := K.sysm s.heap fun b o e => S.sub b o (hH b o e)
  refine wpAny_Dict_empty ⟨g, _, _, .val _, Ends.grow (t := s.toks) (new := [(s.heap.objs.size, .dictS [])]) S (fun b o e => Heap.get?_push_of_some _ e) FH.le.rfl (fun _ _ e => .inl e) (fun a ha => by simp [Mu.ads] at ha; rw [ha]; exact fresh_size) (by simp [Mu.ads]) (fun p hp => ?_), h _⟩
  rw [List.mem_singleton.mp hp]
  refine ⟨[], ⟨_, #[], 0, Heap.get?_push_size _ rfl, ⟨rfl, rfl, rfl⟩, rfl, fun e he => by simp at he, .nil, List.nodup_nil⟩, .nil, ?_⟩
  exact beq_eq_false_iff_ne.mpr (Nat.ne_of_gt hs)
theorem E_dict0I (K : C.Ok) {pos : Pos} (h : ∀ a, Q (.val (.ref a)) ((a, .dictI []) :: mu)) : WE C n mu env (.Dict [] [] pos) Q := fun A g s hA hH _ S => by
  have hs := K.sysm s.heap fun b o e => S.sub b o (hH b o e)
  refine wpAny_Dict_empty ⟨g, _, _, .val _, Ends.grow (t := s.toks) (new := [(s.heap.objs.size, .dictI [])]) S (fun b o e => Heap.get?_push_of_some _ e) FH.le.rfl (fun _ _ e => .inl e) (fun a ha => by simp [Mu.ads] at ha; rw [ha]; exact fresh_size) (by simp [Mu.ads]) (fun p hp => ?_), h _⟩
  rw [List.mem_singleton.mp hp]
  refine ⟨[], ⟨_, #[], 0, Heap.get?_push_size _ rfl, ⟨rfl, rfl, rfl⟩, rfl, fun e he => by simp at he, .nil, List.nodup_nil⟩, .nil, ?_⟩
  exact beq_eq_false_iff_ne.mpr (Nat.ne_of_gt hs)

/-- masks[number] -/
theorem s_dictI {kvs : List (Int × AV)} {k : Int} {x : AV} {ve se : Expr} {i : Nat} {a : Addr} (hi : mu[i]? = some (a, .dictI kvs)) (hx : (kvs.find? fun p => p.1 = k).map (·.2) = some x) (hs : ∀ l u, subscripted se false (.ref l) (.int k u) = operate [.ref l, .int k u] (getItem (.ref l) (.int k u))) (h : Q x mu) :
    W2 C n (.val (.ref a)) (.int k) mu (subscriptTail ve se) Q := fun u v A g s hA hH ⟨r1, r2⟩ S => by
  cases r1
  cases r2 with
  | int _ tk =>
  obtain ⟨kvv, hd, hr, hm⟩ := S.is _ (List.mem_of_getElem? hi)
  rcases RepsK.at hr (k := k) with ⟨v, α, h3, h4, h5⟩ | ⟨h3, h4⟩
  · rw [hx] at h4
    cases h4
    exact PyProof.Rows.tail_any hd.typeIs slot_dict_getitem.lookup (wpAny_getItem_of (k := k) (intKind_is _ _ _ _) hd.mapOf h3 ⟨g, mu, x, h5, Ends.toks S, h⟩) (hs a tk)
  · rw [hx] at h4; cases h4

/-! stores -/
theorem X_setsub {o i value : Expr} {pos' pos : Pos} {P : AF → Mu → Prop} (hs : swapsWith value (some (.Subscript o i pos')) pos.line env = pure false)
    (h : WE C n mu env value fun α mu1 => WE C n mu1 env o fun β mu2 => WE C n mu2 env i fun γ mu3 => ∃ x, β = .val (.ref x) ∧ ∀ v k, WT C.prog C.w C.H n RU (fun g => Rep C.prog C.w g v α ∧ Rep C.prog C.w g k γ) mu3 (setItem (.ref x) k v) fun _ mu4 => P .next mu4) :
    WX C n mu env (.Assign [.Subscript o i pos'] value pos) P := fun A g s hA hH _ S => by
  refine wpAny_Assign_Subscript (wpAny_mono (h A g s hA hH trivial S) (fun a s1 ⟨g1, mu1, α, r1, e1, q1⟩ => wpAny_mono (q1 A g1 s1 hA (hH.trans e1.le) trivial e1.st) (fun b s2 ⟨g2, mu2, β, r2, e2, q2⟩ =>
    wpAny_mono (q2 A g2 s2 hA (hH.trans (e1.le.trans e2.le)) trivial e2.st) (fun c s3 ⟨g3, mu3, γ, r3, e3, x, hx, q3⟩ => ?_) fun _ _ e => e) fun _ _ e => e) fun _ _ e => e) hs
  subst hx
  cases r2
  refine wpAny_mono (q3 a c A g3 s3 hA (hH.trans ((e1.le.trans e2.le).trans e3.le)) ⟨r1.mono (e2.le.trans e3.le), r3⟩ e3.st) (fun _ s4 ⟨g4, mu4, _, _, e4, q4⟩ => ?_) fun _ _ e => e
  exact ⟨g4, mu4, _, .next, ((e1.trans e2).trans e3).trans e4, q4⟩
theorem set_loose {xs : List AV} {k : Int} {α : AV} {i : Nat} {l : Addr} {P : Unit → Mu → Prop} (hi : mu[i]? = some (l, .loose xs)) (h0 : 0 ≤ k) (hk : k < xs.length) (hz : xs.length ≤ 1000) (h : P () (mu.set i (l, .loose (xs.set k.toNat α)))) (v kv : Value) :
    WT C.prog C.w C.H n RU (fun g => Rep C.prog C.w g v α ∧ Rep C.prog C.w g kv (.int k)) mu (setItem (.ref l) kv v) P := fun A g s hA hH ⟨r1, r2⟩ S => by
  cases r2 with
  | int _ tk =>
  obtain ⟨its, hl, hr⟩ := S.is _ (List.mem_of_getElem? hi)
  have e1 := hr.length
  simp at e1
  refine wpAny_setItem_list hl h0 (by omega) (by omega) fun h' hl' hs => ⟨g, _, (), trivial, Ends.upd (t := s.toks) (mo' := .loose (xs.set k.toNat α)) S hi (fun b o hb e => hs.extBut b o hb e) ⟨_, hl', ?_⟩, h⟩
  rw [Array.toList_setIfInBounds]
  have : ∀ {vs : List Value} {αs : List AV} (j : Nat), Reps C.prog C.w g vs αs → Reps C.prog C.w g (vs.set j v) (αs.set j α) := by
    intro vs
    induction vs with
    | nil => intro αs j h; cases h; simp; exact .nil
    | cons u r ih =>
      intro αs j h
      cases h with
      | cons h1 h2 =>
        cases j with
        | zero => exact .cons r1 h2
        | succ j => exact .cons h1 (ih j h2)
  exact this _ hr
theorem set_dictI {kvs : List (Int × AV)} {k : Int} {α : AV} {i : Nat} {l : Addr} {P : Unit → Mu → Prop} (hi : mu[i]? = some (l, .dictI kvs)) (hz : kvs.length ≤ 1000) (h : P () (mu.set i (l, .dictI (storedA kvs k α)))) (v kv : Value) :
    WT C.prog C.w C.H n RU (fun g => Rep C.prog C.w g v α ∧ Rep C.prog C.w g kv (.int k)) mu (setItem (.ref l) kv v) P := fun A g s hA hH ⟨r1, r2⟩ S => by
  cases r2 with
  | int _ tk =>
  obtain ⟨kvv, hd, hr, hm⟩ := S.is _ (List.mem_of_getElem? hi)
  refine wpAny_setItem_pairs (hsz := by rw [sizeLine_eq, hr.length]; omega) (k := k) (intKind_is _ _ _ _) hd fun h' hd' hs => ⟨g, _, (), trivial, Ends.upd (t := s.toks + 1) (mo' := .dictI (storedA kvs k α)) S hi (fun b o hb e => hs.extBut b o hb e) ⟨_, hd', hr.stored r1, hm⟩, h⟩
theorem set_dictS {kvs : List (Str × AV)} {k : Str} {α : AV} {i : Nat} {l : Addr} {P : Unit → Mu → Prop} (hi : mu[i]? = some (l, .dictS kvs)) (hz : kvs.length ≤ 1000) (h : P () (mu.set i (l, .dictS (storedA kvs k α)))) (v kv : Value) :
    WT C.prog C.w C.H n RU (fun g => Rep C.prog C.w g v α ∧ Rep C.prog C.w g kv (.str k)) mu (setItem (.ref l) kv v) P := fun A g s hA hH ⟨r1, r2⟩ S => by
  cases r2 with
  | str _ tk =>
  obtain ⟨kvv, hd, hr, hm⟩ := S.is _ (List.mem_of_getElem? hi)
  refine wpAny_setItem_pairs (hsz := by rw [sizeLine_eq, hr.toK.length]; omega) (k := k) (by simp [PySem.strKind, Value.isStrOf]) hd fun h' hd' hs => ⟨g, _, (), trivial, Ends.upd (t := s.toks + 1) (mo' := .dictS (storedA kvs k α)) S hi (fun b o hb e => hs.extBut b o hb e) ⟨_, hd', (hr.toK.stored r1).toD, hm⟩, h⟩

/-! several names at once -/
noncomputable def AsgEach (C : Cx) (n : Nat) : List AV → List (Value → Sem Unit) → Mu → (Unit → Mu → Prop) → Prop
  | [], [], mu, P => P () mu
  | α :: αs, t :: ts, mu, P => ∀ v, WT C.prog C.w C.H n RU (fun g => Rep C.prog C.w g v α) mu (t v) fun _ mu1 => AsgEach C n αs ts mu1 P
  | _, _, _, _ => False
theorem asg_run : ∀ {αs : List AV} {ts : List (Value → Sem Unit)} {mu : Mu} {P : Unit → Mu → Prop}, AsgEach C n αs ts mu P → ∀ vs, WT C.prog C.w C.H n RU (fun g => Reps C.prog C.w g vs αs) mu (assignInOrder ts vs) P
  | [], [], mu, P, h, vs => fun A g s hA hH hr S => by
    cases hr
    exact wpAny_assignInOrder_none ⟨g, mu, (), trivial, Ends.refl S, h⟩
  | α :: αs, t :: ts, mu, P, h, vs => fun A g s hA hH hr S => by
    cases hr with
    | @cons v _ vs _ h1 h2 =>
      refine wpAny_assignInOrder_more (wpAny_mono (h v A g s hA hH h1 S) (fun _ s1 hh => ?_) fun _ _ e => e)
      obtain ⟨g1, mu1, _, _, e1, q1⟩ := hh
      exact comb e1 (asg_run q1 vs A g1 s1 hA (hH.trans e1.le) (h2.mono e1.le) e1.st)
  | [], _ :: _, _, _, h, _ => h.elim
  | _ :: _, [], _, _, h, _ => h.elim
theorem as_tuple {elts : List Expr} {k : Nat} {pos : Pos} {αs : List AV} {ts : List (Value → Sem Unit)} {P : Unit → Mu → Prop} (hts : assignEach elts env = ts.map (fun t => (false, t))) (hl : ts.length = αs.length) (h : AsgEach C n αs ts mu P) :
    Was C n (.tup αs) mu env (.Tuple elts k pos) P := fun v A g s hA hH hr S => by
  cases hr with
  | @tup l o its k1 _ h1 h2 h3 h4 =>
    have e1 := h4.length
    simp at e1
    refine assign_Tuple_tuple hA.handled (t := l) (items := its) ⟨_, S.sub _ _ h1, h2, _, h3⟩ (by rw [hts, List.length_map, hl]; exact e1.symm) (by rw [hts, List.findIdx?_eq_none_iff]; intro p hp; obtain ⟨t, _, rfl⟩ := List.mem_map.mp hp; rfl) fun h' he => ?_
    rw [hts]
    have em : (ts.map fun t => (false, t)).map (·.2) = ts := by rw [List.map_map]; exact List.map_id ts
    rw [em]
    have e0 : Ends C.prog C.w g mu s g mu { s with heap := h', toks := s.toks } := Ends.grow0 S fun b o e => he b o (Nat.ne_of_lt (Heap.lt_size e)) e
    exact comb e0 (asg_run h its.toList A g _ hA hH h4 e0.st)

/-- an entry is frozen, the name that holds it is noted anew -/
theorem WT.frzNs {β β' : Type} {R : FH → β → β' → Prop} {T : FH → Prop} {mu mu1 : Mu} {t : Sem β} {P : β' → Mu → Prop} {a L : Addr} {mo : MO} {α : AV} {x : Str} {m : List (Str × AV)} {i : Nat} (hTm : Mono T)
    (hf : (∃ ys, mo = .list ys ∧ α = .list ys) ∨ (∃ ys, mo = .dictS ys ∧ α = .dict ys)) (hp : mu.Perm ((a, mo) :: mu1)) (hi : mu1[i]? = some (L, .ns m)) (hx : m.lookup x = some (.val (.ref a)))
    (h : WT C.prog C.w C.H n R T (mu1.set i (L, .ns ((x, α) :: m))) t P) : WT C.prog C.w C.H n R T mu t P := by
  refine WT.frzT (T' := fun g => T g ∧ Rep C.prog C.w g (.ref a) α) hf hp (fun g g' hl hT hr => ⟨hTm _ _ hl hT, hr⟩) fun A g s hA hH hT S => ?_
  obtain ⟨f, hns, hf'⟩ := S.is _ (List.mem_of_getElem? hi)
  have e0 : Ends C.prog C.w g mu1 s g (mu1.set i (L, .ns ((x, α) :: m))) { s with heap := s.heap, toks := s.toks } := by
    refine Ends.upd S hi (fun b o _ e => e) ⟨f, hns, fun y β e => ?_⟩
    rw [List.lookup_cons] at e
    by_cases hy : y = x
    · subst hy
      rw [beq_self_eq_true] at e
      cases e
      obtain ⟨v, h1, h2⟩ := hf' _ _ hx
      cases h2
      exact ⟨_, h1, hT.2⟩
    · rw [beq_eq_false_iff_ne.mpr hy] at e
      exact hf' _ _ e
  exact comb e0 (h A g s hA hH hT.1 e0.st)
end
end Mine
end
section
open PySem PySem.W PyProof.Rows PySem.SeqAt
namespace Mine

/-! sets of small numbers -/
def insN (k : Nat) (l : List Nat) : List Nat := l.takeWhile (· < k) ++ k :: l.dropWhile (· < k)
def subs6 : List (List Nat) := [0, 1, 2, 3, 4, 5].foldr (fun x r => r ++ r.map (x :: ·)) [[]]
def putTab (led : Bool) (k : Nat) (l : List Nat) : SetTable := { tabOf led l with place := (insN k l).toArray }
def okPut (led : Bool) (l : List Nat) (k : Nat) : Bool :=
  (tabOf led l).freeSlot (k : Int) == some (k, false) && (tabOf led l).put k == (putTab led k l, (l.takeWhile (· < k)).length) && (putTab led k l).fits (l.length + 1) &&
  (if l.length + 1 = 5 then (putTab led k l).tooFull && ((putTab led k l).relaid ((insN k l).map (fun n : Nat => (n : Int))).toArray (SetTable.grown 5) == some (tabOf led (insN k l), #[0, 1, 2, 3, 4])) && (tabOf led (insN k l)).fits 5
   else !(putTab led k l).tooFull && (putTab led k l == tabOf led (insN k l))) && subs6.contains (insN k l) && ((insN k l).length == l.length + 1)
theorem okPut_all : ∀ led ∈ [true, false], ∀ l ∈ subs6, ∀ k ∈ [0, 1, 2, 3, 4, 5], k ∉ l → okPut led l k = true := by decide +kernel
def slotAt (l : List Nat) : Nat → Nat
  | 0 => 0
  | i + 1 => l.getD i 0 + 1
def okWalk (led : Bool) (l : List Nat) : Bool := (tabOf led l).fits l.length && (List.range l.length).all (fun i => SetTable.below (tabOf led l).place (slotAt l i) == i) && SetTable.below (tabOf led l).place (slotAt l l.length) == l.length
theorem okWalk_all : ∀ led ∈ [true, false], ∀ l ∈ subs6, okWalk led l = true := by decide +kernel
theorem led_mem (b : Bool) : b ∈ [true, false] := by cases b <;> decide
theorem subs6_lt : ∀ l ∈ subs6, ∀ k ∈ l, k < 6 := by decide +kernel
theorem subs6_rise : ∀ l ∈ subs6, l.Pairwise (· < ·) := by decide +kernel
theorem subs6_len : ∀ l ∈ subs6, l.length ≤ 6 := by decide +kernel
theorem mem_insN {k x : Nat} {l : List Nat} : x ∈ insN k l ↔ x = k ∨ x ∈ l := by
  unfold insN
  have : x ∈ l ↔ x ∈ l.takeWhile (· < k) ∨ x ∈ l.dropWhile (· < k) := by rw [← List.mem_append, List.takeWhile_append_dropWhile]
  rw [this]; simp; constructor <;> rintro (h | h | h) <;> simp [h]
theorem hash_small : ∀ k < 6, hashInt (k : Nat) = (k : Int) := by decide +kernel

theorem ElI.length : ∀ {es : List (Int × Value)} {l : List Nat}, ElI es l → es.length = l.length
  | _, _, .nil => rfl
  | _, _, .cons _ _ h => by simp [ElI.length h]
theorem ElI.take : ∀ {es : List (Int × Value)} {l : List Nat}, ElI es l → ∀ p, ElI (es.take p) (l.take p)
  | _, _, .nil, p => by simp; exact .nil
  | _, _, .cons k t h, 0 => .nil
  | _, _, .cons k t h, p + 1 => .cons k t (ElI.take h p)
theorem ElI.drop : ∀ {es : List (Int × Value)} {l : List Nat}, ElI es l → ∀ p, ElI (es.drop p) (l.drop p)
  | _, _, .nil, p => by simp; exact .nil
  | _, _, .cons k t h, 0 => .cons k t h
  | _, _, .cons k t h, p + 1 => ElI.drop h p
theorem ElI.append : ∀ {es : List (Int × Value)} {l : List Nat}, ElI es l → ∀ {fs : List (Int × Value)} {m : List Nat}, ElI fs m → ElI (es ++ fs) (l ++ m)
  | _, _, .nil, _, _, h => h
  | _, _, .cons k t h, _, _, h' => .cons k t (ElI.append h h')
theorem tw_take (k : Nat) : ∀ l : List Nat, l.take (l.takeWhile (· < k)).length = l.takeWhile (· < k)
  | [] => rfl
  | x :: l => by
    rw [List.takeWhile_cons]
    split
    · simp only [List.length_cons, List.take_succ_cons, tw_take k l]
    · rfl
theorem dw_drop (k : Nat) : ∀ l : List Nat, l.drop (l.takeWhile (· < k)).length = l.dropWhile (· < k)
  | [] => rfl
  | x :: l => by
    rw [List.takeWhile_cons, List.dropWhile_cons]
    split
    · simp only [List.length_cons, List.drop_succ_cons, dw_drop k l]
    · rfl
theorem ElI.ins {es : Array (Int × Value)} {l : List Nat} (h : ElI es.toList l) (k : Nat) (t : Tok) : ElI (SetTable.insertAt es (l.takeWhile (· < k)).length ((k : Int), .int (k : Int) t)).toList (insN k l) := by
  have e : (SetTable.insertAt es (l.takeWhile (· < k)).length ((k : Int), Value.int (k : Int) t)).toList = es.toList.take (l.takeWhile (· < k)).length ++ ((k : Int), .int (k : Int) t) :: es.toList.drop (l.takeWhile (· < k)).length := by
    unfold SetTable.insertAt
    simp
    rw [List.take_of_length_le (by simp)]
  rw [e]
  unfold insN
  rw [← tw_take k l, ← dw_drop k l]
  have := (h.take (l.takeWhile (· < k)).length).append (.cons k t (h.drop (l.takeWhile (· < k)).length))
  rwa [tw_take k l] at this ⊢
theorem ElI.mem : ∀ {es : List (Int × Value)} {l : List Nat}, ElI es l → ∀ e ∈ es, ∃ k ∈ l, ∃ t, e = ((k : Int), .int (k : Int) t)
  | _, _, .cons k t h, e, he => by
    rcases List.mem_cons.mp he with rfl | he
    · exact ⟨k, List.mem_cons_self .., t, rfl⟩
    · obtain ⟨k', hk, t', e'⟩ := ElI.mem h e he
      exact ⟨k', .tail _ hk, t', e'⟩
theorem ElI.find (prog : Program) (w : World) : ∀ {es : List (Int × Value)} {l : List Nat}, ElI es l → ∀ k : Nat, (es.findIdx? (fun e => (intKind prog w).is (k : Int) e.2)).isSome = decide (k ∈ l)
  | _, _, .nil, k => by simp
  | _, _, .cons k' t (es := es) h, k => by
    rw [List.findIdx?_cons]
    have e : (intKind prog w).is (k : Int) (Value.int (k' : Int) t) = decide (k = k') := by
      show Value.isInt (k : Int) (.int (k' : Int) t) = _
      unfold Value.isInt
      by_cases hk : k = k'
      · subst hk; simp
      · have : ¬ ((k : Int) = (k' : Int)) := by omega
        have : ¬ ((k' : Int) = (k : Int)) := by omega
        simp [*]
    rw [e]
    by_cases hk : k = k'
    · subst hk; simp
    · have ih := ElI.find prog w h k
      rw [decide_eq_false hk]
      simp [ih, hk]
theorem ElI.elems (prog : Program) (w : World) {es : List (Int × Value)} {l : List Nat} (h : ElI es l) (hl : ∀ k ∈ l, k < 6) : ElemsOf (intKind prog w) es := fun e he => by
  obtain ⟨k, hk, t, rfl⟩ := h.mem e he
  exact ⟨⟨(k : Int), intKind_is _ _ _ _, (hash_small k (hl k hk)).symm⟩, rfl⟩

section
variable {prog : Program} {w : World} {A : Around} {E : Value → Shared → Prop} {s : Shared}

theorem iset_fits {led : Bool} {l : List Nat} (hl : l ∈ subs6) : (tabOf led l).fits l.length = true := by
  have := okWalk_all led (led_mem led) l hl
  unfold okWalk at this
  simp only [Bool.and_eq_true] at this
  exact this.1.1

theorem setAdd_iset {a : Addr} {o : Obj} {l : List Nat} {k : Nat} {tk : Tok} {Q : Bool → Shared → Prop} (ho : s.heap.get? a = some o) (hI : ISet w o l) (hl : l ∈ subs6) (hk : k ∈ [0, 1, 2, 3, 4, 5])
    (h : ∀ b h' t' o', h'.get? a = some o' → ISet w o' (if k ∈ l then l else insN k l) → Heap.SameBut a s.heap h' → Q b { s with heap := h', toks := t' }) : wpAny (model prog w) A (setAdd a (.int (k : Int) tk)) Q E s := by
  have hk6 : k < 6 := by simp at hk; omega
  unfold setAdd
  refine wpAny_holding (wpAny_bind ((intKind prog w).pyHash (k := (k : Int)) (intKind_is _ _ _ _) ?_))
  obtain ⟨hex, es, ep, hd, hE⟩ := hI
  have hlen : es.size = l.length := by rw [← Array.length_toList, hE.length]
  have hf : (tabOf (!w.params.followText "set-order") l).fits es.size = true := by rw [hlen]; exact iset_fits hl
  generalize hled : (!w.params.followText "set-order") = led at hd hf
  have hel := hE.elems prog w (subs6_lt l hl)
  have hb : es.size < scanBound := by have := subs6_len l hl; show es.size < 4096; omega
  unfold setAddHashed setAddHashedIn
  refine wpAny_holding (wpAny_bind (wpAny_setState_of (s := { s with toks := s.toks + 1 }) ho hd hf ?_))
  dsimp only
  rw [byScan_of (knd := intKind prog w) rfl hb hel]
  simp only [↓reduceIte]
  unfold setAddByScan
  refine wpAny_bind ?_
  refine wpAny_bind (wpAny_rule ?_)
  refine wpAny_bind (wpAny_setScan_of (knd := intKind prog w) (intKind_is _ _ _ _) ho hd hf hel ?_)
  have hfind := hE.find prog w k
  cases hr : List.findIdx? (fun e => (intKind prog w).is (k : Int) e.2) es.toList with
  | some j =>
    rw [hr] at hfind
    have hm : k ∈ l := by simpa using hfind.symm
    dsimp only
    refine wpAny_pure (wpAny_pure ?_)
    exact h _ s.heap _ o ho (by rw [if_pos hm]; exact ⟨hex, es, ep, hled ▸ hd, hE⟩) (Heap.SameBut.refl a s.heap)
  | none =>
    rw [hr] at hfind
    have hm : k ∉ l := by simpa using hfind.symm
    have hok := okPut_all led (led_mem led) l hl k hk hm
    unfold okPut at hok
    simp only [Bool.and_eq_true, beq_iff_eq] at hok
    obtain ⟨⟨⟨⟨⟨p1, p2⟩, p3⟩, p4⟩, p5⟩, p6⟩ := hok
    dsimp only
    have hash : (intKind prog w).hash (k : Int) = (k : Int) := hash_small k hk6
    have hsz1 : (SetTable.insertAt es (l.takeWhile (· < k)).length ((k : Int), Value.int (k : Int) tk)).size = l.length + 1 := by
      rw [← Array.length_toList, (hE.ins k tk).length, p6]
    have hlay : layNew (tabOf led l) es ((intKind prog w).hash (k : Int)) (.int (k : Int) tk) = (SetTable.insertAt es (l.takeWhile (· < k)).length ((k : Int), .int (k : Int) tk), putTab led k l, false, false) := by
      rw [hash]
      unfold layNew
      rw [p1]
      dsimp only
      rw [p2]
      dsimp only
      rw [hsz1]
      unfold SetTable.orStandIn
      rw [if_pos p3, p3]; rfl
    rw [hlay]
    dsimp only
    refine wpAny_bind (m := (pure () : Sem Unit)) (wpAny_pure ?_)
    have hpl : (putTab led k l).plain = true := rfl
    rw [hpl]
    simp only [↓reduceIte]
    rw [hashByValue_scannable 8 rfl]
    refine wpAny_bind (wpAny_pure ?_)
    simp only [plainKind, ↓reduceIte]
    refine wpAny_bind (wpAny_storeSet_of (s := { s with toks := s.toks + 1 }) ho hd ?_ (by rw [hsz1, sizeLine_eq]; have := subs6_len l hl; omega))
    have hsl : l.length + 1 < scanBound := by have := subs6_len l hl; show l.length + 1 < 4096; omega
    have hg1 : (s.heap.update a (Obj.putSet (SetTable.insertAt es (l.takeWhile (· < k)).length ((k : Int), Value.int (k : Int) tk)) (putTab led k l))).get? a = some { o with data := .set (SetTable.insertAt es (l.takeWhile (· < k)).length ((k : Int), Value.int (k : Int) tk)) (ep + 1) (putTab led k l) } := by
      have := Heap.get?_update_self (Obj.putSet (SetTable.insertAt es (l.takeWhile (· < k)).length ((k : Int), Value.int (k : Int) tk)) (putTab led k l)) ho (by rw [putSet_of _ _ hd]; rfl)
      rw [putSet_of _ _ hd] at this; exact this
    have hsb1 := Heap.SameBut.update s.heap a (Obj.putSet (SetTable.insertAt es (l.takeWhile (· < k)).length ((k : Int), Value.int (k : Int) tk)) (putTab led k l))
    by_cases h5 : l.length + 1 = 5
    · rw [if_pos h5] at p4
      simp only [Bool.and_eq_true, beq_iff_eq] at p4
      obtain ⟨⟨q1, q2⟩, q3⟩ := p4
      rw [q1]
      simp only [Bool.not_false, Bool.and_self, ↓reduceIte]
      have hrel : relayAll (putTab led k l) (SetTable.insertAt es (l.takeWhile (· < k)).length ((k : Int), .int (k : Int) tk)) (SetTable.grown (SetTable.insertAt es (l.takeWhile (· < k)).length ((k : Int), Value.int (k : Int) tk)).size) = (SetTable.insertAt es (l.takeWhile (· < k)).length ((k : Int), .int (k : Int) tk), tabOf led (insN k l), false) := by
        have hE' := hE.ins k tk
        generalize hX : SetTable.insertAt es (l.takeWhile (· < k)).length ((k : Int), Value.int (k : Int) tk) = X at hE' hsz1
        have hm : X.map (·.1) = ((insN k l).map (fun n : Nat => (n : Int))).toArray := by
          have : ∀ {es : List (Int × Value)} {l : List Nat}, ElI es l → es.map (·.1) = l.map (fun n : Nat => (n : Int)) := by
            intro es l h
            induction h with
            | nil => rfl
            | cons k t h ih => simp [ih]
          apply Array.toList_inj.mp
          rw [Array.toList_map, this hE']
        unfold relayAll
        rw [hm, hsz1, h5, q2]
        dsimp only
        have hx5 : X.size = 5 := by rw [hsz1, h5]
        have hX' : (#[0, 1, 2, 3, 4] : Array Nat).filterMap (X[·]?) = X := by
          obtain ⟨L⟩ := X
          simp at hx5
          match L, hx5 with
          | [x0, x1, x2, x3, x4], _ => rfl
        rw [hX', hx5, q3, show coversAll #[0, 1, 2, 3, 4] 5 = true from by decide]
        rfl
      rw [hrel]
      dsimp only
      refine wpAny_bind (wpAny_bind (m := (pure () : Sem Unit)) (wpAny_pure (wpAny_pure ?_)))
      refine wpAny_bind (wpAny_storeSet_of (s := { s with heap := s.heap.update a (Obj.putSet (SetTable.insertAt es (l.takeWhile (· < k)).length ((k : Int), Value.int (k : Int) tk)) (putTab led k l)), toks := s.toks + 1 }) hg1 rfl ?_ (by rw [hsz1, sizeLine_eq]; have := subs6_len l hl; omega))
      refine wpAny_pure (wpAny_pure ?_)
      have hg2 := Heap.get?_update_self (Obj.putSet (SetTable.insertAt es (l.takeWhile (· < k)).length ((k : Int), Value.int (k : Int) tk)) (tabOf led (insN k l))) hg1 (by rw [putSet_of _ _ rfl]; rfl)
      rw [putSet_of _ _ rfl] at hg2
      exact h _ _ _ _ hg2 (by rw [if_neg hm]; exact ⟨hex, _, ep + 1 + 1, hled ▸ rfl, hE.ins k tk⟩) (hsb1.trans (Heap.SameBut.update _ a _))
    · rw [if_neg h5] at p4
      simp only [Bool.and_eq_true, Bool.not_eq_true', beq_iff_eq] at p4
      obtain ⟨q1, q2⟩ := p4
      rw [q1]
      simp only [Bool.not_false, Bool.and_false, Bool.false_eq_true, ↓reduceIte]
      refine wpAny_pure (wpAny_pure ?_)
      rw [q2] at hg1 hsb1 ⊢
      exact h _ _ _ _ hg1 (by rw [if_neg hm]; exact ⟨hex, _, ep + 1, hled ▸ rfl, hE.ins k tk⟩) hsb1
end
end Mine
end
section
open PySem PySem.W PyProof.Rows PySem.SeqAt PySem.Spec
namespace Mine

def setOf (ks : List Nat) : List Nat := ks.foldl (fun l k => if k ∈ l then l else insN k l) []
def small6 (ks : List Nat) : Prop := ∀ k ∈ ks, k ∈ [0, 1, 2, 3, 4, 5]
theorem insN_subs {l : List Nat} {k : Nat} (hl : l ∈ subs6) (hk : k ∈ [0, 1, 2, 3, 4, 5]) : (if k ∈ l then l else insN k l) ∈ subs6 := by
  split
  · exact hl
  · rename_i hm
    have hok := okPut_all true (led_mem true) l hl k hk hm
    unfold okPut at hok
    simp only [Bool.and_eq_true, beq_iff_eq] at hok
    simpa using hok.1.2
theorem foldl_subs : ∀ (ks : List Nat) (l : List Nat), small6 ks → l ∈ subs6 → ks.foldl (fun l k => if k ∈ l then l else insN k l) l ∈ subs6
  | [], l, _, hl => hl
  | k :: ks, l, h, hl => foldl_subs ks _ (fun x hx => h x (.tail _ hx)) (insN_subs hl (h k (List.mem_cons_self ..)))
theorem setOf_subs {ks : List Nat} (h : small6 ks) : setOf ks ∈ subs6 := foldl_subs ks [] h (by decide)
theorem mem_foldl : ∀ (ks : List Nat) (l : List Nat) (x : Nat), x ∈ ks.foldl (fun l k => if k ∈ l then l else insN k l) l ↔ x ∈ l ∨ x ∈ ks
  | [], l, x => by simp
  | k :: ks, l, x => by
    rw [List.foldl_cons, mem_foldl ks _ x]
    split
    · rename_i hm
      simp only [List.mem_cons]
      constructor
      · rintro (h | h) <;> simp [h]
      · rintro (h | rfl | h) <;> simp [*]
    · rw [mem_insN, List.mem_cons]
      constructor
      · rintro ((h | h) | h) <;> simp [h]
      · rintro (h | h | h) <;> simp [h]
theorem mem_setOf {ks : List Nat} {x : Nat} : x ∈ setOf ks ↔ x ∈ ks := by unfold setOf; rw [mem_foldl]; simp

section
variable {prog : Program} {w : World} {A : Around} {R : Result → Shared → Prop} {E : Value → Shared → Prop}

theorem set_update_loop {I : Addr} {fp : List Addr} {n : Nat} {P : Nat → Value → Prop} {Sx : Nat → Heap → Prop} (W : Walks prog w A.in1 I fp [I] n P Sx) (S : Addr) (hSf : S ∉ fp)
    (ks : List Nat) (hks : small6 ks) (hn : ks.length = n) (hval : ∀ i v, P i v → ∀ k, ks[i]? = some k → ∃ t, v = .int (k : Int) t) :
    ∀ (d i : Nat) (s : Shared) (l : List Nat) (o : Obj), n - i = d → i ≤ n → Sx i s.heap → s.heap.get? S = some o → ISet w o l → l ∈ subs6 →
      (∀ h' t' o', (∀ b x, b ≠ S → b ≠ I → s.heap.get? b = some x → h'.get? b = some x) → h'.get? S = some o' → ISet w o' ((ks.drop i).foldl (fun l k => if k ∈ l then l else insN k l) l) → R (.ok (.ret .none)) { s with heap := h', toks := t' }) →
      codeAny (model prog w) A (.builtin "set.update.loop" ⟨[.ref S, .ref I], []⟩) R s := by
  have hSI : S ≠ I := fun h => hSf (h ▸ W.sub I (List.mem_singleton.mpr rfl))
  intro d
  induction d with
  | zero =>
    intro i s l o hd hi hst ho hI hl hR
    have hin : i = n := by omega
    subst hin
    refine codeAny_builtin F.entry_set_update_loop ?_
    rw [Around.under_plainId F.plain_set_update_loop _]
    show wpAny _ A.in1 (pyNext (.ref I) >>= _) _ _ s
    refine wpAny_bind (W.done s _ _ hst fun h' t' hk => ?_)
    show wpAny _ A.in1 (ret Value.none) _ _ _
    refine wpAny_pure (hR h' t' o (fun b x _ hb e => hk b x (by simpa using hb) e) (hk S o (by simpa using hSI) ho) ?_)
    rw [List.drop_of_length_le (Nat.le_of_eq hn)]
    exact hI
  | succ d ih =>
    intro i s l o hd hi hst ho hI hl hR
    have hlt : i < n := by omega
    have hki : ks[i]? = some (ks[i]'(by omega)) := List.getElem?_eq_getElem _
    generalize hk : ks[i]'(by omega) = k at hki
    have hk6 : k ∈ [0, 1, 2, 3, 4, 5] := hks k (hk ▸ List.getElem_mem _)
    refine codeAny_builtin F.entry_set_update_loop ?_
    rw [Around.under_plainId F.plain_set_update_loop _]
    show wpAny _ A.in1 (pyNext (.ref I) >>= _) _ _ s
    refine wpAny_bind (W.item i s _ _ hlt hst fun v h' t' hP hst' hk' => ?_)
    obtain ⟨t, rfl⟩ := hval i v hP k hki
    have ho' : h'.get? S = some o := hk' S o (by simpa using hSI) ho
    show wpAny _ A.in1 (holding [Value.int (k : Int) t] (setAdd S (.int (k : Int) t)) >>= _) _ _ _
    refine wpAny_bind (wpAny_holding (setAdd_iset (s := { s with heap := h', toks := t' }) ho' hI hl hk6 fun b h2 t2 o2 ho2 hI2 hsb => ?_))
    refine wpAny_pure ⟨plainId_quiet F.plain_set_update_loop _, ih (i + 1) _ _ o2 (by omega) hlt (W.frame _ _ _ hst' fun b hb x e => (hsb.2 b (fun q => hSf (q ▸ hb))).trans e) ho2 hI2 (insN_subs hl hk6) fun h3 t3 o3 hk3 ho3 hI3 => ?_⟩
    refine hR h3 t3 o3 (fun b x h1 h2' e => hk3 b x h1 h2' ((hsb.2 b h1).trans (hk' b x (by simpa using h2') e))) ho3 ?_
    have hdr : ks.drop i = k :: ks.drop (i + 1) := by rw [← hk]; exact List.drop_eq_getElem_cons (by omega)
    rw [hdr, List.foldl_cons]
    exact hI3

theorem set_new_led {s : Shared} (a : Value) {Q₁ : Value → Shared → Prop}
    (h : Q₁ (.ref s.heap.objs.size) { s with heap := s.heap.push { cls := .type "set", dict := none, data := .set #[] 0 (.fresh 0 0 (!w.params.followText "set-order")) } }) :
    codeAny (model prog w) A (.call (.builtin "set.__new__") ⟨[.type "set", a], []⟩) (wants Q₁ E) s := by
  refine codeAny_of_tree ?_
  show wpAny _ A.in1 (do checkBuiltinCall "set.__new__" ⟨[.type "set", a], []⟩; again (.builtin "set.__new__" ⟨[.type "set", a], []⟩)) _ _ s
  refine wpAny_bind (wpAny_of_eq (PySem.F.newCall_set_1 a) (wpAny_pure ⟨plainId_quiet PySem.F.plain_set_new _, codeAny_builtin PySem.F.entry_set_new ?_⟩))
  rw [Around.under_plainId PySem.F.plain_set_new _]
  unfold Builtin.«set.__new__» Builtin.Frozenset.newClass
  have hsub := sub_set_self
  obtain ⟨hp, g, d, tk, os⟩ := s
  dsimp only
  wp_walk
  refine wpAny_askSetting (wpAny_pure ?_)
  dsimp only
  simp only [newObj]
  refine wpAny_bind (wpAny_alloc (wpAny_pure ?_))
  exact wpAny_pure h

set_option maxHeartbeats 3200000 in
theorem call_set_small {s : Shared} {l : Addr} {items : Array Value} {ks : List Nat} {Q : Value → Shared → Prop} (hh : A.handled = none) (hl : s.heap.IsList l items) (hlen : ks.length = items.size) (hks : small6 ks)
    (hi : ∀ (i : Nat) (v : Value), items[i]? = some v → ∀ k : Nat, ks[i]? = some k → ∃ t, v = Value.int (k : Int) t)
    (h : ∀ h' t' o', h'.get? s.heap.objs.size = some o' → ISet w o' (setOf ks) → (∀ b o, s.heap.get? b = some o → h'.get? b = some o) → Q (.ref s.heap.objs.size) { s with heap := h', toks := t' }) :
    wpAny (model prog w) A (call (.type "set") [.ref l]) Q E s := by
  obtain ⟨c, tl, hmro⟩ := PySem.F.called_set.mro
  have hmade := PySem.F.called_set.made
  have hsub := PySem.F.called_set.sub
  refine wpAny_call (codeAny_of_tree ?_)
  show wpAny _ _ (callAny (.type "set") _) _ _ _
  refine wpAny_pure ⟨Code.quiet_builtin _ (by decide +kernel), codeAny_builtin PySem.F.entry_type_call ?_⟩
  rw [Around.under_plain (weight_type_call_type "set" [.ref l] []) rfl]
  have h1 := PySem.F.called_set.notType
  have h2 := PySem.F.called_set.canCreate
  have hct := PySem.F.typeCall_set_1 (.ref l)
  repeat (any_goals (first | assumption | wp_step))
  generalize hled : (!w.params.followText "set-order") = led
  refine codeAny_mono (set_new_led (.ref l) (E := E) (Q₁ := fun obj s₁ => obj = .ref s.heap.objs.size ∧ s₁ = { s with heap := s.heap.push { cls := .type "set", dict := none, data := .set #[] 0 (.fresh 0 0 led) } }) ⟨rfl, by rw [hled]⟩) fun r s₁ hr => ?_
  cases r with
  | error e => exact hr
  | ok fl =>
    cases fl with
    | ret obj =>
      obtain ⟨rfl, rfl⟩ := hr
      have hS : (s.heap.push { cls := .type "set", dict := none, data := .set #[] 0 (.fresh 0 0 led) }).get? s.heap.objs.size = some { cls := .type "set", dict := none, data := .set #[] 0 (.fresh 0 0 led) } := Heap.get?_push_size _ rfl
      have hT : Shared.TypeIs { s with heap := s.heap.push { cls := .type "set", dict := none, data := .set #[] 0 (.fresh 0 0 led) } } (.ref s.heap.objs.size) "set" := ⟨_, hS, rfl⟩
      have hli := PySem.F.called_set.init.lookup
      have hbi := PySem.F.called_set.init.bind (.ref s.heap.objs.size)
      repeat (any_goals (first | assumption | wp_step))
      refine codeAny_mono (codeAny_call_builtin (R := wants (fun r s₂ => r = .none ∧ ∃ h' tk o', s₂ = { s with heap := h', toks := tk } ∧
          h'.get? s.heap.objs.size = some o' ∧ ISet w o' (setOf ks) ∧ (∀ b o, s.heap.get? b = some o → h'.get? b = some o)) E) PySem.F.called_set.init.plain PySem.F.entry_set_init (check_set_init_1 hT ?_)) fun r₂ s₂ hr₂ => ?_
      · obtain ⟨ol, hol, hcl, nl, hdl⟩ := hl
        obtain ⟨ocls, odict, odata, oslots⟩ := ol
        simp only at hcl hdl
        subst hcl; subst hdl
        have hol' : (s.heap.push { cls := .type "set", dict := none, data := .set #[] 0 (.fresh 0 0 led) }).get? l = some { cls := .type "list", dict := odict, data := .seq items nl, slots := oslots } := Heap.get?_push_of_some _ hol
        have hsls := PySem.F.sub_list_set
        have hslf := PySem.F.sub_list_frozenset
        have hne : (Value.type "list" == Value.type "dict") = false := by decide
        have hl1 : (s.heap.push { cls := .type "set", dict := none, data := .set #[] 0 (.fresh 0 0 led) }).IsList l items := ⟨_, hol', rfl, nl, rfl⟩
        unfold Builtin.«set.__init__» noKeywords Builtin.Frozenset.updateFrom
        generalize hPI : pyIter = PI
        wp_walk
        subst hPI
        refine wpAny_pyIter_list hl1 ?_
        refine wpAny_bind (wpAny_runValue ?_)
        have hlS : l < s.heap.objs.size := Heap.lt_size hol
        have hh3 : A.in1.in1.in1.handled = none := by simp [hh]
        generalize hB : s.heap.push { cls := .type "set", dict := none, data := .set #[] 0 (.fresh 0 0 led) } = B at hS hol' hl1 ⊢
        have hBs : B.objs.size = s.heap.objs.size + 1 := by rw [← hB, Heap.size_push]
        have hBk : ∀ b o, s.heap.get? b = some o → B.get? b = some o := fun b o e => hB ▸ Heap.get?_push_of_some _ e
        have hneI : l ≠ B.objs.size := by rw [hBs]; exact Nat.ne_of_lt (Nat.lt_succ_of_lt hlS)
        have hSf : s.heap.objs.size ∉ [B.objs.size, l] := by
          rw [hBs]; simp only [List.mem_cons, List.mem_singleton, List.not_mem_nil, or_false, not_or]
          exact ⟨Nat.ne_of_lt (Nat.lt_succ_self _), Nat.ne_of_gt hlS⟩
        have hI0 : ISet w { cls := .type "set", dict := none, data := .set #[] 0 (.fresh 0 0 led) } [] := ⟨⟨rfl, rfl, rfl⟩, #[], 0, by rw [hled]; rfl, .nil⟩
        refine set_update_loop (Walks.list hh3 _ l hneI items) s.heap.objs.size hSf ks hks hlen (fun i v hP k hk => hi i v hP k hk) (items.size - 0) 0 _ [] _ (by omega) (Nat.zero_le _)
          ⟨⟨_, Heap.get?_push_size _ rfl, rfl, rfl⟩, (hl1.push _)⟩ (Heap.get?_push_of_some _ hS) hI0 (by decide) fun h' t' o' hk ho hI => ?_
        show wpAny _ _ _ _ _ _
        refine wpAny_pure ?_
        show wpAny _ _ (ret Value.none) _ _ _
        refine wpAny_pure ⟨rfl, h', t', o', rfl, ho, hI, fun b o e => ?_⟩
        have hb := Heap.lt_size e
        exact hk b o (Nat.ne_of_lt hb) (by rw [hBs]; exact Nat.ne_of_lt (Nat.lt_succ_of_lt hb)) (Heap.get?_push_of_some _ (hBk b o e))
      · cases r₂ with
        | error e => exact hr₂
        | ok fl₂ =>
          cases fl₂ with
          | ret r =>
            obtain ⟨rfl, h', tk, o', rfl, hS', hI', hk'⟩ := hr₂
            repeat (any_goals (first | assumption | wp_step))
            exact h _ _ _ hS' hI' hk'
          | _ => exact hr₂.elim
    | _ => exact hr.elim
end
end Mine
end
section
open PySem PySem.W PyProof.Rows PySem.SeqAt PySem.Spec
namespace Mine

theorem entry_setIter : entryFor table "set.__iter__" = some Builtin.«frozenset.__iter__» :=
  entryFor_alias (id' := "frozenset.__iter__") (by kernel_rfl) (by first | rfl | decide +kernel | (unfold String.splitOn; simp +decide [String.splitOnAux])) (by decide +kernel) (by kernel_rfl)
theorem slot_setitNext : Slot "set_iterator" "__next__" "set_iterator.__next__" :=
  .of (owner := "set_iterator") (n := "__next__") (by rw [typeLookup_type, builtinLookup_eq_fast]; kernel_rfl) (by decide +kernel) (by decide +kernel) (by decide +kernel)
    (by first | exact .inl (by decide +kernel) | exact .inr (by decide +kernel)) (by rw [isSubtype_type]; kernel_rfl)
theorem entry_setitNext : entryFor table "set_iterator.__next__" = some Builtin.«set_iterator.__next__» := entryFor_of_tree (by kernel_rfl)
theorem args_setitNext (a : Value) : argsOk "set_iterator.__next__" ⟨[a], []⟩ := by unfold argsOk; kernel_rfl
theorem slot_setitIter : Slot "set_iterator" "__iter__" "set_iterator.__iter__" :=
  .of (owner := "set_iterator") (n := "__iter__") (by rw [typeLookup_type, builtinLookup_eq_fast]; kernel_rfl) (by decide +kernel) (by decide +kernel) (by decide +kernel)
    (by first | exact .inl (by decide +kernel) | exact .inr (by decide +kernel)) (by rw [isSubtype_type]; kernel_rfl)
theorem entry_setitIter : entryFor table "set_iterator.__iter__" = some Builtin.«dict_keyiterator.__iter__» :=
  entryFor_alias (id' := "dict_keyiterator.__iter__") (by kernel_rfl) (by first | rfl | decide +kernel | (unfold String.splitOn; simp +decide [String.splitOnAux])) (by decide +kernel) (by kernel_rfl)
theorem args_setitIter (a : Value) : argsOk "set_iterator.__iter__" ⟨[a], []⟩ := by unfold argsOk; kernel_rfl

/-- the order in which a set is walked -/
def walkOrd (w : World) (S : Addr) (ep : Nat) (es : Array (Int × Value)) : Array (Int × Value) := if w.params.followText "set-order" then pickOrder (w.params.setOrder S ep) es else es
theorem pick_go_perm {α : Type} (next : Nat → Nat) : ∀ (fuel k : Nat) (left : List α) (out : Array α), left.length ≤ fuel → (pickOrder.go next fuel k left out).toList.Perm (out.toList ++ left)
  | 0, k, left, out, h => by
    have : left = [] := List.eq_nil_of_length_eq_zero (by omega)
    subst this
    simp [pickOrder.go]
  | fuel + 1, k, left, out, h => by
    unfold pickOrder.go
    cases left with
    | nil => simp
    | cons x r =>
      have hlt : next k % (x :: r).length < (x :: r).length := Nat.mod_lt _ (by simp)
      rw [List.getElem?_eq_getElem hlt]
      dsimp only
      refine (pick_go_perm next fuel (k + 1) _ _ ?_).trans ?_
      · rw [List.length_eraseIdx]; split <;> simp at h ⊢ <;> omega
      · rw [Array.toList_push, List.append_assoc]
        refine List.Perm.append_left _ ?_
        rw [List.singleton_append]
        generalize next k % (x :: r).length = j at hlt
        rw [List.eraseIdx_eq_take_drop_succ]
        refine (List.perm_middle.symm).trans (List.Perm.of_eq ?_)
        rw [← List.drop_eq_getElem_cons hlt, List.take_append_drop]
theorem walkOrd_perm (w : World) (S : Addr) (ep : Nat) (es : Array (Int × Value)) : (walkOrd w S ep es).toList.Perm es.toList := by
  unfold walkOrd
  split
  · have := pick_go_perm (w.params.setOrder S ep) es.size 0 es.toList #[] (by simp)
    simpa [pickOrder] using this
  · exact .refl _

def setItObj (w : World) (S : Addr) (ep : Nat) (l : List Nat) (i : Nat) : Obj := { cls := .type "set_iterator", data := .fields #[rawInt (if w.params.followText "set-order" then 0 else (slotAt l i : Nat)), rawInt (i : Nat), .ref S, rawInt (l.length : Nat), rawInt (ep : Nat)] }

section
variable {prog : Program} {w : World} {A : Around} {E : Value → Shared → Prop} {s : Shared}

structure SetHere (w : World) (h : Heap) (S : Addr) (es : Array (Int × Value)) (ep : Nat) (l : List Nat) : Prop where
  at_ : h.get? S = some { cls := .type "set", dict := none, data := .set es ep (tabOf (!w.params.followText "set-order") l), slots := #[] }
  el : ElI es.toList l
  sub : l ∈ subs6
theorem SetHere.fits {S : Addr} {es : Array (Int × Value)} {ep : Nat} {l : List Nat} {h : Heap} (H : SetHere w h S es ep l) : (tabOf (!w.params.followText "set-order") l).fits es.size = true := by
  rw [← Array.length_toList, H.el.length]; exact iset_fits H.sub
theorem SetHere.size {S : Addr} {es : Array (Int × Value)} {ep : Nat} {l : List Nat} {h : Heap} (H : SetHere w h S es ep l) : es.size = l.length := by rw [← Array.length_toList, H.el.length]

theorem iter_set {S : Addr} {es : Array (Int × Value)} {ep : Nat} {l : List Nat} {Q : Value → Shared → Prop} (H : SetHere w s.heap S es ep l)
    (hQ : Q (.ref s.heap.objs.size) { s with heap := s.heap.push (setItObj w S ep l 0) }) : wpAny (model prog w) A (pyIter (.ref S)) Q E s := by
  have hT : s.TypeIs (.ref S) "set" := ⟨_, H.at_, rfl⟩
  refine wpAny_pyIter_slot hT PySem.F.slot_set_iter (wpAny_call_entry PySem.F.slot_set_iter hT entry_setIter ?_ (PySem.F.args_set_iter_1 _))
  have hf := H.fits
  have hs := H.size
  show wpAny _ _ (Builtin.Frozenset.sizeOf S >>= fun n => _) _ _ s
  refine wpAny_bind ?_
  unfold Builtin.Frozenset.sizeOf setEntries
  refine wpAny_bind (wpAny_bind (wpAny_setState_of H.at_ rfl hf (wpAny_pure (wpAny_pure ?_))))
  refine wpAny_bind ?_
  unfold setDrawn
  refine wpAny_bind (wpAny_setState_of H.at_ rfl hf ?_)
  unfold setsByText
  refine wpAny_bind (wpAny_bind (wpAny_askSetting (wpAny_pure (wpAny_pure ?_))))
  have hd : (tabOf (!w.params.followText "set-order") l).plain = true := rfl
  show wpAny _ _ (if (!(w.params.followText "set-order") && (!true && decide (es.size > 1))) = true then _ else _) _ _ _
  rw [if_neg (by simp)]
  refine wpAny_bind (wpAny_pure ?_)
  dsimp only
  unfold setEpoch
  refine wpAny_bind (wpAny_bind (wpAny_setState_of H.at_ rfl hf (wpAny_pure ?_)))
  unfold newFields
  refine wpAny_bind (wpAny_newObj_type (wpAny_pure ⟨_, rfl, "set_iterator", _, ⟨_, Heap.get?_push_size _ rfl, rfl⟩, slot_setitNext.lookup, ?_⟩))
  have e : (Obj.mk (.type "set_iterator") none (.fields [rawInt 0, rawInt 0, .ref S, rawInt (es.size : Int), rawInt (ep : Int)].toArray) #[]) = setItObj w S ep l 0 := by
    unfold setItObj slotAt
    rw [hs]
    simp
  rw [← e] at hQ
  exact hQ
end
end Mine
end
section
open PySem PySem.W PyProof.Rows PySem.SeqAt PySem.Spec
namespace Mine
section
variable {prog : Program} {w : World} {A : Around} {E : Value → Shared → Prop} {s : Shared}

theorem walk_below {led : Bool} {l : List Nat} (hl : l ∈ subs6) {i : Nat} (hi : i ≤ l.length) : SetTable.below (tabOf led l).place (slotAt l i) = i := by
  have := okWalk_all led (led_mem led) l hl
  unfold okWalk at this
  simp only [Bool.and_eq_true, List.all_eq_true, beq_iff_eq] at this
  rcases Nat.lt_or_ge i l.length with h | h
  · exact this.1.2 i (List.mem_range.mpr h)
  · have : i = l.length := by omega
    subst this
    exact ‹_ ∧ _›.2

theorem setNext_run {S : Addr} {es : Array (Int × Value)} {ep : Nat} {l : List Nat} {i : Nat} {Q : Option (Value × Nat) → Shared → Prop} (H : SetHere w s.heap S es ep l) (hi : i ≤ l.length)
    (hQ : Q (((walkOrd w S ep es)[i]?).map fun e => (e.2, if w.params.followText "set-order" then 0 else slotAt l (i + 1))) s) :
    wpAny (model prog w) A (setNext S (if w.params.followText "set-order" then 0 else slotAt l i) i ep) Q E s := by
  have hf := H.fits
  have hs := H.size
  unfold setNext
  refine wpAny_bind (wpAny_setState_of H.at_ rfl hf ?_)
  unfold setsByText
  refine wpAny_bind (wpAny_bind (wpAny_askSetting (wpAny_pure ?_)))
  show wpAny (model prog w) A (if w.params.followText "set-order" = true then _ else _) Q E s
  unfold walkOrd at hQ
  cases hb : w.params.followText "set-order" with
  | true =>
    rw [hb] at hQ
    simp only [↓reduceIte, bne_self_eq_false, Bool.false_eq_true] at hQ ⊢
    refine wpAny_bind ?_
    unfold setWalk
    refine wpAny_bind (wpAny_setState_of H.at_ rfl hf ?_)
    unfold setsByText
    refine wpAny_bind (wpAny_bind (wpAny_askSetting (wpAny_pure ?_)))
    show wpAny (model prog w) A (if w.params.followText "set-order" = true then _ else _) _ E s
    rw [hb]
    simp only [↓reduceIte]
    refine wpAny_bind (wpAny_askSetting (wpAny_pure (wpAny_pure ?_)))
    exact hQ
  | false =>
    rw [hb] at hQ
    simp only [Bool.false_eq_true, ↓reduceIte] at hQ ⊢
    show wpAny _ _ (if (!true && decide (es.size > 1)) = true then _ else _) _ _ _
    rw [if_neg (by simp)]
    show wpAny _ _ ((if (!(!false) && !es.isEmpty) = true then unsupported _ else pure ()) >>= _) _ _ _
    rw [if_neg (by simp)]
    refine wpAny_bind (wpAny_pure ?_)
    refine wpAny_pure ?_
    have hbel := walk_below (led := !false) H.sub hi
    rw [hbel]
    cases he : es[i]? with
    | none => rw [he] at hQ; exact hQ
    | some e =>
      rw [he] at hQ
      have hlt : i < l.length := by rw [← hs]; exact (Array.getElem?_eq_some_iff.mp he).1
      have hp : (tabOf (!false) l).place[i]? = some (l.getD i 0) := by
        show l.toArray[i]? = _
        rw [List.getElem?_toArray, List.getD_eq_getElem?_getD, List.getElem?_eq_getElem hlt]; rfl
      rw [hp]
      exact hQ

theorem next_set_item {I S : Addr} {es : Array (Int × Value)} {ep : Nat} {l : List Nat} {i : Nat} {x : Int × Value} {Q : Option Value → Shared → Prop} (hI : s.heap.get? I = some (setItObj w S ep l i)) (H : SetHere w s.heap S es ep l) (hx : (walkOrd w S ep es)[i]? = some x)
    (hQ : ∀ h', h'.get? I = some (setItObj w S ep l (i + 1)) → Heap.SameBut I s.heap h' → Q (some x.2) { s with heap := h' }) : wpAny (model prog w) A (pyNext (.ref I)) Q E s := by
  have hT : s.TypeIs (.ref I) "set_iterator" := ⟨_, hI, rfl⟩
  have hf := H.fits
  have hs := H.size
  have hi : i < l.length := by
    have := (Array.getElem?_eq_some_iff.mp hx).1
    rw [← Array.length_toList, (walkOrd_perm w S ep es).length_eq, Array.length_toList, hs] at this; exact this
  unfold pyNext
  refine wpAny_bind (wpAny_attempt (wpAny_callSpecial?_slot (name := Str.ofString "__next__") hT slot_setitNext (wpAny_call_entry slot_setitNext hT entry_setitNext ?_ (args_setitNext _))))
  show wpAny _ _ (fieldsOf (.ref I) >>= _) _ _ s
  refine wpAny_bind (wpAny_fieldsOf hI rfl ?_)
  simp only [rawInt]
  refine wpAny_bind ?_
  unfold setEntries
  refine wpAny_bind (wpAny_setState_of H.at_ rfl hf (wpAny_pure ?_))
  rw [if_neg (by rw [hs]; simp)]
  have en : (if w.params.followText "set-order" = true then (0 : Int) else ((slotAt l i : Nat) : Int)).toNat = (if w.params.followText "set-order" = true then 0 else slotAt l i) := by split <;> simp
  rw [Int.toNat_natCast, Int.toNat_natCast, en]
  refine wpAny_bind (setNext_run H (Nat.le_of_lt hi) ?_)
  rw [hx]
  dsimp only [Option.map]
  have ho1 := Heap.get?_update_self (Obj.mapFields (·.setIfInBounds 0 (.int ((if w.params.followText "set-order" = true then 0 else slotAt l (i + 1) : Nat) : Int) 0))) hI (Obj.isFreed_of_fields (Obj.data_mapFields rfl _))
  refine wpAny_bind (wpAny_setField hI rfl (by simp) ?_)
  refine wpAny_bind (wpAny_setField ho1 (Obj.data_mapFields rfl _) (by simp) ?_)
  have ho2 := Heap.get?_update_self (Obj.mapFields (·.setIfInBounds 1 (.int ((i : Int) + 1) 0))) ho1 (Obj.isFreed_of_fields (Obj.data_mapFields (Obj.data_mapFields rfl _) _))
  refine wpAny_pure ⟨x.2, rfl, wpAny_pure (hQ _ (ho2.trans ?_) ((Heap.SameBut.update ..).trans (Heap.SameBut.update ..)))⟩
  unfold setItObj rawInt
  simp only [Obj.mapFields]
  cases hb : w.params.followText "set-order" <;> simp

theorem next_set_end {I S : Addr} {es : Array (Int × Value)} {ep : Nat} {l : List Nat} {Q : Option Value → Shared → Prop} (hh : A.handled = none) (hI : s.heap.get? I = some (setItObj w S ep l l.length)) (H : SetHere w s.heap S es ep l)
    (hQ : ∀ h', Heap.ExtBut I s.heap h' → Q none { s with heap := h' }) : wpAny (model prog w) A (pyNext (.ref I)) Q E s := by
  have hT : s.TypeIs (.ref I) "set_iterator" := ⟨_, hI, rfl⟩
  have hf := H.fits
  have hs := H.size
  unfold pyNext
  refine wpAny_bind (wpAny_attempt (wpAny_callSpecial?_slot (name := Str.ofString "__next__") hT slot_setitNext (wpAny_call_entry slot_setitNext hT entry_setitNext ?_ (args_setitNext _))))
  show wpAny _ _ (fieldsOf (.ref I) >>= _) _ _ s
  refine wpAny_bind (wpAny_fieldsOf hI rfl ?_)
  simp only [rawInt]
  refine wpAny_bind ?_
  unfold setEntries
  refine wpAny_bind (wpAny_setState_of H.at_ rfl hf (wpAny_pure ?_))
  rw [if_neg (by rw [hs]; simp)]
  have en : (if w.params.followText "set-order" = true then (0 : Int) else ((slotAt l l.length : Nat) : Int)).toNat = (if w.params.followText "set-order" = true then 0 else slotAt l l.length) := by split <;> simp
  rw [Int.toNat_natCast, Int.toNat_natCast, en]
  refine wpAny_bind (setNext_run H (Nat.le_refl _) ?_)
  have hx : (walkOrd w S ep es)[l.length]? = none := by
    rw [Array.getElem?_eq_none_iff, ← Array.length_toList, (walkOrd_perm w S ep es).length_eq, Array.length_toList, hs]; exact Nat.le_refl _
  rw [hx]
  dsimp only [Option.map]
  refine wpAny_bind (wpAny_setField hI rfl (by simp) ?_)
  show wpAny _ _ (newExc (.type "StopIteration") [] >>= _) _ _ _
  refine wpAny_bind ?_
  simp only [newExc, newTuple]
  refine wpAny_bind (wpAny_newObj_type ?_ (by size_fits))
  refine wpAny_bind (m := firstArgMember _ _) (wpAny_of_eq (a := Value.none) (by first | rfl | (simp only [firstArgMember]; rfl)) ?_)
  refine wpAny_newObj_type ?_ (by size_fits)
  simp only [raiseNew]
  refine wpAny_bind (wpAny_handled ?_)
  first | rw [show A.in1.handled = none from hh] | rw [hh]
  refine wpAny_bind (wpAny_pure (wpAny_throw ?_))
  refine wpAny_bind (wpAny_isInstance (T := "StopIteration") (b := true) ⟨_, Heap.get?_push_size _ rfl, rfl⟩ isSubtype_stop ?_)
  exact wpAny_pure (hQ _ (((Heap.SameBut.update ..).extBut.push _).push _))

theorem SetHere.at' {S : Addr} {es : Array (Int × Value)} {ep : Nat} {l : List Nat} {h h' : Heap} (H : SetHere w h S es ep l) (e : ∀ o, h.get? S = some o → h'.get? S = some o) : SetHere w h' S es ep l := ⟨e _ H.at_, H.el, H.sub⟩

theorem walks_set (hh : A.handled = none) (I S : Addr) (hne : S ≠ I) {es : Array (Int × Value)} {ep : Nat} {l : List Nat} :
    Walks prog w A I [I, S] [I] l.length (fun i v => ∃ x, (walkOrd w S ep es)[i]? = some x ∧ v = x.2) (fun i h => h.get? I = some (setItObj w S ep l i) ∧ SetHere w h S es ep l) where
  sub := fun b hb => by simp at hb; simp [hb]
  frame := fun _ _ _ st hk => ⟨hk I (by simp) _ st.1, st.2.at' fun o e => hk S (by simp) o e⟩
  item := fun i s Q E hi st hQ => by
    have hlt : i < (walkOrd w S ep es).size := by rw [← Array.length_toList, (walkOrd_perm w S ep es).length_eq, Array.length_toList, st.2.size]; exact hi
    have hx : (walkOrd w S ep es)[i]? = some (walkOrd w S ep es)[i] := Array.getElem?_eq_getElem hlt
    refine next_set_item st.1 st.2 hx fun h' hit' hs' => ?_
    exact hQ _ h' s.toks ⟨_, hx, rfl⟩ ⟨hit', st.2.at' fun o e => (hs'.2 S hne).trans e⟩ fun b o hb e => hs'.extBut b o (fun h => hb (by simp [h])) e
  done := fun s Q E st hQ => next_set_end hh st.1 st.2 fun h' he' => hQ h' s.toks fun b o hb e => he' b o (fun h => hb (by simp [h])) e
  self := fun i s Q E st hQ => by
    have hT : s.TypeIs (.ref I) "set_iterator" := ⟨_, st.1, rfl⟩
    refine wpAny_pyIter_slot hT slot_setitIter (wpAny_call_entry slot_setitIter hT entry_setitIter ?_ (args_setitIter _))
    show wpAny _ _ (ret (.ref I)) _ _ s
    exact wpAny_pure ⟨_, rfl, "set_iterator", _, hT, slot_setitNext.lookup, hQ⟩

theorem hint_set {r : Addr} {Q : Bool → Shared → Prop} (hT : s.TypeIs (.ref r) "set") (h : Q false s) : wpAny (model prog w) A (Builtin.List.listLengthHint (.ref r)) Q E s := by
  unfold Builtin.List.listLengthHint
  refine wpAny_bind (wpAny_specialOf hT PySem.F.slot_set_len.lookup ?_)
  generalize hid : ("set.__len__" : String) = id0
  wp_delta
  rw [show splitId id0 = some ("set", "__len__") from by subst hid; decide +kernel]
  subst hid
  refine wpAny_bind (wpAny_isInstance (T := "set") (b := true) hT (by rw [isSubtype_type]; kernel_rfl) ?_)
  refine wpAny_ite_split (fun hab => absurd hab (by decide)) (fun _ => ?_)
  refine wpAny_ite_split (fun _ => ?_) (fun hab => absurd (by decide +kernel) hab)
  refine wpAny_bind (wpAny_typeOf hT ?_)
  exact wpAny_pure h

theorem src_set {S : Addr} {es : Array (Int × Value)} {ep : Nat} {l : List Nat} : KdlSrc prog w "set" S S l.length (fun i v => ∃ x, (walkOrd w S ep es)[i]? = some x ∧ v = x.2) (fun h => SetHere w h S es ep l) where
  type := fun s H => ⟨_, H.at_, rfl⟩
  there := fun h H => ⟨Heap.lt_size H.at_, Heap.lt_size H.at_⟩
  keep := fun h h' H hk => H.at' fun o e => hk S (.inl rfl) o e
  notList := by decide
  notTuple := by decide
  hint := fun A E s Q H hq => hint_set ⟨_, H.at_, rfl⟩ hq
  iter := fun A s hh H => ⟨_, _, (fun _ _ hq => iter_set H hq), walks_set hh _ S (Nat.ne_of_lt (Heap.lt_size H.at_)), ⟨Heap.get?_push_size _ rfl, H.at' fun o e => Heap.get?_push_of_some _ e⟩⟩
end
end Mine
end
section
open PySem PySem.W PyProof.Rows PySem.SeqAt PySem.Spec
namespace Mine

/-! sorting -/
def sortZ (l : List Int) : List Int := l.mergeSort (fun a b => decide (a ≤ b))
def leS (a b : Str) : Bool := !ltCps b.cps.toList a.cps.toList
def sortS (l : List Str) : List Str := l.mergeSort leS
theorem sortZ_perm (l : List Int) : (sortZ l).Perm l := List.mergeSort_perm _ _
theorem sortS_perm (l : List Str) : (sortS l).Perm l := List.mergeSort_perm _ _
theorem leS_iff {a b : Str} : leS a b = true ↔ ¬ (b.cps.toList < a.cps.toList) := by unfold leS; rw [ltCps_eq]; simp
theorem leS_trans (a b c : Str) (h1 : leS a b = true) (h2 : leS b c = true) : leS a c = true := by
  rw [leS_iff] at *
  exact fun h => by
    have h1' := List.not_lt.mp h1
    have h2' := List.not_lt.mp h2
    exact absurd h (List.not_lt.mpr (List.le_trans h1' h2'))
theorem leS_total (a b : Str) : (leS a b || leS b a) = true := by
  rw [Bool.or_eq_true, leS_iff, leS_iff]
  rcases List.le_total a.cps.toList b.cps.toList with h | h
  · exact .inl (List.not_lt.mpr h)
  · exact .inr (List.not_lt.mpr h)
theorem leS_anti {a b : Str} (h1 : leS a b = true) (h2 : leS b a = true) : a = b := by
  rw [leS_iff] at *
  have h := List.le_antisymm (List.not_lt.mp h1) (List.not_lt.mp h2)
  cases a; cases b
  simp only [Str.mk.injEq]
  exact Array.toList_inj.mp h
theorem sortZ_sorted (l : List Int) : (sortZ l).Pairwise (· ≤ ·) := by
  have := List.pairwise_mergeSort (le := fun a b : Int => decide (a ≤ b)) (fun a b c h1 h2 => by simp at *; omega) (fun a b => by simp; omega) l
  exact this.imp fun h => by simpa using h
theorem sortS_sorted (l : List Str) : (sortS l).Pairwise (fun a b => leS a b = true) := List.pairwise_mergeSort leS_trans leS_total l
theorem eq_sortZ {l l' : List Int} (hp : l'.Perm l) (hs : l'.Pairwise (· ≤ ·)) : l' = sortZ l :=
  List.Perm.eq_of_pairwise (fun a b _ _ h1 h2 => Int.le_antisymm h1 h2) hs (sortZ_sorted l) (hp.trans (sortZ_perm l).symm)
theorem eq_sortS {l l' : List Str} (hp : l'.Perm l) (hs : l'.Pairwise (fun a b => leS a b = true)) : l' = sortS l :=
  List.Perm.eq_of_pairwise (fun a b _ _ h1 h2 => leS_anti h1 h2) hs (sortS_sorted l) (hp.trans (sortS_perm l).symm)
theorem pair_of_sortedS : ∀ (l : List Str), sortedS l = true → l.Pairwise (fun a b => leS a b = true)
  | [], _ => .nil
  | x :: r, h => by
    have key : ∀ (p : Str) (r : List Str), risingS p r = true → (p :: r).Pairwise (fun a b => leS a b = true) := by
      intro p r
      induction r generalizing p with
      | nil => intro _; exact List.pairwise_singleton ..
      | cons y r ih =>
        intro h
        have h' : (!ltCps y.cps.toList p.cps.toList && risingS y r) = true := h
        rw [Bool.and_eq_true] at h'
        have ih' := ih y h'.2
        refine List.pairwise_cons.mpr ⟨fun z hz => ?_, ih'⟩
        rcases List.mem_cons.mp hz with rfl | hz
        · exact h'.1
        · exact leS_trans p y z h'.1 ((List.pairwise_cons.mp ih').1 z hz)
    exact key x r h

section
variable {prog : Program} {w : World} {A : Around} {E : Value → Shared → Prop} {s : Shared} {T : String} {r d : Addr} {n : Nat} {P : Nat → Value → Prop} {OK : Heap → Prop}

theorem sorted_heap {h : Heap} {vs : List Value} {out : Array Value} : ∃ e, (sortedHeap (h.push (seqObj "list" vs.toArray 0)) h.objs.size vs out).get? h.objs.size = some (seqObj "list" out e) :=
  sortedHeap_at (n := 0) (Heap.get?_push_size _ rfl)
theorem sorted_heap_old {h : Heap} {vs : List Value} {out : Array Value} {b : Addr} {o : Obj} (e : h.get? b = some o) : (sortedHeap (h.push (seqObj "list" vs.toArray 0)) h.objs.size vs out).get? b = some o := by
  have hlt := Heap.lt_size e
  rw [sortedHeap_old (Nat.ne_of_lt hlt) (by rw [size_push']; exact Nat.lt_succ_of_lt hlt)]
  exact Heap.get?_push_of_some _ e

theorem sorted_src_ints {Q : Value → Shared → Prop} (K : KdlSrc prog w T r d n P OK) (hh : A.handled = none) (hok : OK s.heap) (hn : n < 64) {vals : List Int} (hl : vals.length = n) (hP : ∀ i v, P i v → ∀ k, vals[i]? = some k → ∃ t, v = Value.int k t)
    (h : ∀ B h' t' out e, s.heap.get? B = none → h'.get? B = some (seqObj "list" out e) → IntsAre out.toList (sortZ vals) → (∀ b o, s.heap.get? b = some o → h'.get? b = some o) → Q (.ref B) { s with heap := h', toks := t' }) :
    wpAny (model prog w) A (call (.builtin "sorted") [.ref r]) Q E s := by
  refine Calls.call_function_entry kind_sorted plain_sorted entry_sorted (args_sorted1 _) ?_
  unfold Builtin.«sorted»
  refine wpAny_bind (m := checkCount "sorted" 1 1 _) (wpAny_pure ?_)
  refine wpAny_bind (kdu_collect (A := A.in1) K hh hok (by rw [sizeLine_eq]; omega) fun h' tk acc hk hacc => ?_)
  have hl' : acc.toList.length = n := by rw [Array.length_toList]; exact hacc.1
  refine wpAny_bind (wpAny_newList ?_ (by rw [hl', sizeLine_eq]; omega))
  have hI : IntsAre acc.toList vals := by
    have key : ∀ (vs : List Value) (ks : List Int), vs.length = ks.length → (∀ (i : Nat) (v : Value) (k : Int), vs[i]? = some v → ks[i]? = some k → ∃ t, v = .int k t) → IntsAre vs ks := by
      intro vs
      induction vs with
      | nil => intro ks h _; cases ks <;> first | exact .nil | cases h
      | cons v r ih =>
        intro ks h hv
        cases ks with
        | nil => cases h
        | cons k ks =>
          obtain ⟨t, rfl⟩ := hv 0 v k rfl rfl
          exact .cons k t (ih ks (by simpa using h) fun i u k' h1 h2 => hv (i + 1) u k' (by simpa using h1) (by simpa using h2))
    exact key _ _ (by rw [hl', hl]) fun i v k h1 h2 => hP i v (hacc.2 i v (by rw [← Array.getElem?_toList]; exact h1)) k h2
  have hoL : (h'.push (seqObj "list" acc.toList.toArray 0)).get? h'.objs.size = some (seqObj "list" acc.toList.toArray 0) := Heap.get?_push_size _ rfl
  refine wpAny_bind (wpAny_holding (wpAny_call_entry slot_list_sort ⟨_, hoL, rfl⟩ entry_list_sort (list_sort_tree (s := { s with heap := h'.push (seqObj "list" acc.toList.toArray 0), toks := tk }) hoL hI (by rw [hl']; exact hn) fun out ns' a1 a2 a3 => ⟨_, rfl, ?_⟩) (args_list_sort _)))
  obtain ⟨e, he⟩ := sorted_heap (h := h') (vs := acc.toList) (out := out)
  refine wpAny_pure ⟨_, rfl, h h'.objs.size _ tk out e ?_ he (by rw [← eq_sortZ a2 a3]; exact a1) fun b o q => sorted_heap_old (hk b o q)⟩
  cases q : s.heap.get? h'.objs.size with
  | none => rfl
  | some o => exact absurd (Heap.lt_size (hk _ _ q)) (Nat.lt_irrefl _)

theorem sorted_src_strs {Q : Value → Shared → Prop} (K : KdlSrc prog w T r d n P OK) (hh : A.handled = none) (hok : OK s.heap) (hn : n < 64) {vals : List Str} (hl : vals.length = n) (hP : ∀ i v, P i v → ∀ k, vals[i]? = some k → ∃ t, v = Value.str k t)
    (h : ∀ B h' t' out e, s.heap.get? B = none → h'.get? B = some (seqObj "list" out e) → StrsAre out.toList (sortS vals) → (∀ b o, s.heap.get? b = some o → h'.get? b = some o) → Q (.ref B) { s with heap := h', toks := t' }) :
    wpAny (model prog w) A (call (.builtin "sorted") [.ref r]) Q E s := by
  refine Calls.call_function_entry kind_sorted plain_sorted entry_sorted (args_sorted1 _) ?_
  unfold Builtin.«sorted»
  refine wpAny_bind (m := checkCount "sorted" 1 1 _) (wpAny_pure ?_)
  refine wpAny_bind (kdu_collect (A := A.in1) K hh hok (by rw [sizeLine_eq]; omega) fun h' tk acc hk hacc => ?_)
  have hl' : acc.toList.length = n := by rw [Array.length_toList]; exact hacc.1
  refine wpAny_bind (wpAny_newList ?_ (by rw [hl', sizeLine_eq]; omega))
  have hI : StrsAre acc.toList vals := by
    have key : ∀ (vs : List Value) (ks : List Str), vs.length = ks.length → (∀ (i : Nat) (v : Value) (k : Str), vs[i]? = some v → ks[i]? = some k → ∃ t, v = .str k t) → StrsAre vs ks := by
      intro vs
      induction vs with
      | nil => intro ks h _; cases ks <;> first | exact .nil | cases h
      | cons v r ih =>
        intro ks h hv
        cases ks with
        | nil => cases h
        | cons k ks =>
          obtain ⟨t, rfl⟩ := hv 0 v k rfl rfl
          exact .cons k t (ih ks (by simpa using h) fun i u k' h1 h2 => hv (i + 1) u k' (by simpa using h1) (by simpa using h2))
    exact key _ _ (by rw [hl', hl]) fun i v k h1 h2 => hP i v (hacc.2 i v (by rw [← Array.getElem?_toList]; exact h1)) k h2
  have hoL : (h'.push (seqObj "list" acc.toList.toArray 0)).get? h'.objs.size = some (seqObj "list" acc.toList.toArray 0) := Heap.get?_push_size _ rfl
  refine wpAny_bind (wpAny_holding (wpAny_call_entry slot_list_sort ⟨_, hoL, rfl⟩ entry_list_sort (list_sort_treeK strKind_oneLt (s := { s with heap := h'.push (seqObj "list" acc.toList.toArray 0), toks := tk }) hoL hI.keysOf (fun v₁ v₂ rest e => keyKind_strs (by rw [← e]; exact hI)) (by rw [hl']; exact hn) fun st' hp hs => ⟨_, rfl, ?_⟩) (args_list_sort _)))
  obtain ⟨ss', h1, h2, h3⟩ := sorted_out_str hI hp hs
  obtain ⟨e, he⟩ := sorted_heap (h := h') (vs := acc.toList) (out := (arrOf st').map (·.2))
  refine wpAny_pure ⟨_, rfl, h h'.objs.size _ tk _ e ?_ he (by rw [← eq_sortS h2 (pair_of_sortedS _ h3)]; exact h1) fun b o q => sorted_heap_old (hk b o q)⟩
  cases q : s.heap.get? h'.objs.size with
  | none => rfl
  | some o => exact absurd (Heap.lt_size (hk _ _ q)) (Nat.lt_irrefl _)
end
end Mine
end
section
open PySem PySem.W PyProof.Rows PySem.SeqAt PySem.Spec
namespace Mine

theorem keys_miss : typeLookup (.type "list") "keys" = pure none := am_miss_of_fast (by decide +kernel)
section
variable {prog : Program} {w : World} {A : Around} {E : Value → Shared → Prop}
theorem no_keys {s : Shared} {a : Addr} {xs : Array Value} {k : Nat} {Q : Option Value → Shared → Prop} (hx : s.heap.get? a = some { cls := .type "list", dict := none, data := .seq xs k, slots := #[] }) (hA : A.handled = none)
    (h : ∀ h' tk, (∀ b o, s.heap.get? b = some o → h'.get? b = some o) → Q none { s with heap := h', toks := tk }) : wpAny (model prog w) A (getAttr? (.ref a) "keys") Q E s := by
  obtain ⟨hp, g, d, tk, os⟩ := s
  have hT : ∀ tk', (⟨hp, g, d, tk', os⟩ : Shared).TypeIs (.ref a) "list" := fun _ => ⟨_, hx, rfl⟩
  have f1 := sub_AttributeError
  have f3 := PySem.F.slot_list_getattribute.lookup
  have f4 := PySem.F.slot_list_getattribute.bind (.ref a)
  have f5 := am_list_getattr_none
  have hname : (["__module__", "__name__", "__qualname__", "__doc__", "__annotations__"] : List Str).contains ("keys" : Str) = false := by decide +kernel
  unfold getAttr? getAttrBy? getAttrBy
  repeat (any_goals (first | assumption | exact hT _ | ((with_reducible show wpAny _ _ (call (Value.builtin "list.__getattribute__") _ _) _ _ _); refine call_meets PySem.F.slot_list_getattribute (hT _) am_entry_list_getattribute (PySem.F.args_list_getattribute_2 _ _) (meets_getattribute_miss_list a xs k #[] "keys" _ keys_miss hname) ⟨hx, hA, fun h' tk' e hx' => ?_⟩) | wp_step))
  obtain ⟨t', u', he⟩ := hx'.there
  show wpAny _ _ (getattributeRaised _ _ _ _ _ _ _) _ _ _
  unfold getattributeRaised
  repeat (any_goals (first | assumption | wp_step))
  exact h _ _ hx'.keeps

def pairsV (kvs : List (Str × AV)) : List AV := kvs.map fun p => .tup [.str p.1, p.2]

theorem rep_pair {g : FH} {v : Value} {k : Str} {α : AV} (h : Rep prog w g v (.tup [.str k, α])) : ∃ t o its n u x, v = .ref t ∧ g t = some o ∧ o.cls = .type "tuple" ∧ o.data = .seq its n ∧ its.toList = [.str k u, x] ∧ Rep prog w g x α := by
  cases h with
  | @tup a o its n _ h1 h2 h3 h4 =>
    obtain ⟨l⟩ := its
    cases h4 with
    | cons r1 r2 =>
      cases r1
      cases r2 with
      | cons r3 r4 =>
        cases r4
        exact ⟨a, o, _, n, _, _, rfl, h1, h2, h3, rfl, r3⟩

theorem entry_dict_loop : entryFor table "dict.update.loop" = some Builtin.«dict.update.loop» := entryFor_of_tree (by kernel_rfl)
theorem plain_dict_loop : plainId "dict.update.loop" = true := by decide +kernel

theorem dict_loop {R : Result → Shared → Prop} {I D : Addr} {fp : List Addr} {P : Nat → Value → Prop} {Sx : Nat → Heap → Prop} {g : FH} {kvs : List (Str × AV)} (W : Walks prog w A.in1 I fp [I] kvs.length P Sx) (hDf : D ∉ fp) (hnd : (kvs.map (·.1)).Nodup) (hz : kvs.length ≤ 1000)
    (hP : ∀ i v, P i v → ∀ p, kvs[i]? = some p → Rep prog w g v (.tup [.str p.1, p.2])) (hgD : g D = none) (hgI : g I = none) :
    ∀ (d i : Nat) (c : Int) (s : Shared) (vs : List (Str × Value)), kvs.length - i = d → i ≤ kvs.length → Sx i s.heap → g.In s.heap → s.heap.DictOf (strKind prog w) D vs → RepsD prog w g vs (kvs.take i) →
      (∀ h' t' vs', (∀ b x, b ≠ D → b ≠ I → s.heap.get? b = some x → h'.get? b = some x) → h'.DictOf (strKind prog w) D vs' → RepsD prog w g vs' kvs → R (.ok (.ret .none)) { s with heap := h', toks := t' }) →
      codeAny (model prog w) A (.builtin "dict.update.loop" ⟨[.ref D, .ref I, .int c 0, .none], []⟩) R s := by
  have hDI : D ≠ I := fun h => hDf (h ▸ W.sub I (List.mem_singleton.mpr rfl))
  intro d
  induction d with
  | zero =>
    intro i c s vs hd hi hst hg hD hr hR
    have hin : i = kvs.length := by omega
    subst hin
    refine codeAny_builtin entry_dict_loop ?_
    rw [Around.under_plainId plain_dict_loop _]
    show wpAny _ A.in1 (pyNext (.ref I) >>= _) _ _ s
    refine wpAny_bind (W.done s _ _ hst fun h' t' hk => ?_)
    show wpAny _ A.in1 (Builtin.Dict.addKeywords D [] >>= fun _ => ret Value.none) _ _ _
    refine wpAny_bind (wpAny_pure (wpAny_pure (hR h' t' vs (fun b x _ hb e => hk b x (by simpa using hb) e) ?_ (by rwa [List.take_length] at hr))))
    obtain ⟨o, es, ep, ho, rest⟩ := hD
    exact ⟨o, es, ep, hk D o (by simpa using hDI) ho, rest⟩
  | succ d ih =>
    intro i c s vs hd hi hst hg hD hr hR
    have hlt : i < kvs.length := by omega
    have hki : kvs[i]? = some kvs[i] := List.getElem?_eq_getElem hlt
    refine codeAny_builtin entry_dict_loop ?_
    rw [Around.under_plainId plain_dict_loop _]
    show wpAny _ A.in1 (pyNext (.ref I) >>= _) _ _ s
    refine wpAny_bind (W.item i s _ _ hlt hst fun v h' t' hPv hst' hk' => ?_)
    obtain ⟨t, o, its, n, u, x, rfl, h1, h2, h3, h4, h5⟩ := rep_pair (hP i v hPv _ hki)
    have hg' : g.In h' := fun b y e => hk' b y (fun q => by rw [List.mem_singleton.mp q, hgI] at e; cases e) (hg b y e)
    have ho := hg' _ _ h1
    have hD' : h'.DictOf (strKind prog w) D vs := by
      obtain ⟨o, es, ep, ho, rest⟩ := hD
      exact ⟨o, es, ep, hk' D o (by simpa using hDI) ho, rest⟩
    show wpAny _ A.in1 (holding [Value.ref t] _ >>= _) _ _ _
    refine wpAny_bind (wpAny_holding (wpAny_bind ?_))
    show wpAny _ _ (tryCatch (Builtin.Dict.pairItems (.ref t)) _) _ _ _
    refine wpAny_tryCatch ?_
    unfold Builtin.Dict.pairItems
    refine wpAny_bind (wpAny_typeOf (T := "tuple") ⟨o, ho, h2⟩ ?_)
    rw [if_pos (by decide)]
    refine wpAny_bind (wpAny_seqItems ho h3 (wpAny_pure ?_))
    show wpAny _ _ (match its.toList with | [k, v] => holding [k, v] (dictSet D k v) | _ => _) _ _ _
    rw [h4]
    refine wpAny_holding ?_
    have hle : vs.length ≤ sizeLine := by rw [hr.toK.length, List.length_take, sizeLine_eq]; omega
    have hnew : vs.any (fun kv => kv.1 = kvs[i].1) = false := by
      rw [hr.toK.any]
      rw [List.any_eq_false]
      intro p hp
      simp only [decide_eq_true_eq]
      intro e
      obtain ⟨j, hj, rfl⟩ := List.getElem_of_mem hp
      rw [List.getElem_take] at e
      have hj' : j < i := by rw [List.length_take] at hj; omega
      have := List.pairwise_iff_getElem.mp hnd j i (by simp; omega) (by simpa using hlt) hj'
      exact this (by simpa using e)
    refine wpAny_dictSet_pairs (hsz := hle) (s := { s with heap := h', toks := t' }) (k := kvs[i].1) (by simp [PySem.strKind, Value.isStrOf]) hD' fun h2 hD2 hsb => ?_
    refine wpAny_pure ⟨plainId_quiet plain_dict_loop _, ih (i + 1) _ _ (vs ++ [(kvs[i].1, x)]) (by omega) hlt (W.frame _ _ _ hst' fun b hb y e => (hsb.2 b (fun q => hDf (q ▸ hb))).trans e) (fun b y e => (hsb.2 b (fun q => by rw [q, hgD] at e; cases e)).trans (hg' b y e)) ?_ ?_ fun h3 t3 vs3 hk3 hD3 hr3 => ?_⟩
    · have := hD2
      unfold stored at this
      rw [hnew] at this
      simpa using this
    · have : kvs.take (i + 1) = kvs.take i ++ [kvs[i]] := by simp
      rw [this]
      exact (hr.toK.snoc h5).toD
    · exact hR h3 t3 vs3 (fun b y b1 b2 e => hk3 b y b1 b2 ((hsb.2 b b1).trans (hk' b y (by simpa using b2) e))) hD3 hr3
end
end Mine
end
section
open PySem PySem.W PyProof.Rows PySem.SeqAt PySem.Spec
namespace Mine
section
variable {prog : Program} {w : World} {A : Around} {E : Value → Shared → Prop}
theorem call_dict_pairs {s : Shared} {g : FH} {l : Addr} {its : Array Value} {n : Nat} {kvs : List (Str × AV)} {Q : Value → Shared → Prop} (hh : A.handled = none) (hg : g.In s.heap) (hl : g l = some { cls := .type "list", dict := none, data := .seq its n, slots := #[] })
    (hr : Reps prog w g its.toList (pairsV kvs)) (hnd : (kvs.map (·.1)).Nodup) (hz : kvs.length ≤ 1000)
    (h : ∀ h' t' vs, (∀ b o, s.heap.get? b = some o → h'.get? b = some o) → h'.DictOf (strKind prog w) s.heap.objs.size vs → RepsD prog w g vs kvs → Q (.ref s.heap.objs.size) { s with heap := h', toks := t' }) :
    wpAny (model prog w) A (call (.type "dict") [.ref l]) Q E s := by
  have hls := hg _ _ hl
  have hlt := Heap.lt_size hls
  refine callType_codes (Q₁ := fun obj s₁ => obj = .ref s.heap.objs.size ∧ s₁ = { s with heap := s.heap.push { cls := .type "dict", data := .dict #[] } }) PySem.F.kt_called_dict (PySem.F.kt_typeCall_dict_1 _) PySem.F.entry_dict_init (kt_code_dict_new _ ⟨rfl, rfl⟩) ?_
  rintro obj s₁ ⟨rfl, rfl⟩
  have hnew : (s.heap.push { cls := .type "dict", data := .dict #[] }).DictOf (strKind prog w) s.heap.objs.size [] := Heap.DictOf.new s.heap
  generalize hB : s.heap.push { cls := .type "dict", data := .dict #[] } = B at hnew ⊢
  have hBs : B.objs.size = s.heap.objs.size + 1 := by rw [← hB, Heap.size_push]
  have hBk : ∀ b o, s.heap.get? b = some o → B.get? b = some o := fun b o e => hB ▸ Heap.get?_push_of_some _ e
  refine ⟨hnew.typeIs, PySem.F.args_dict_init_2 _ _, ?_⟩
  unfold Builtin.«dict.__init__»
  refine wpAny_bind ?_
  unfold Builtin.Dict.selfAndRest
  refine wpAny_bind (wpAny_notOrdered_dict (s := { s with heap := B }) hnew.typeIs ?_)
  show wpAny _ _ (pure (s.heap.objs.size, [Value.ref l])) _ _ _
  refine wpAny_pure ?_
  show wpAny _ _ (Builtin.Dict.updateFrom "dict.__init__" s.heap.objs.size (.ref l) [] .none) _ _ _
  unfold Builtin.Dict.updateFrom
  refine wpAny_bind (wpAny_typeOf (T := "list") (s := { s with heap := B }) ⟨_, hBk _ _ hls, rfl⟩ ?_)
  rw [if_pos (by decide)]
  refine wpAny_bind (no_keys (A := A.in1.in1) (s := { s with heap := B }) (hBk _ _ hls) hh fun h1 t1 hk1 => ?_)
  rw [if_pos (show (none : Option Value).isNone = true from rfl)]
  refine wpAny_bind (wpAny_rule ?_)
  have hl1 : h1.IsList l its := ⟨_, hk1 _ _ (hBk _ _ hls), rfl, n, rfl⟩
  have hs1 : s.heap.objs.size + 1 ≤ h1.objs.size := by
    obtain ⟨o, _, _, ho, _⟩ := hnew
    exact Nat.succ_le_of_lt (Heap.lt_size (hk1 _ _ ho))
  refine wpAny_bind (wpAny_pyIter_list (s := { s with heap := h1, toks := t1 }) hl1 ?_)
  have hneI : l ≠ h1.objs.size := Nat.ne_of_lt (Nat.lt_of_lt_of_le hlt (Nat.le_of_succ_le hs1))
  have hDf : s.heap.objs.size ∉ [h1.objs.size, l] := by
    simp only [List.mem_cons, List.not_mem_nil, or_false, not_or]
    exact ⟨Nat.ne_of_lt hs1, Nat.ne_of_gt hlt⟩
  have hlen : kvs.length = its.size := by
    have := hr.length
    simp [pairsV] at this
    exact this.symm
  have gnone : ∀ a, s.heap.objs.size ≤ a → g a = none := fun a ha => by
    cases e : g a with
    | none => rfl
    | some o => exact absurd (Heap.lt_size (hg a o e)) (Nat.not_lt.mpr ha)
  have hIn1 : g.In (h1.push { cls := .type "list_iterator", data := .fields #[.ref l, .int 0 0] }) := fun b o e => Heap.get?_push_of_some _ (hk1 _ _ (hBk _ _ (hg b o e)))
  have hD1 : (h1.push { cls := .type "list_iterator", data := .fields #[.ref l, .int 0 0] }).DictOf (strKind prog w) s.heap.objs.size [] := by
    obtain ⟨o, es, ep, ho, rest⟩ := hnew
    exact ⟨o, es, ep, Heap.get?_push_of_some _ (hk1 _ _ ho), rest⟩
  refine wpAny_pure ⟨plainId_quiet plain_dict_loop _, ?_⟩
  have W := Walks.list (prog := prog) (w := w) (A := A.in1.in1) (by simp [hh]) h1.objs.size l hneI its
  rw [← hlen] at W
  refine dict_loop W hDf hnd hz (fun i v hP p hp => hr.get (i := i) (by rw [Array.getElem?_toList]; exact hP) (by simp [pairsV, hp])) (gnone _ (Nat.le_refl _)) (gnone _ (Nat.le_of_succ_le hs1)) (kvs.length - 0) 0 0 _ [] (by omega) (Nat.zero_le _)
    ⟨⟨_, Heap.get?_push_size _ rfl, rfl, rfl⟩, hl1.push _⟩ hIn1 hD1 (by simp; exact .nil) fun h' t' vs' hk hD' hr' => ?_
  refine ⟨rfl, h h' t' vs' (fun b o e => ?_) hD' hr'⟩
  have hb := Heap.lt_size e
  exact hk b o (Nat.ne_of_lt hb) (Nat.ne_of_lt (Nat.lt_of_lt_of_le hb (Nat.le_of_succ_le hs1))) (Heap.get?_push_of_some _ (hk1 _ _ (hBk _ _ e)))
end
end Mine
end
section
open PySem PySem.W PyProof.Rows PySem.SeqAt PySem.Spec
namespace Mine

def strsA (l : List Str) : List AV := l.map AV.str
def intsA (l : List Int) : List AV := l.map AV.int
def natsA (l : List Nat) : List AV := l.map fun k : Nat => AV.int (k : Int)
theorem natsA_eq (l : List Nat) : natsA l = intsA (l.map fun k : Nat => (k : Int)) := by simp [natsA, intsA]
section
variable {prog : Program} {w : World} {g : FH}
theorem reps_ints : ∀ {vs : List Value} {ns : List Int}, IntsAre vs ns → Reps prog w g vs (intsA ns)
  | _, _, .nil => .nil
  | _, _, .cons n t h => .cons (.int n t) (reps_ints h)
theorem reps_strs : ∀ {vs : List Value} {ns : List Str}, StrsAre vs ns → Reps prog w g vs (strsA ns)
  | _, _, .nil => .nil
  | _, _, .cons n t h => .cons (.str n t) (reps_strs h)
theorem strs_reps : ∀ {vs : List Value} {ns : List Str}, Reps prog w g vs (strsA ns) → StrsAre vs ns
  | _, [], .nil => .nil
  | _, n :: ns, .cons h1 h2 => by cases h1; exact .cons n _ (strs_reps h2)
end
section
variable {C : Cx} {n : Nat} {mu : Mu} {env : Env} {Q : AV → Mu → Prop}

theorem fz_list {g : FH} {s : Shared} {h' : Heap} {t' : Nat} {B : Addr} {out : Array Value} {e : Nat} {xs : List AV} (S : St C.prog C.w g mu s.heap) (hf : s.heap.get? B = none) (ho : h'.get? B = some (seqObj "list" out e)) (hr : Reps C.prog C.w g out.toList xs)
    (hk : ∀ b o, s.heap.get? b = some o → h'.get? b = some o) (h : Q (.list xs) mu) : ∃ g' mu' α, Rep C.prog C.w g' (.ref B) α ∧ Ends C.prog C.w g mu s g' mu' { s with heap := h', toks := t' } ∧ Q α mu' :=
  ⟨_, mu, _, .list (FH.add_self ..) (hr.mono (FH.le_add (g_none S hf))), Ends.fz S hk hf ho, h⟩

theorem l_sorted_dict {kvs : List (Str × AV)} (hz : kvs.length < 64) (h : Q (.list (strsA (sortS (kvs.map (·.1))))) mu) : WL C n [.dict kvs] mu (fun vs => call (.builtin "sorted") vs) Q := fun vs A g s hA hH hr S => by
  obtain ⟨v, rfl, r1⟩ := hr.one
  cases r1 with
  | @dict a o kvv _ h1 h2 h3 h4 =>
  obtain ⟨hx, es, ep, hd, hk, hp, hn⟩ := h2
  have hm : s.heap.DictAt (strKind C.prog C.w) a kvv ep := ⟨o, es, S.sub _ _ h1, hx, hd, hk, hp, hn⟩
  have hlen : kvv.length = kvs.length := by simpa using congrArg List.length h4.keys
  refine sorted_src_strs (kdl_dict (prog := C.prog) (w := C.w) (knd := strKind C.prog C.w) (kvs := kvv) (ep := ep) h3) hA.handled hm (by rw [hlen]; exact hz) (vals := kvs.map (·.1)) (by simp [hlen]) (fun i v hP k hk => ?_) fun B h' t' out e hf ho hS hkp => fz_list S hf ho (reps_strs hS) hkp h
  obtain ⟨k', x, h5, h6⟩ := hP
  obtain ⟨t, rfl⟩ := Value.isStrOf_shape h6
  have := h4.key_at h5
  rw [hk] at this
  cases this
  exact ⟨t, rfl⟩
theorem l_sorted_dictI {kvs : List (Int × AV)} {i : Nat} {a : Addr} (hi : mu[i]? = some (a, .dictI kvs)) (hz : kvs.length < 64) (h : Q (.list (intsA (sortZ (kvs.map (·.1))))) mu) : WL C n [.val (.ref a)] mu (fun vs => call (.builtin "sorted") vs) Q := fun vs A g s hA hH hr S => by
  obtain ⟨v, rfl, r1⟩ := hr.one
  cases r1
  obtain ⟨kvv, hd, hr, hm⟩ := S.is _ (List.mem_of_getElem? hi)
  obtain ⟨ep, hat⟩ := hd.dictAt
  have hlen : kvv.length = kvs.length := hr.length
  refine sorted_src_ints (kdl_dict (prog := C.prog) (w := C.w) (knd := intKind C.prog C.w) (kvs := kvv) (ep := ep) hm) hA.handled hat (by rw [hlen]; exact hz) (vals := kvs.map (·.1)) (by simp [hlen]) (fun i v hP k hk => ?_) fun B h' t' out e hf ho hS hkp => fz_list S hf ho (reps_ints hS) hkp h
  obtain ⟨k', x, h5, h6⟩ := hP
  obtain ⟨t, rfl⟩ := Value.isInt_shape h6
  have : (kvs.map (·.1))[i]? = some k' := by rw [← hr.keys]; simp [h5]
  rw [hk] at this
  cases this
  exact ⟨t, rfl⟩
theorem l_sorted_strs {l : List Str} (hz : l.length < 64) (h : Q (.list (strsA (sortS l))) mu) : WL C n [.list (strsA l)] mu (fun vs => call (.builtin "sorted") vs) Q := fun vs A g s hA hH hr S => by
  obtain ⟨v, rfl, r1⟩ := hr.one
  cases r1 with
  | @list a its k _ h1 h4 =>
  have hS := strs_reps h4
  have hl : s.heap.IsList a its.toList.toArray := ⟨_, S.sub _ _ h1, rfl, k, by simp⟩
  have hlen : its.toList.length = l.length := by have := h4.length; simpa [strsA] using this
  refine sorted_strs hl hS (by rw [hlen]; exact hz) fun out ss' a1 a2 a3 => ?_
  obtain ⟨e, he⟩ := sortedAll_at s.heap its.toList out
  have hf : s.heap.get? (s.heap.objs.size + 1) = none := by
    cases q : s.heap.get? (s.heap.objs.size + 1) with
    | none => rfl
    | some o => exact absurd (Heap.lt_size q) (Nat.not_lt.mpr (Nat.le_succ _))
  refine fz_list (t' := s.toks) S hf he ?_ (fun b o => sortedAll_old) h
  rw [← eq_sortS a2 (pair_of_sortedS _ a3)]
  exact reps_strs a1
theorem iset_here {h : Heap} {a : Addr} {o : Obj} {l : List Nat} (ho : h.get? a = some o) (hI : ISet C.w o l) (hl : l ∈ subs6) : ∃ es ep, SetHere C.w h a es ep l := by
  obtain ⟨⟨h1, h2, h3⟩, es, ep, hd, hE⟩ := hI
  obtain ⟨oc, od, oda, osl⟩ := o
  dsimp only at h1 h2 h3 hd
  subst h1; subst h2; subst h3; subst hd
  exact ⟨es, ep, ho, hE, hl⟩
theorem l_sorted_set {l : List Nat} (hl : l ∈ subs6) (h : Q (.list (natsA l)) mu) : WL C n [.iset l] mu (fun vs => call (.builtin "sorted") vs) Q := fun vs A g s hA hH hr S => by
  obtain ⟨v, rfl, r1⟩ := hr.one
  cases r1 with
  | @iset a o _ h1 h2 =>
  obtain ⟨es, ep, H⟩ := iset_here (C := C) (S.sub _ _ h1) h2 hl
  have hlen := subs6_len l hl
  have hperm := walkOrd_perm C.w a ep es
  have key : ∃ vals : List Int, vals.length = l.length ∧ vals.Perm (l.map fun k : Nat => (k : Int)) ∧ ∀ (i : Nat) (v : Value), (∃ x, (walkOrd C.w a ep es)[i]? = some x ∧ v = x.2) → ∀ k, vals[i]? = some k → ∃ t, v = Value.int k t := by
    refine ⟨(walkOrd C.w a ep es).toList.map (·.1), ?_, ?_, ?_⟩
    · rw [List.length_map, hperm.length_eq, H.el.length]
    · have e : es.toList.map (·.1) = l.map fun k : Nat => (k : Int) := by
        have : ∀ {es : List (Int × Value)} {l : List Nat}, ElI es l → es.map (·.1) = l.map (fun n : Nat => (n : Int)) := by
          intro es l h
          induction h with
          | nil => rfl
          | cons k t h ih => simp [ih]
        exact this H.el
      rw [← e]
      exact hperm.map _
    · rintro i v ⟨x, hx, rfl⟩ k hk
      rw [List.getElem?_map, Array.getElem?_toList, hx] at hk
      cases hk
      obtain ⟨k, _, t, rfl⟩ := H.el.mem x (hperm.mem_iff.mp (by rw [← Array.getElem?_toList] at hx; exact List.mem_of_getElem? hx))
      exact ⟨t, rfl⟩
  obtain ⟨vals, k1, k2, k3⟩ := key
  refine sorted_src_ints (src_set (prog := C.prog) (w := C.w) (S := a) (es := es) (ep := ep) (l := l)) hA.handled H (by omega) k1 k3 fun B h' t' out e hf ho hS hkp => fz_list S hf ho ?_ hkp h
  have e : sortZ vals = l.map fun k : Nat => (k : Int) := by
    refine (eq_sortZ k2.symm ?_).symm
    rw [List.pairwise_map]
    exact (subs6_rise l hl).imp fun h => by omega
  rw [natsA_eq, ← e]
  exact reps_ints hS
theorem l_set {ks : List Nat} (hks : small6 ks) (hz : ks.length ≤ 1000) (h : Q (.iset (setOf ks)) mu) : WL C n [.list (natsA ks)] mu (fun vs => call (.type "set") vs) Q := fun vs A g s hA hH hr S => by
  obtain ⟨v, rfl, r1⟩ := hr.one
  cases r1 with
  | @list a its k _ h1 h4 =>
  have hlen : its.size = ks.length := by have := h4.length; simpa [natsA] using this
  refine call_set_small hA.handled (items := its) ⟨_, S.sub _ _ h1, rfl, _, rfl⟩ hlen.symm hks (fun i v hv k hk => ?_) fun h' t' o' ho hI hkp => ?_
  · have := h4.get (i := i) (v := v) (α := .int (k : Int)) (by rw [Array.getElem?_toList]; exact hv) (by simp [natsA, hk])
    cases this
    exact ⟨_, rfl⟩
  · exact ⟨_, mu, _, .iset (FH.add_self ..) hI, Ends.fz S hkp fresh_size ho, h⟩
theorem l_dict (K : C.Ok) {kvs : List (Str × AV)} (hnd : (kvs.map (·.1)).Nodup) (hz : kvs.length ≤ 1000) (h : Q (.dict kvs) mu) : WL C n [.list (pairsV kvs)] mu (fun vs => call (.type "dict") vs) Q := fun vs A g s hA hH hr S => by
  obtain ⟨v, rfl, r1⟩ := hr.one
  cases r1 with
  | @list a its k _ h1 h4 =>
  have hsys := K.sysm s.heap fun b o e => S.sub b o (hH b o e)
  refine call_dict_pairs hA.handled S.sub h1 h4 hnd hz fun h' t' vs hkp hD hr => ?_
  obtain ⟨o, es, ep, ho, hx, hd, hk, hp, hn⟩ := hD
  exact ⟨_, mu, _, .dict (FH.add_self ..) ⟨hx, es, ep, hd, hk, hp, hn⟩ (beq_eq_false_iff_ne.mpr (Nat.ne_of_gt hsys)) (hr.mono (FH.le_add (g_none S fresh_size))), Ends.fz S hkp fresh_size ho, h⟩

/-- an entry is frozen, the cell that holds it is noted anew -/
theorem WT.frzCell {β β' : Type} {R : FH → β → β' → Prop} {T : FH → Prop} {mu mu1 : Mu} {t : Sem β} {P : β' → Mu → Prop} {a c : Addr} {mo : MO} {α : AV} {i : Nat} (hTm : Mono T)
    (hf : (∃ ys, mo = .list ys ∧ α = .list ys) ∨ (∃ ys, mo = .dictS ys ∧ α = .dict ys)) (hp : mu.Perm ((a, mo) :: mu1)) (hi : mu1[i]? = some (c, .cell (some (.val (.ref a)))))
    (h : WT C.prog C.w C.H n R T (mu1.set i (c, .cell (some α))) t P) : WT C.prog C.w C.H n R T mu t P := by
  refine WT.frzT (T' := fun g => T g ∧ Rep C.prog C.w g (.ref a) α) hf hp (fun g g' hl hT hr => ⟨hTm _ _ hl hT, hr⟩) fun A g s hA hH hT S => ?_
  obtain ⟨v, hc, hv⟩ := S.is _ (List.mem_of_getElem? hi)
  cases hv
  have e0 : Ends C.prog C.w g mu1 s g (mu1.set i (c, .cell (some α))) { s with heap := s.heap, toks := s.toks } :=
    Ends.upd (mo' := .cell (some α)) S hi (fun b o _ e => e) ⟨_, hc, hT.2⟩
  exact comb e0 (h A g s hA hH hT.1 e0.st)
end
end Mine
end
section
open PySem PySem.W PyProof.Rows PySem.SeqAt PySem.Spec
namespace Mine

theorem lk_here {x : Str} {α : AV} {m : List (Str × AV)} : List.lookup x ((x, α) :: m) = some α := by rw [List.lookup_cons, beq_self_eq_true]
theorem lk_next {x y : Str} {α β : AV} {m : List (Str × AV)} (h : (x == y) = false) (hl : List.lookup x m = some α) : List.lookup x ((y, β) :: m) = some α := by rw [List.lookup_cons, h]; exact hl

abbrev Has (m : List (Str × AV)) (x : Str) (α : AV) : Prop := List.lookup x m = some α

/-- the parts of the program, by place -/
def stAt (i : Nat) : Stmt := (PySem.Challenge.pw_pb0165_01.main.body[i]?).getD (.Pass ⟨0, 0, 0, 0⟩)
def bodyOf : Stmt → List Stmt
  | .FunctionDef _ _ b .. => b
  | .ClassDef _ _ _ b .. => b
  | _ => []
def scopeOf : Stmt → Scope
  | .FunctionDef _ _ _ _ _ _ s .. => s
  | _ => default
def fB (i : Nat) : List Stmt := bodyOf (stAt i)
def fS (i : Nat) : Scope := scopeOf (stAt i)
def mStmt (i j : Nat) : Stmt := ((bodyOf (stAt i))[j]?).getD (.Pass ⟨0, 0, 0, 0⟩)
def mB (i j : Nat) : List Stmt := bodyOf (mStmt i j)
def mS (i j : Nat) : Scope := scopeOf (mStmt i j)

structure Glob (C : Cx) (x : Str) (v : Value) : Prop where
  is : C.mg x = some v
structure GlobI (C : Cx) (x : Str) (i : Int) : Prop where
  is : ∃ t, C.mg x = some (.int i t)
structure Blt (C : Cx) (x : Str) (v : Value) : Prop where
  no : C.mg x = none
  is : bootBuiltins x = some v
  nn : x ≠ "__name__"

section
variable {C : Cx} {n : Nat} {mu : Mu} {env : Env} {Q : AV → Mu → Prop}
theorem E_globH (K : C.Ok) {x : Str} {pos : Pos} {v : Value} (hv : Glob C x v) (hk : env.scope.kind = .function) (hl : env.kindOf x = some .globalImplicit) (hg : env.globals = mainGlobals)
    (hd : (x == ("__debug__" : Str)) = false) (h : Q (.val v) mu) : WE C n mu env (.Name x pos) Q := E_glob K hk hl hg hv.is (fun _ => .val _) hd h
theorem E_globI (K : C.Ok) {x : Str} {pos : Pos} {i : Int} (hv : GlobI C x i) (hk : env.scope.kind = .function) (hl : env.kindOf x = some .globalImplicit) (hg : env.globals = mainGlobals)
    (hd : (x == ("__debug__" : Str)) = false) (h : Q (.int i) mu) : WE C n mu env (.Name x pos) Q := by
  obtain ⟨t, ht⟩ := hv.is
  exact E_glob K hk hl hg ht (fun _ => .int _ _) hd h
theorem E_bltH (K : C.Ok) {x : Str} {pos : Pos} {v : Value} (hv : Blt C x v) (hk : env.scope.kind = .function) (hl : env.kindOf x = some .globalImplicit) (hg : env.globals = mainGlobals) (hb : env.builtins = builtinsNs)
    (hd : (x == ("__debug__" : Str)) = false) (h : Q (.val v) mu) : WE C n mu env (.Name x pos) Q := E_blt K hk hl hg hb hv.no hv.is hv.nn hd h

theorem E_loc0 {x : Str} {pos : Pos} {L : Addr} {m : List (Str × AV)} {α : AV} (hk : env.scope.kind = .function) (hL : env.locals = L) (hl : env.kindOf x = some .local) (hv : m.lookup x = some α) (hd : (x == ("__debug__" : Str)) = false) (h : Q α ((L, .ns m) :: mu)) : WE C n ((L, .ns m) :: mu) env (.Name x pos) Q :=
  E_loc (i := 0) hk hl (by rw [hL]; rfl) hv hd h
theorem st_loc0 {x : Str} {L : Addr} {m : List (Str × AV)} {α : AV} {Q : Unit → Mu → Prop} (hk : env.scope.kind = .function) (hL : env.locals = L) (hl : env.kindOf x = some .local) (h : Q () ((L, .ns ((x, α) :: m)) :: mu)) : Wst C n α ((L, .ns m) :: mu) env x Q :=
  st_loc (i := 0) hk hl (by rw [hL]; rfl) (by rw [hL]; exact h)
theorem E_cell' {x : Str} {pos : Pos} {i : Nat} {c : Addr} {α : AV} (hk : env.scope.kind = .function) (hl : env.kindOf x = some .cell) (hi : mu[i]? = some (c, .cell (some α))) (hc : env.cells.lookup x = some c)
    (hd : (x == ("__debug__" : Str)) = false) (h : Q α mu) : WE C n mu env (.Name x pos) Q := E_cell hk hl hc hi hd h
theorem E_free' {x : Str} {pos : Pos} {i : Nat} {c : Addr} {α : AV} (hk : env.scope.kind = .function) (hl : env.kindOf x = some .free) (hi : mu[i]? = some (c, .cell (some α))) (hc : env.cells.lookup x = some c)
    (hd : (x == ("__debug__" : Str)) = false) (hn : (x == ("__classdict__" : Str)) = false) (h : Q α mu) : WE C n mu env (.Name x pos) Q := E_free hk hl hc hi hd hn h
theorem st_cell' {x : Str} {i : Nat} {c : Addr} {α : AV} {β : Option AV} {Q : Unit → Mu → Prop} (hk : env.scope.kind = .function) (hl : env.kindOf x = some .cell) (hi : mu[i]? = some (c, .cell β)) (hc : env.cells.lookup x = some c)
    (h : Q () (mu.set i (c, .cell (some α)))) : Wst C n α mu env x Q := st_cell hk hl hc hi h

theorem E_list_mut1 {es : List Expr} {pos : Pos} (h : WA C n mu env pos es fun xs mu1 => ∃ p m, mu1 = p :: m ∧ xs.length ≤ 1000 ∧ ∀ a, Q (.val (.ref a)) (p :: (a, .list xs) :: m)) : WE C n mu env (.List es pos) Q :=
  WT.post (Q₂ := fun α mu' => ∃ p m a xs, mu' = (a, .list xs) :: p :: m ∧ Q α (p :: (a, .list xs) :: m)) (E_list_mut (WT.mono h fun xs mu1 ⟨p, m, e, hz, hq⟩ => ⟨hz, fun a => ⟨p, m, a, xs, by rw [e], hq a⟩⟩))
    fun α mu' ⟨p, m, a, xs, e, hq⟩ => ⟨[], _, by rw [e]; exact List.Perm.swap .., hq⟩
theorem E_dict0S1 (K : C.Ok) {pos : Pos} {p : Addr × MO} (h : ∀ a, Q (.val (.ref a)) (p :: (a, .dictS []) :: mu)) : WE C n (p :: mu) env (.Dict [] [] pos) Q :=
  WT.post (Q₂ := fun α mu' => ∃ a, mu' = (a, .dictS []) :: p :: mu ∧ Q α (p :: (a, .dictS []) :: mu)) (E_dict0S K fun a => ⟨a, rfl, h a⟩) fun α mu' ⟨a, e, hq⟩ => ⟨[], _, by rw [e]; exact List.Perm.swap .., hq⟩
theorem E_dict0I1 (K : C.Ok) {pos : Pos} {p : Addr × MO} (h : ∀ a, Q (.val (.ref a)) (p :: (a, .dictI []) :: mu)) : WE C n (p :: mu) env (.Dict [] [] pos) Q :=
  WT.post (Q₂ := fun α mu' => ∃ a, mu' = (a, .dictI []) :: p :: mu ∧ Q α (p :: (a, .dictI []) :: mu)) (E_dict0I K fun a => ⟨a, rfl, h a⟩) fun α mu' ⟨a, e, hq⟩ => ⟨[], _, by rw [e]; exact List.Perm.swap .., hq⟩
theorem E_callX {f : Expr} {es : List Expr} {cpos : Pos}
    (he : eval (.Call f es [] cpos) env = (do callWith cpos (← eval f env) [] (backTo cpos (starEach es env)) (backToKw cpos (keywordEach [] env))))
    (hpl : (backTo cpos (starEach es env)).any (·.1) = false) (hne : ∀ v, evalArgs v true (backTo cpos (starEach es env)) [] = (do return ⟨← spliced (backTo cpos (starEach es env)), []⟩) ∨ ∃ x r, backTo cpos (starEach es env) = (false, x) :: r)
    (h : WE C n mu env f fun α mu1 => ∃ v, α = .val v ∧ Callable C v ∧ WA C n mu1 env cpos es fun αs mu2 => WL C n αs mu2 (fun vs => call v vs) Q) : WE C n mu env (.Call f es [] cpos) Q := fun A g s hA hH _ S => by
  refine Call_ (wpAny_mono (h A g s hA hH trivial S) (fun a s1 hh => ?_) fun _ _ e => e) he
  obtain ⟨g1, mu1, α, r1, e1, v, rfl, hc, q1⟩ := hh
  have hv : a = v := by cases r1; rfl
  subst hv
  have key : wpAny (model C.prog C.w) A (spliced (backTo cpos (starEach es env))) (fun vs s2 => C.H.In s2.heap ∧ wpAny (model C.prog C.w) A (call a ([] ++ vs)) (fun v s' => ∃ g' mu' α, Rep C.prog C.w g' v α ∧ Ends C.prog C.w g mu s g' mu' s' ∧ Q α mu') (fun _ _ => False) s2) (fun _ _ => False) s1 := by
    refine wpAny_mono (q1 A g1 s1 hA (hH.trans e1.le) trivial e1.st) (fun vs s2 ⟨g2, mu2, αs, r2, e2, q2⟩ => ⟨fun b o e => e2.st.sub b o (e2.le b o (e1.le b o (hH b o e))), ?_⟩) fun _ _ e => e
    exact comb (e1.trans e2) (q2 vs A g2 s2 hA (hH.trans (e1.le.trans e2.le)) r2 e2.st)
  refine callWith_of (P := C.H.In) (by rw [hpl]; rfl) hc ?_
  rcases hne a with he2 | ⟨x, r, hx⟩
  · rw [he2]
    exact wpAny_bind (wpAny_mono key (fun vs s2 hs => wpAny_pure hs) fun _ _ e => e)
  · rw [hx] at key ⊢
    exact Calls.evalArgs_plain key
end

theorem ift {p q : Prop} (h : p) : if (true : Bool) = true then p else q := h
theorem iff' {p q : Prop} (h : q) : if (false : Bool) = true then p else q := h
section
variable {C : Cx} {n : Nat} {mu : Mu} {Q : AV → Mu → Prop}
theorem k_lt {a b : Int} (h1 : a < b → Q (.bool true) mu) (h2 : ¬ a < b → Q (.bool false) mu) : W2 C n (.int a) (.int b) mu (compareOp .Lt) Q := c_lt (by by_cases h : a < b <;> simp only [h, decide_true, decide_false] <;> first | exact h1 h | exact h2 h)
theorem k_gt {a b : Int} (h1 : b < a → Q (.bool true) mu) (h2 : ¬ b < a → Q (.bool false) mu) : W2 C n (.int a) (.int b) mu (compareOp .Gt) Q := c_gt (by by_cases h : b < a <;> simp only [h, decide_true, decide_false] <;> first | exact h1 h | exact h2 h)
theorem k_le {a b : Int} (h1 : a ≤ b → Q (.bool true) mu) (h2 : ¬ a ≤ b → Q (.bool false) mu) : W2 C n (.int a) (.int b) mu (compareOp .LtE) Q := c_le (by by_cases h : a ≤ b <;> simp only [h, decide_true, decide_false] <;> first | exact h1 h | exact h2 h)
theorem k_eqi {a b : Int} (h1 : a = b → Q (.bool true) mu) (h2 : ¬ a = b → Q (.bool false) mu) : W2 C n (.int a) (.int b) mu (compareOp .Eq) Q := c_eq_int (by by_cases h : a = b; (rw [show (a == b) = true from beq_iff_eq.mpr h]; exact h1 h); (rw [show (a == b) = false from beq_eq_false_iff_ne.mpr h]; exact h2 h))
theorem k_nei {a b : Int} (h1 : a ≠ b → Q (.bool true) mu) (h2 : a = b → Q (.bool false) mu) : W2 C n (.int a) (.int b) mu (compareOp .NotEq) Q := c_ne_int (by by_cases h : a = b; (rw [show (a != b) = false from bne_eq_false_iff_eq.mpr h]; exact h2 h); (rw [show (a != b) = true from bne_iff_ne.mpr h]; exact h1 h))
theorem k_eqs {a b : Str} (h1 : a = b → Q (.bool true) mu) (h2 : ¬ a = b → Q (.bool false) mu) : W2 C n (.str a) (.str b) mu (compareOp .Eq) Q := c_eq_str (by by_cases h : a = b <;> simp only [h, decide_true, decide_false] <;> first | exact h1 h | exact h2 h)
theorem k_nes {a b : Str} (h1 : a ≠ b → Q (.bool true) mu) (h2 : a = b → Q (.bool false) mu) : W2 C n (.str a) (.str b) mu (compareOp .NotEq) Q := c_ne_str (by by_cases h : a = b; (rw [decide_eq_true h]; exact h2 h); (rw [decide_eq_false h]; exact h1 h))
end
def Only (J : Mu → Prop) : AF → Mu → Prop
  | .next, mu => J mu
  | _, _ => False
section
variable {C : Cx} {n : Nat} {mu : Mu} {env : Env}
theorem X_ifJ {t : Expr} {b o : List Stmt} {pos : Pos} {Q : AF → Mu → Prop} (J : Mu → Prop) (h : WB C n mu env t fun c mu1 => if c then WS C n mu1 env b (Only J) else WS C n mu1 env o (Only J)) (k : ∀ mu', J mu' → Q .next mu') : WX C n mu env (.If t b o pos) Q := by
  have key : ∀ φ mu', Only J φ mu' → Q φ mu' := fun φ mu' hj => by
    cases φ with
    | next => exact k mu' hj
    | brk => exact hj.elim
    | cont => exact hj.elim
    | ret α => exact hj.elim
  refine X_if (WT.mono h fun c mu1 hc => ?_)
  cases c with
  | true => exact WT.mono (show WS C n mu1 env b (Only J) from hc) key
  | false => exact WT.mono (show WS C n mu1 env o (Only J) from hc) key
theorem S_end {J : Mu → Prop} (h : J mu) : WS C n mu env [] (Only J) := S_nil h
theorem L_end {P : Mu → Prop} {Q : AF → Mu → Prop} (h : P mu) : WS C n mu env [] (LoopK P Q) := S_nil h
end
/-! the data -/
structure LS where
  req : Int
  feats : List Nat
structure Ft where
  tag : Str
  lks : List Nat
structure Sc where
  tag : Str
  dflt : Option LS
  langs : List (Str × LS)
structure Ly where
  scripts : List (Str × Sc)
  features : List Ft
  nl : Nat

structure Ad where
  cL : Addr
  cS : Addr
  cF : Addr
  cY : Addr
  iL : Addr
  iS : Addr
  iF : Addr
  iY : Addr
  told : Addr
  f2 : Addr
  f3 : Addr
  f4 : Addr
  f5 : Addr
  f6 : Addr
  f7 : Addr
  f8 : Addr
  f9 : Addr
  f16 : Addr
  f17 : Addr
  f18 : Addr
  f19 : Addr
  f20 : Addr
  f21 : Addr
  f22 : Addr
  f23 : Addr
  f24 : Addr
abbrev avL (a : Ad) (s : LS) : AV := .obj a.cL [("required", .int s.req), ("features", .list (natsA s.feats))]
abbrev avF (a : Ad) (f : Ft) : AV := .obj a.cF [("tag", .str f.tag), ("lookups", .list (natsA f.lks))]
@[reducible] def avO {α : Type} (f : α → AV) : Option α → AV
  | none => .none
  | some x => f x
abbrev avS (a : Ad) (s : Sc) : AV := .obj a.cS [("tag", .str s.tag), ("default", avO (avL a) s.dflt), ("languages", .dict (s.langs.map fun p => (p.1, avL a p.2)))]
abbrev avY (a : Ad) (l : Ly) : AV := .obj a.cY [("scripts", .dict (l.scripts.map fun p => (p.1, avS a p.2))), ("features", .list (l.features.map (avF a))), ("lookups", .list (List.replicate l.nl .none))]

structure At (C : Cx) (a : Ad) : Prop where
  l1 : AttrOk C a.cL "required"
  l2 : AttrOk C a.cL "features"
  s1 : AttrOk C a.cS "tag"
  s2 : AttrOk C a.cS "default"
  s3 : AttrOk C a.cS "languages"
  f1 : AttrOk C a.cF "tag"
  f2 : AttrOk C a.cF "lookups"
  y1 : AttrOk C a.cY "scripts"
  y2 : AttrOk C a.cY "features"
  y3 : AttrOk C a.cY "lookups"
structure Bs (C : Cx) : Prop where
  len : Blt C "len" (.builtin "len")
  sorted : Blt C "sorted" (.builtin "sorted")
  abs : Blt C "abs" (.builtin "abs")
  int : Blt C "int" (.type "int")
  range : Blt C "range" (.type "range")
  list : Blt C "list" (.type "list")
  tuple : Blt C "tuple" (.type "tuple")
  set : Blt C "set" (.type "set")
  dict : Blt C "dict" (.type "dict")
structure Pr (C : Cx) (a : Ad) : Prop where
  K : C.Ok
  B : Bs C
  A : At C a
  info : GlobI C "ALL_INFOS" 1
  g2 : Glob C "feature_at" (.ref a.f2)
  F2 : FnAt C a.f2 ["layout", "number"] (fB 2) (fS 2) []
  g3 : Glob C "required_feature" (.ref a.f3)
  F3 : FnAt C a.f3 ["layout", "langsys"] (fB 3) (fS 3) []
  g4 : Glob C "feature_indexes" (.ref a.f4)
  F4 : FnAt C a.f4 ["layout", "langsys", "tag"] (fB 4) (fS 4) []
  g5 : Glob C "offered_tags" (.ref a.f5)
  F5 : FnAt C a.f5 ["layout", "langsys"] (fB 5) (fS 5) []
  g6 : Glob C "add_lookups" (.ref a.f6)
  F6 : FnAt C a.f6 ["masks", "layout", "feature", "mask"] (fB 6) (fS 6) []
  g7 : Glob C "gather" (.ref a.f7)
  F7 : FnAt C a.f7 ["layout", "langsys", "wishes", "is_required"] (fB 7) (fS 7) [(.bool true)]
  g8 : Glob C "all_langsys" (.ref a.f8)
  F8 : FnAt C a.f8 ["layout"] (fB 8) (fS 8) []
  g9 : Glob C "asked_lookups" (.ref a.f9)
  F9 : FnAt C a.f9 ["layout"] (fB 9) (fS 9) []
  g16 : Glob C "_law_pen" (.ref a.f16)
  F16 : FnAt C a.f16 ["script"] (fB 16) (fS 16) []
  g17 : Glob C "_law_draw" (.ref a.f17)
  F17 : FnAt C a.f17 ["pen", "many"] (fB 17) (fS 17) []
  g18 : Glob C "_law_pick" (.ref a.f18)
  F18 : FnAt C a.f18 ["pen", "some"] (fB 18) (fS 18) []
  g19 : Glob C "_law_numbers" (.ref a.f19)
  F19 : FnAt C a.f19 ["pen", "most"] (fB 19) (fS 19) []
  g20 : Glob C "_law_langsys" (.ref a.f20)
  F20 : FnAt C a.f20 ["pen"] (fB 20) (fS 20) []
  g21 : Glob C "_law_layout" (.ref a.f21)
  F21 : FnAt C a.f21 ["pen"] (fB 21) (fS 21) []
  g22 : Glob C "_law_gathered" (.ref a.f22)
  F22 : FnAt C a.f22 ["layout", "rows"] (fB 22) (fS 22) []
  g23 : Glob C "_law_rows_hold" (.ref a.f23)
  F23 : FnAt C a.f23 ["layout"] (fB 23) (fS 23) []
  gcL : Glob C "LangSys" (.ref a.cL)
  kcL : Callable C (.ref a.cL)
  mcL : MkOk C a.cL a.iL
  FiL : FnAt C a.iL ["self", "required", "features"] (mB 11 0) (mS 11 0) []
  scL0 : SetOk C a.cL "required"
  scL1 : SetOk C a.cL "features"
  gcS : Glob C "Script" (.ref a.cS)
  kcS : Callable C (.ref a.cS)
  mcS : MkOk C a.cS a.iS
  FiS : FnAt C a.iS ["self", "tag", "default", "languages"] (mB 12 0) (mS 12 0) []
  scS0 : SetOk C a.cS "tag"
  scS1 : SetOk C a.cS "default"
  scS2 : SetOk C a.cS "languages"
  gcF : Glob C "Feature" (.ref a.cF)
  kcF : Callable C (.ref a.cF)
  mcF : MkOk C a.cF a.iF
  FiF : FnAt C a.iF ["self", "tag", "lookups"] (mB 13 0) (mS 13 0) []
  scF0 : SetOk C a.cF "tag"
  scF1 : SetOk C a.cF "lookups"
  gcY : Glob C "Layout" (.ref a.cY)
  kcY : Callable C (.ref a.cY)
  mcY : MkOk C a.cY a.iY
  FiY : FnAt C a.iY ["self", "scripts", "features", "lookups"] (mB 14 0) (mS 14 0) []
  scY0 : SetOk C a.cY "scripts"
  scY1 : SetOk C a.cY "features"
  scY2 : SetOk C a.cY "lookups"
  mt : MethOk C a.cL "told" a.told
  Ft : FnAt C a.told ["self"] (mB 11 1) (mS 11 1) []
end Mine
end
local macro_rules
  | `(tactic| kt_ktab) => `(tactic| (first
  | (with_reducible refine Mine.ift ?_) | (with_reducible refine Mine.iff' ?_)
  | (first
  | ((with_reducible apply Mine.E_loc0); rfl; rfl; kernel_rfl!; (repeat (first | (with_reducible exact Mine.lk_here) | (with_reducible assumption) | (apply Mine.lk_next; decide +kernel))); decide +kernel)
  | ((with_reducible refine Mine.E_globH (by with_reducible assumption) (by with_reducible assumption) ?_ ?_ ?_ ?_ ?_); rfl; kernel_rfl!; rfl; decide +kernel)
  | ((with_reducible refine Mine.E_bltH (by with_reducible assumption) (by with_reducible assumption) ?_ ?_ ?_ ?_ ?_ ?_); rfl; kernel_rfl!; rfl; rfl; decide +kernel)
  | ((with_reducible apply Mine.E_cell' (i := 1)); rfl; kernel_rfl!; rfl; kernel_rfl!; decide +kernel)
  | ((with_reducible apply Mine.E_cell' (i := 2)); rfl; kernel_rfl!; rfl; kernel_rfl!; decide +kernel)
  | ((with_reducible apply Mine.E_cell' (i := 3)); rfl; kernel_rfl!; rfl; kernel_rfl!; decide +kernel)
  | ((with_reducible apply Mine.E_cell' (i := 4)); rfl; kernel_rfl!; rfl; kernel_rfl!; decide +kernel)
  | ((with_reducible apply Mine.E_cell' (i := 5)); rfl; kernel_rfl!; rfl; kernel_rfl!; decide +kernel)
  | ((with_reducible apply Mine.E_cell' (i := 6)); rfl; kernel_rfl!; rfl; kernel_rfl!; decide +kernel)
  | ((with_reducible apply Mine.E_free' (i := 1)); rfl; kernel_rfl!; rfl; kernel_rfl!; decide +kernel; decide +kernel)
  | ((with_reducible apply Mine.E_free' (i := 2)); rfl; kernel_rfl!; rfl; kernel_rfl!; decide +kernel; decide +kernel)
  | ((with_reducible apply Mine.E_free' (i := 3)); rfl; kernel_rfl!; rfl; kernel_rfl!; decide +kernel; decide +kernel)
  | ((with_reducible apply Mine.E_free' (i := 4)); rfl; kernel_rfl!; rfl; kernel_rfl!; decide +kernel; decide +kernel)
  | ((with_reducible refine Mine.E_globI (by with_reducible assumption) (by with_reducible assumption) ?_ ?_ ?_ ?_ ?_); rfl; kernel_rfl!; rfl; decide +kernel))
  | (with_reducible refine Mine.E_int ?_) | (with_reducible refine Mine.E_str ?_) | (with_reducible refine Mine.E_bool ?_) | (with_reducible refine Mine.E_none ?_)
  | ((with_reducible refine Mine.E_attr ?h1 ?_); (case h1 => rfl)) | ((with_reducible apply Mine.g_attr (by with_reducible assumption)); (repeat (first | (with_reducible exact Mine.lk_here) | (with_reducible assumption) | (apply Mine.lk_next; decide +kernel))); rfl) | ((with_reducible refine Mine.E_callX ?h1 ?h2 ?h3 ?_); (case h1 => rfl); (case h2 => rfl); (case h3 => first | exact fun _ => .inl rfl | exact fun _ => .inr ⟨_, _, rfl⟩)) | (refine ⟨_, (by with_reducible rfl), (by first | exact Mine.callable_builtin | exact Mine.callable_type | exact Mine.FnAt.keep (by with_reducible assumption) | (with_reducible assumption)), ?_⟩) | (first | ((with_reducible refine Mine.A_cons ?h1 ?_); (case h1 => rfl)) | (with_reducible refine Mine.A_nil ?_))
  | (with_reducible refine Mine.E_bin ?_) | ((with_reducible refine Mine.E_cmp ?h1 ?_); (case h1 => rfl)) | (with_reducible refine Mine.E_sub ?_) | (with_reducible refine Mine.E_if ?_)
  | ((with_reducible refine Mine.B_cmp ?h1 ?_); (case h1 => rfl)) | ((with_reducible refine Mine.B_chain2 ?h1 ?_); (case h1 => rfl)) | (with_reducible refine Mine.B_not ?_) | (with_reducible refine Mine.B_and2 ?_)
  | (with_reducible refine Mine.t_bool ?_)
  | (with_reducible refine Mine.E_tuple ?_)
  | (with_reducible refine ⟨(by simp only [List.length_cons, List.length_nil]; decide), ?_⟩)
  | (first
  | with_reducible refine Mine.b_add ?_ | with_reducible refine Mine.b_sub ?_ | with_reducible refine Mine.b_or ?_
  | with_reducible refine Mine.c_is_none_none ?_ | with_reducible refine Mine.c_isnot_none_none ?_ | with_reducible refine Mine.c_is_none_obj ?_ | with_reducible refine Mine.c_isnot_none_obj ?_)
  | ((with_reducible apply Mine.B_plain); (exact fun _ => rfl))))
section
open PySem PySem.W PyProof.Rows PySem.SeqAt PySem.Spec
set_option maxHeartbeats 4000000
namespace Mine
section
variable {C : Cx} {n : Nat} {mu : Mu} {Q : AV → Mu → Prop}

def feat? (l : Ly) (k : Int) : Option Ft := if 0 ≤ k ∧ k < l.features.length then l.features[k.toNat]? else none

theorem ct_feature_at {a : Ad} (P : Pr C a) {l : Ly} {k : Int} (hz : l.features.length ≤ 100) (h : Q (avO (avF a) (feat? l k)) mu) : CL C (n + 1) [avY a l, .int k] mu (.ref a.f2) Q := by
  (have K := P.K; obtain ⟨l1, l2, s1, s2, s3, f1, f2, y1, y2, y3⟩ := P.A; obtain ⟨len, sorted, abs, int, range, list, tuple, set, dict⟩ := P.B; have g2 := P.g2; have F2 := P.F2; have g3 := P.g3; have F3 := P.F3; have g4 := P.g4; have F4 := P.F4; have g5 := P.g5; have F5 := P.F5; have g6 := P.g6; have F6 := P.F6; have g7 := P.g7; have F7 := P.F7; have g8 := P.g8; have F8 := P.F8; have g9 := P.g9; have F9 := P.F9; have g16 := P.g16; have F16 := P.F16; have g17 := P.g17; have F17 := P.F17; have g18 := P.g18; have F18 := P.F18; have g19 := P.g19; have F19 := P.F19; have g20 := P.g20; have F20 := P.F20; have g21 := P.g21; have F21 := P.F21; have g22 := P.g22; have F22 := P.F22; have g23 := P.g23; have F23 := P.F23; have gcL := P.gcL; have kcL := P.kcL; have FiL := P.FiL; have gcS := P.gcS; have kcS := P.kcS; have FiS := P.FiS; have gcF := P.gcF; have kcF := P.kcF; have FiF := P.FiF; have gcY := P.gcY; have kcY := P.kcY; have FiY := P.FiY; have info := P.info; have Ftl := P.Ft; have mt := P.mt)
  refine call_fnC K F2 (dα := []) (m0 := [("number", .int k), ("layout", avY a l)]) (ce := fun _ => []) (fun _ => .nil) rfl rfl rfl rfl (fun _ => by kernel_rfl!) (fun _ => by kernel_rfl!) (by kernel_rfl!) (fun _ => by kernel_rfl!) fun L q cd => ?_
  (refine S_cons (X_if ?_))
  (repeat kt_ktab)
  refine k_le (fun h0 => ?_) (fun h0 => ?_)
  · (repeat kt_ktab)
    refine l_len (by simp; omega) ?_
    refine k_lt (fun h1 => ?_) (fun h1 => ?_)
    · (repeat kt_ktab)
      (refine S_cons (X_ret ?_))
      (repeat kt_ktab)
      rw [List.length_map] at h1
      have hx : ((l.features.map (avF a)))[k.toNat]? = some (avF a (l.features[k.toNat]'(by omega))) := by
        rw [List.getElem?_map, List.getElem?_eq_getElem (by omega)]; rfl
      refine s_list h0 (by omega) hx (fun _ _ => rfl) ?_
      refine ⟨[(L, _)], mu, .refl _, ?_⟩
      have e : feat? l k = some (l.features[k.toNat]'(by omega)) := by unfold feat?; rw [if_pos ⟨h0, h1⟩, List.getElem?_eq_getElem (by omega)]
      rw [e] at h
      exact h
    · (repeat kt_ktab)
      refine S_nil ?_
      (refine S_cons (X_ret ?_))
      (repeat kt_ktab)
      refine ⟨[(L, _)], mu, .refl _, ?_⟩
      rw [List.length_map] at h1
      have e : feat? l k = none := by unfold feat?; rw [if_neg (fun q => h1 q.2)]
      rw [e] at h
      exact h
  · (repeat kt_ktab)
    refine S_nil ?_
    (refine S_cons (X_ret ?_))
    (repeat kt_ktab)
    refine ⟨[(L, _)], mu, .refl _, ?_⟩
    have e : feat? l k = none := by unfold feat?; rw [if_neg (fun q => h0 q.1)]
    rw [e] at h
    exact h

def req? (l : Ly) (s : LS) : Option Ft := feat? l s.req
theorem ct_required_feature {a : Ad} (P : Pr C a) {l : Ly} {s : LS} (hz : l.features.length ≤ 100) (h : Q (avO (avF a) (req? l s)) mu) : CL C (n + 2) [avY a l, avL a s] mu (.ref a.f3) Q := by
  (have K := P.K; obtain ⟨l1, l2, s1, s2, s3, f1, f2, y1, y2, y3⟩ := P.A; obtain ⟨len, sorted, abs, int, range, list, tuple, set, dict⟩ := P.B; have g2 := P.g2; have F2 := P.F2; have g3 := P.g3; have F3 := P.F3; have g4 := P.g4; have F4 := P.F4; have g5 := P.g5; have F5 := P.F5; have g6 := P.g6; have F6 := P.F6; have g7 := P.g7; have F7 := P.F7; have g8 := P.g8; have F8 := P.F8; have g9 := P.g9; have F9 := P.F9; have g16 := P.g16; have F16 := P.F16; have g17 := P.g17; have F17 := P.F17; have g18 := P.g18; have F18 := P.F18; have g19 := P.g19; have F19 := P.F19; have g20 := P.g20; have F20 := P.F20; have g21 := P.g21; have F21 := P.F21; have g22 := P.g22; have F22 := P.F22; have g23 := P.g23; have F23 := P.F23; have gcL := P.gcL; have kcL := P.kcL; have FiL := P.FiL; have gcS := P.gcS; have kcS := P.kcS; have FiS := P.FiS; have gcF := P.gcF; have kcF := P.kcF; have FiF := P.FiF; have gcY := P.gcY; have kcY := P.kcY; have FiY := P.FiY; have info := P.info; have Ftl := P.Ft; have mt := P.mt)
  refine call_fnC K F3 (dα := []) (m0 := [("langsys", avL a s), ("layout", avY a l)]) (ce := fun _ => []) (fun _ => .nil) rfl rfl rfl rfl (fun _ => by kernel_rfl!) (fun _ => by kernel_rfl!) (by kernel_rfl!) (fun _ => by kernel_rfl!) fun L q cd => ?_
  (refine S_cons (X_if ?_))
  (repeat kt_ktab)
  refine S_nil ?_
  (refine S_cons (X_ret ?_))
  (repeat kt_ktab)
  refine (ct_feature_at P hz ?_).call
  exact ⟨[(L, _)], mu, .refl _, h⟩
end
end Mine
end
section
open PySem PySem.W PyProof.Rows PySem.SeqAt PySem.Spec
set_option maxHeartbeats 4000000
namespace Mine
section
variable {C : Cx} {n : Nat} {mu : Mu} {Q : AV → Mu → Prop}

theorem natsA_at {l : List Nat} {i : Nat} {x : AV} (h : (natsA l)[i]? = some x) : ∃ k, l[i]? = some k ∧ x = .int (k : Int) := by
  unfold natsA at h
  rw [List.getElem?_map] at h
  obtain ⟨k, h1, h2⟩ := Option.map_eq_some_iff.mp h
  exact ⟨k, h1, h2.symm⟩
theorem natsA_snoc (l : List Nat) (k : Nat) : natsA (l ++ [k]) = natsA l ++ [.int (k : Int)] := by simp [natsA]
theorem natsA_len (l : List Nat) : (natsA l).length = l.length := by simp [natsA]
theorem take_succ' {α : Type} {l : List α} {i : Nat} {k : α} (h : l[i]? = some k) : l.take (i + 1) = l.take i ++ [k] := by
  obtain ⟨hi, rfl⟩ := List.getElem?_eq_some_iff.mp h
  simp

def hasTag (l : Ly) (t : Str) (k : Nat) : Bool := (feat? l (k : Int)).any fun f => decide (f.tag = t)
def fIdx (l : Ly) (s : LS) (t : Str) : List Nat := s.feats.filter (hasTag l t)

theorem ct_feature_indexes {a : Ad} (P : Pr C a) {l : Ly} {s : LS} {t : Str} (hz : l.features.length ≤ 100) (hs : s.feats.length ≤ 100) (h : Q (.list (natsA (fIdx l s t))) mu) :
    CL C (n + 2) [avY a l, avL a s, .str t] mu (.ref a.f4) Q := by
  (have K := P.K; obtain ⟨l1, l2, s1, s2, s3, f1, f2, y1, y2, y3⟩ := P.A; obtain ⟨len, sorted, abs, int, range, list, tuple, set, dict⟩ := P.B; have g2 := P.g2; have F2 := P.F2; have g3 := P.g3; have F3 := P.F3; have g4 := P.g4; have F4 := P.F4; have g5 := P.g5; have F5 := P.F5; have g6 := P.g6; have F6 := P.F6; have g7 := P.g7; have F7 := P.F7; have g8 := P.g8; have F8 := P.F8; have g9 := P.g9; have F9 := P.F9; have g16 := P.g16; have F16 := P.F16; have g17 := P.g17; have F17 := P.F17; have g18 := P.g18; have F18 := P.F18; have g19 := P.g19; have F19 := P.F19; have g20 := P.g20; have F20 := P.F20; have g21 := P.g21; have F21 := P.F21; have g22 := P.g22; have F22 := P.F22; have g23 := P.g23; have F23 := P.F23; have gcL := P.gcL; have kcL := P.kcL; have FiL := P.FiL; have gcS := P.gcS; have kcS := P.kcS; have FiS := P.FiS; have gcF := P.gcF; have kcF := P.kcF; have FiF := P.FiF; have gcY := P.gcY; have kcY := P.kcY; have FiY := P.FiY; have info := P.info; have Ftl := P.Ft; have mt := P.mt)
  refine call_fnC K F4 (dα := []) (m0 := [("tag", .str t), ("langsys", avL a s), ("layout", avY a l)]) (ce := fun _ => []) (fun _ => .nil) rfl rfl rfl rfl (fun _ => by kernel_rfl!) (fun _ => by kernel_rfl!) (by kernel_rfl!) (fun _ => by kernel_rfl!) fun L q cd => ?_
  (refine S_cons (X_assign rfl ?_))
  refine E_list_mut1 ?_
  kt_ktab
  refine ⟨_, _, rfl, Nat.zero_le _, fun D => ?_⟩
  (first
  | ((with_reducible apply st_loc0); rfl; rfl; kernel_rfl!)
  | ((with_reducible apply st_cell' (i := 1)); rfl; kernel_rfl!; rfl; kernel_rfl!)
  | ((with_reducible apply st_cell' (i := 2)); rfl; kernel_rfl!; rfl; kernel_rfl!)
  | ((with_reducible apply st_cell' (i := 3)); rfl; kernel_rfl!; rfl; kernel_rfl!))
  (refine S_cons (X_if ?_))
  (repeat kt_ktab)
  refine S_cons (X_for (fun i mu' => ∃ m, mu' = (L, .ns m) :: (D, .list (natsA ((s.feats.take i).filter (hasTag l t)))) :: mu ∧ Has m "layout" (avY a l) ∧ Has m "tag" (.str t) ∧ Has m "found" (.val (.ref D))) (fun _ => rfl) ?_)
  (repeat kt_ktab)
  refine ⟨natsA s.feats, iter_list, ⟨_, rfl, by (repeat (first | (with_reducible exact lk_here) | (with_reducible assumption) | (apply lk_next; decide +kernel))), by (repeat (first | (with_reducible exact lk_here) | (with_reducible assumption) | (apply lk_next; decide +kernel))), by (repeat (first | (with_reducible exact lk_here) | (with_reducible assumption) | (apply lk_next; decide +kernel)))⟩, ?_, ?_⟩
  · rintro i x mu' hx ⟨m, rfl, m1, m2, m3⟩
    obtain ⟨k, hk, rfl⟩ := natsA_at hx
    refine as_name ?_
    (first
  | ((with_reducible apply st_loc0); rfl; rfl; kernel_rfl!)
  | ((with_reducible apply st_cell' (i := 1)); rfl; kernel_rfl!; rfl; kernel_rfl!)
  | ((with_reducible apply st_cell' (i := 2)); rfl; kernel_rfl!; rfl; kernel_rfl!)
  | ((with_reducible apply st_cell' (i := 3)); rfl; kernel_rfl!; rfl; kernel_rfl!))
    (refine S_cons (X_assign rfl ?_))
    (repeat kt_ktab)
    refine (ct_feature_at P hz ?_).call
    have hstep : ∀ b, hasTag l t k = b → (s.feats.take (i + 1)).filter (hasTag l t) = (s.feats.take i).filter (hasTag l t) ++ (if b then [k] else []) := fun b hb => by
      rw [take_succ' hk, List.filter_append]; congr 1
      subst hb
      rw [List.filter_cons]; rfl
    have hF : hasTag l t k = false → (s.feats.take (i + 1)).filter (hasTag l t) = (s.feats.take i).filter (hasTag l t) := fun hb => by rw [hstep _ hb]; simp
    have hT : hasTag l t k = true → (s.feats.take (i + 1)).filter (hasTag l t) = (s.feats.take i).filter (hasTag l t) ++ [k] := fun hb => by rw [hstep _ hb]; simp
    cases hf : feat? l (k : Int) with
    | none =>
      have ht : hasTag l t k = false := by unfold hasTag; rw [hf]; rfl
      (first
  | ((with_reducible apply st_loc0); rfl; rfl; kernel_rfl!)
  | ((with_reducible apply st_cell' (i := 1)); rfl; kernel_rfl!; rfl; kernel_rfl!)
  | ((with_reducible apply st_cell' (i := 2)); rfl; kernel_rfl!; rfl; kernel_rfl!)
  | ((with_reducible apply st_cell' (i := 3)); rfl; kernel_rfl!; rfl; kernel_rfl!))
      (refine S_cons (X_if ?_))
      (repeat kt_ktab)
      refine S_nil ?_
      refine S_nil ?_
      refine ⟨_, by rw [hF ht], by (repeat (first | (with_reducible exact lk_here) | (with_reducible assumption) | (apply lk_next; decide +kernel))), by (repeat (first | (with_reducible exact lk_here) | (with_reducible assumption) | (apply lk_next; decide +kernel))), by (repeat (first | (with_reducible exact lk_here) | (with_reducible assumption) | (apply lk_next; decide +kernel)))⟩
    | some f =>
      (first
  | ((with_reducible apply st_loc0); rfl; rfl; kernel_rfl!)
  | ((with_reducible apply st_cell' (i := 1)); rfl; kernel_rfl!; rfl; kernel_rfl!)
  | ((with_reducible apply st_cell' (i := 2)); rfl; kernel_rfl!; rfl; kernel_rfl!)
  | ((with_reducible apply st_cell' (i := 3)); rfl; kernel_rfl!; rfl; kernel_rfl!))
      (refine S_cons (X_if ?_))
      (repeat kt_ktab)
      refine k_eqs (fun he => ?_) (fun he => ?_)
      · (repeat kt_ktab)
        have ht : hasTag l t k = true := by unfold hasTag; rw [hf]; simpa using he
        (refine S_cons (X_expr (by kernel_rfl!) rfl ?_))
        ((with_reducible apply E_meth); rfl; rfl; rfl)
        (repeat kt_ktab)
        refine ⟨getm_list (i := 1) PySem.F.slot_list_append rfl rfl, ?_⟩
        (repeat kt_ktab)
        refine l_append (i := 1) rfl ?_ ?_
        · rw [natsA_len]; have := List.length_filter_le (hasTag l t) (s.feats.take i); have := List.length_take_le' i s.feats; omega
        refine ⟨rfl, ?_⟩
        (simp only [List.set_cons_zero, List.set_cons_succ])
        refine S_nil ?_
        refine S_nil ?_
        refine ⟨_, by rw [hT ht, natsA_snoc], by (repeat (first | (with_reducible exact lk_here) | (with_reducible assumption) | (apply lk_next; decide +kernel))), by (repeat (first | (with_reducible exact lk_here) | (with_reducible assumption) | (apply lk_next; decide +kernel))), by (repeat (first | (with_reducible exact lk_here) | (with_reducible assumption) | (apply lk_next; decide +kernel)))⟩
      · (repeat kt_ktab)
        have ht : hasTag l t k = false := by unfold hasTag; rw [hf]; simpa using he
        refine S_nil ?_
        refine S_nil ?_
        refine ⟨_, by rw [hF ht], by (repeat (first | (with_reducible exact lk_here) | (with_reducible assumption) | (apply lk_next; decide +kernel))), by (repeat (first | (with_reducible exact lk_here) | (with_reducible assumption) | (apply lk_next; decide +kernel))), by (repeat (first | (with_reducible exact lk_here) | (with_reducible assumption) | (apply lk_next; decide +kernel)))⟩
  · rintro mu' ⟨m, rfl, m1, m2, m3⟩
    rw [natsA_len, List.take_length]
    refine S_nil ?_
    refine WT.frzNs (x := "found") (a := D) (L := L) (m := m) (mu1 := (L, .ns m) :: mu) (i := 0) mono_true (.inl ⟨_, rfl, rfl⟩) (List.Perm.swap ..) rfl m3 ?_
    (simp only [List.set_cons_zero, List.set_cons_succ])
    (refine S_cons (X_ret ?_))
    (repeat kt_ktab)
    exact ⟨[(L, _)], mu, .refl _, h⟩
end
end Mine
end
section
open PySem PySem.W PyProof.Rows PySem.SeqAt PySem.Spec
set_option maxHeartbeats 4000000
namespace Mine

theorem ofPDs_strs (ss : List Str) : ofPDs (ss.map PyData.str) = strsA ss := by rw [ofPDs_map]; simp [strsA, ofPD]
theorem ofPDs_nats (ks : List Nat) : ofPDs (ks.map fun k : Nat => PyData.int (k : Int)) = natsA ks := by rw [ofPDs_map]; simp [natsA, ofPD]
theorem any_strs (t : Str) (ss : List Str) : ((ss.map PyData.str).any fun y => PyData.eqv y (.str t)) = decide (t ∈ ss) := by
  induction ss with
  | nil => rfl
  | cons x r ih =>
    rw [List.map_cons, List.any_cons, ih]
    show ((x == t) || decide (t ∈ r)) = _
    by_cases h : x = t
    · subst h; simp
    · have h' : ¬ t = x := fun e => h e.symm
      simp [h, h']
theorem any_nats (k : Nat) (ks : List Nat) : ((ks.map fun k : Nat => PyData.int (k : Int)).any fun y => PyData.eqv y (.int (k : Int))) = decide (k ∈ ks) := by
  induction ks with
  | nil => rfl
  | cons x r ih =>
    rw [List.map_cons, List.any_cons, ih]
    show (((x : Int) == (k : Int)) || decide (k ∈ r)) = _
    by_cases h : x = k
    · subst h; simp
    · have h' : ¬ k = x := fun e => h e.symm
      have h2 : ((x : Int) == (k : Int)) = false := beq_eq_false_iff_ne.mpr (by omega)
      simp [h', h2]
theorem lay_strs : ∀ {ss : List Str}, (∀ t ∈ ss, PyData.strOk t = true) → PyData.canLayAll0 (ss.map PyData.str) = true
  | [], _ => rfl
  | t :: r, h => by
    simp only [List.map_cons, PyData.canLayAll0, PyData.canLay0]
    rw [h t (List.mem_cons_self ..), lay_strs fun x hx => h x (.tail _ hx)]; rfl
theorem lay_nats : ∀ {ks : List Nat}, PyData.canLayAll0 (ks.map fun k : Nat => PyData.int (k : Int)) = true
  | [] => rfl
  | t :: r => lay_nats (ks := r)

section
variable {C : Cx} {n : Nat} {mu : Mu} {Q : AV → Mu → Prop}
theorem k_notin_strs {t : Str} {ss : List Str} {i : Nat} {a : Addr} (hi : mu[i]? = some (a, .list (strsA ss))) (ht : PyData.strOk t = true) (hs : ∀ t ∈ ss, PyData.strOk t = true) (h1 : t ∉ ss → Q (.bool true) mu) (h2 : t ∈ ss → Q (.bool false) mu) :
    W2 C n (.str t) (.val (.ref a)) mu (compareOp .NotIn) Q := by
  refine c_notin_mut (d := .str t) (ds := ss.map PyData.str) rfl (ofPDs_strs ss).symm hi (by simp [shaped, PyData.canLay0, ht, PyData.depth]) (lay_strs hs) (Nat.zero_le _) ?_
  rw [any_strs]
  by_cases h : t ∈ ss
  · rw [decide_eq_true h]; exact h2 h
  · rw [decide_eq_false h]; exact h1 h
theorem k_notin_nats {k : Nat} {ks : List Nat} {i : Nat} {a : Addr} (hi : mu[i]? = some (a, .list (natsA ks))) (h1 : k ∉ ks → Q (.bool true) mu) (h2 : k ∈ ks → Q (.bool false) mu) :
    W2 C n (.int (k : Int)) (.val (.ref a)) mu (compareOp .NotIn) Q := by
  refine c_notin_mut (d := .int (k : Int)) (ds := ks.map fun k : Nat => PyData.int (k : Int)) rfl (ofPDs_nats ks).symm hi rfl lay_nats (Nat.zero_le _) ?_
  rw [any_nats]
  by_cases h : k ∈ ks
  · rw [decide_eq_true h]; exact h2 h
  · rw [decide_eq_false h]; exact h1 h
theorem k_in_nats {k : Nat} {ks : List Nat} (h1 : k ∈ ks → Q (.bool true) mu) (h2 : k ∉ ks → Q (.bool false) mu) : W2 C n (.int (k : Int)) (.list (natsA ks)) mu (compareOp .In) Q := by
  refine c_in_list (d := .int (k : Int)) (ds := ks.map fun k : Nat => PyData.int (k : Int)) rfl (by show _ = AV.list (ofPDs _); rw [ofPDs_nats]) rfl lay_nats (Nat.zero_le _) ?_
  rw [any_nats]
  by_cases h : k ∈ ks
  · rw [decide_eq_true h]; exact h1 h
  · rw [decide_eq_false h]; exact h2 h
end

/-! the tags on offer -/
def offStep (l : Ly) (acc : List Str) (k : Nat) : List Str := match feat? l (k : Int) with
  | some f => if f.tag ∈ acc then acc else acc ++ [f.tag]
  | none => acc
def offL (l : Ly) (ks : List Nat) : List Str := ks.foldl (offStep l) []
def offT (l : Ly) (s : LS) : List Str := sortS (offL l s.feats)
theorem foldl_take_succ {α β : Type} (f : β → α → β) (b : β) {l : List α} {i : Nat} {k : α} (h : l[i]? = some k) : (l.take (i + 1)).foldl f b = f ((l.take i).foldl f b) k := by
  rw [take_succ' h, List.foldl_append]; rfl
theorem feat_mem {l : Ly} {k : Int} {f : Ft} (h : feat? l k = some f) : f ∈ l.features := by
  unfold feat? at h
  split at h
  · exact List.mem_of_getElem? h
  · cases h
theorem offL_ok (l : Ly) (ht : ∀ f ∈ l.features, PyData.strOk f.tag = true) : ∀ (ks : List Nat) (acc : List Str), (∀ t ∈ acc, PyData.strOk t = true) → ∀ t ∈ ks.foldl (offStep l) acc, PyData.strOk t = true
  | [], acc, h => h
  | k :: ks, acc, h => offL_ok l ht ks _ (by
      unfold offStep
      cases hf : feat? l (k : Int) with
      | none => exact h
      | some f =>
        dsimp only
        split
        · exact h
        · intro t hm
          rcases List.mem_append.mp hm with hm | hm
          · exact h t hm
          · rw [List.mem_singleton.mp hm]; exact ht f (feat_mem hf))
theorem offL_len (l : Ly) : ∀ (ks : List Nat) (acc : List Str), (ks.foldl (offStep l) acc).length ≤ acc.length + ks.length
  | [], acc => by simp
  | k :: ks, acc => by
    refine Nat.le_trans (offL_len l ks _) ?_
    have : (offStep l acc k).length ≤ acc.length + 1 := by
      unfold offStep
      cases feat? l (k : Int) with
      | none => simp
      | some f => dsimp only; split <;> simp
    simp; omega
theorem strsA_len (l : List Str) : (strsA l).length = l.length := by simp [strsA]
theorem strsA_snoc (l : List Str) (k : Str) : strsA (l ++ [k]) = strsA l ++ [.str k] := by simp [strsA]

section
variable {C : Cx} {n : Nat} {mu : Mu} {Q : AV → Mu → Prop}
theorem ct_offered_tags {a : Ad} (P : Pr C a) {l : Ly} {s : LS} (hz : l.features.length ≤ 100) (hs : s.feats.length < 64) (ht : ∀ f ∈ l.features, PyData.strOk f.tag = true) (h : Q (.list (strsA (offT l s))) mu) :
    CL C (n + 2) [avY a l, avL a s] mu (.ref a.f5) Q := by
  (have K := P.K; obtain ⟨l1, l2, s1, s2, s3, f1, f2, y1, y2, y3⟩ := P.A; obtain ⟨len, sorted, abs, int, range, list, tuple, set, dict⟩ := P.B; have g2 := P.g2; have F2 := P.F2; have g3 := P.g3; have F3 := P.F3; have g4 := P.g4; have F4 := P.F4; have g5 := P.g5; have F5 := P.F5; have g6 := P.g6; have F6 := P.F6; have g7 := P.g7; have F7 := P.F7; have g8 := P.g8; have F8 := P.F8; have g9 := P.g9; have F9 := P.F9; have g16 := P.g16; have F16 := P.F16; have g17 := P.g17; have F17 := P.F17; have g18 := P.g18; have F18 := P.F18; have g19 := P.g19; have F19 := P.F19; have g20 := P.g20; have F20 := P.F20; have g21 := P.g21; have F21 := P.F21; have g22 := P.g22; have F22 := P.F22; have g23 := P.g23; have F23 := P.F23; have gcL := P.gcL; have kcL := P.kcL; have FiL := P.FiL; have gcS := P.gcS; have kcS := P.kcS; have FiS := P.FiS; have gcF := P.gcF; have kcF := P.kcF; have FiF := P.FiF; have gcY := P.gcY; have kcY := P.kcY; have FiY := P.FiY; have info := P.info; have Ftl := P.Ft; have mt := P.mt)
  refine call_fnC K F5 (dα := []) (m0 := [("langsys", avL a s), ("layout", avY a l)]) (ce := fun _ => []) (fun _ => .nil) rfl rfl rfl rfl (fun _ => by kernel_rfl!) (fun _ => by kernel_rfl!) (by kernel_rfl!) (fun _ => by kernel_rfl!) fun L q cd => ?_
  (refine S_cons (X_assign rfl ?_))
  refine E_list_mut1 ?_
  kt_ktab
  refine ⟨_, _, rfl, Nat.zero_le _, fun D => ?_⟩
  (first
  | ((with_reducible apply st_loc0); rfl; rfl; kernel_rfl!)
  | ((with_reducible apply st_cell' (i := 1)); rfl; kernel_rfl!; rfl; kernel_rfl!)
  | ((with_reducible apply st_cell' (i := 2)); rfl; kernel_rfl!; rfl; kernel_rfl!)
  | ((with_reducible apply st_cell' (i := 3)); rfl; kernel_rfl!; rfl; kernel_rfl!))
  (refine S_cons (X_if ?_))
  (repeat kt_ktab)
  refine S_cons (X_for (fun i mu' => ∃ m, mu' = (L, .ns m) :: (D, .list (strsA (offL l (s.feats.take i)))) :: mu ∧ Has m "layout" (avY a l) ∧ Has m "found" (.val (.ref D))) (fun _ => rfl) ?_)
  (repeat kt_ktab)
  refine ⟨natsA s.feats, iter_list, ⟨_, rfl, by (repeat (first | (with_reducible exact lk_here) | (with_reducible assumption) | (apply lk_next; decide +kernel))), by (repeat (first | (with_reducible exact lk_here) | (with_reducible assumption) | (apply lk_next; decide +kernel)))⟩, ?_, ?_⟩
  · rintro i x mu' hx ⟨m, rfl, m1, m3⟩
    obtain ⟨k, hk, rfl⟩ := natsA_at hx
    have hi : i < s.feats.length := (List.getElem?_eq_some_iff.mp hk).1
    refine as_name ?_
    (first
  | ((with_reducible apply st_loc0); rfl; rfl; kernel_rfl!)
  | ((with_reducible apply st_cell' (i := 1)); rfl; kernel_rfl!; rfl; kernel_rfl!)
  | ((with_reducible apply st_cell' (i := 2)); rfl; kernel_rfl!; rfl; kernel_rfl!)
  | ((with_reducible apply st_cell' (i := 3)); rfl; kernel_rfl!; rfl; kernel_rfl!))
    (refine S_cons (X_assign rfl ?_))
    (repeat kt_ktab)
    refine (ct_feature_at P hz ?_).call
    have hstep : offL l (s.feats.take (i + 1)) = offStep l (offL l (s.feats.take i)) k := foldl_take_succ _ _ hk
    have hacc := offL_ok l ht (s.feats.take i) [] (fun _ h => nomatch h)
    have hlen := offL_len l (s.feats.take i) []
    cases hf : feat? l (k : Int) with
    | none =>
      have hF : offL l (s.feats.take (i + 1)) = offL l (s.feats.take i) := by rw [hstep]; unfold offStep; rw [hf]
      (first
  | ((with_reducible apply st_loc0); rfl; rfl; kernel_rfl!)
  | ((with_reducible apply st_cell' (i := 1)); rfl; kernel_rfl!; rfl; kernel_rfl!)
  | ((with_reducible apply st_cell' (i := 2)); rfl; kernel_rfl!; rfl; kernel_rfl!)
  | ((with_reducible apply st_cell' (i := 3)); rfl; kernel_rfl!; rfl; kernel_rfl!))
      (refine S_cons (X_if ?_))
      (repeat kt_ktab)
      refine S_nil ?_
      refine S_nil ?_
      refine ⟨_, by rw [hF], by (repeat (first | (with_reducible exact lk_here) | (with_reducible assumption) | (apply lk_next; decide +kernel))), by (repeat (first | (with_reducible exact lk_here) | (with_reducible assumption) | (apply lk_next; decide +kernel)))⟩
    | some f =>
      (first
  | ((with_reducible apply st_loc0); rfl; rfl; kernel_rfl!)
  | ((with_reducible apply st_cell' (i := 1)); rfl; kernel_rfl!; rfl; kernel_rfl!)
  | ((with_reducible apply st_cell' (i := 2)); rfl; kernel_rfl!; rfl; kernel_rfl!)
  | ((with_reducible apply st_cell' (i := 3)); rfl; kernel_rfl!; rfl; kernel_rfl!))
      (refine S_cons (X_if ?_))
      (repeat kt_ktab)
      refine k_notin_strs (i := 1) rfl (ht f (feat_mem hf)) hacc (fun hm => ?_) (fun hm => ?_)
      · (repeat kt_ktab)
        have hT : offL l (s.feats.take (i + 1)) = offL l (s.feats.take i) ++ [f.tag] := by rw [hstep]; unfold offStep; rw [hf]; exact if_neg hm
        (refine S_cons (X_expr (by kernel_rfl!) rfl ?_))
        ((with_reducible apply E_meth); rfl; rfl; rfl)
        (repeat kt_ktab)
        refine ⟨getm_list (i := 1) PySem.F.slot_list_append rfl rfl, ?_⟩
        (repeat kt_ktab)
        refine l_append (i := 1) rfl ?_ ?_
        · rw [strsA_len]
          have := List.length_take_le' i s.feats
          have h2 : (offL l (s.feats.take i)).length ≤ 0 + (s.feats.take i).length := hlen
          omega
        refine ⟨rfl, ?_⟩
        (simp only [List.set_cons_zero, List.set_cons_succ])
        refine S_nil ?_
        refine S_nil ?_
        refine ⟨_, by rw [hT, strsA_snoc], by (repeat (first | (with_reducible exact lk_here) | (with_reducible assumption) | (apply lk_next; decide +kernel))), by (repeat (first | (with_reducible exact lk_here) | (with_reducible assumption) | (apply lk_next; decide +kernel)))⟩
      · (repeat kt_ktab)
        have hF : offL l (s.feats.take (i + 1)) = offL l (s.feats.take i) := by rw [hstep]; unfold offStep; rw [hf]; exact if_pos hm
        refine S_nil ?_
        refine S_nil ?_
        refine ⟨_, by rw [hF], by (repeat (first | (with_reducible exact lk_here) | (with_reducible assumption) | (apply lk_next; decide +kernel))), by (repeat (first | (with_reducible exact lk_here) | (with_reducible assumption) | (apply lk_next; decide +kernel)))⟩
  · rintro mu' ⟨m, rfl, m1, m3⟩
    rw [natsA_len, List.take_length]
    refine S_nil ?_
    refine WT.frzNs (x := "found") (a := D) (L := L) (m := m) (mu1 := (L, .ns m) :: mu) (i := 0) mono_true (.inl ⟨_, rfl, rfl⟩) (List.Perm.swap ..) rfl m3 ?_
    (simp only [List.set_cons_zero, List.set_cons_succ])
    (refine S_cons (X_ret ?_))
    (repeat kt_ktab)
    have hlen := offL_len l s.feats []
    refine l_sorted_strs (by have h2 : (offL l s.feats).length ≤ 0 + s.feats.length := hlen; omega) ?_
    exact ⟨[(L, _)], mu, .refl _, h⟩
end
end Mine
end
section
open PySem PySem.W PyProof.Rows PySem.SeqAt PySem.Spec
set_option maxHeartbeats 4000000
namespace Mine

/-! the masks -/
def encM (m : List (Nat × Int)) : List (Int × AV) := m.map fun p => ((p.1 : Int), .int p.2)
def getM (m : List (Nat × Int)) (k : Nat) : Int := ((m.find? fun p => p.1 = k).map (·.2)).getD 0
def putM (m : List (Nat × Int)) (k : Nat) (v : Int) : List (Nat × Int) := if m.any (fun p => p.1 = k) then m.map (fun p => if p.1 = k then (p.1, v) else p) else m ++ [(k, v)]
def addStep (nl : Nat) (v : Int) (m : List (Nat × Int)) (k : Nat) : List (Nat × Int) := if k < nl then putM m k (Builtin.bitOr (getM m k) v) else m
def addL (nl : Nat) (v : Int) (ks : List Nat) (m : List (Nat × Int)) : List (Nat × Int) := ks.foldl (addStep nl v) m
theorem encM_get (m : List (Nat × Int)) (k : Nat) : (((encM m).find? fun p => p.1 = (k : Int)).map (·.2)).getD (.int 0) = .int (getM m k) := by
  unfold getM encM
  induction m with
  | nil => rfl
  | cons p r ih =>
    rw [List.map_cons, List.find?_cons, List.find?_cons]
    by_cases h : p.1 = k
    · have h' : ((p.1 : Int) = (k : Int)) := by omega
      simp [h, h']
    · have h' : ¬ ((p.1 : Int) = (k : Int)) := by omega
      simp only [decide_eq_false h, decide_eq_false h']
      exact ih
theorem encM_put (m : List (Nat × Int)) (k : Nat) (v : Int) : storedA (encM m) (k : Int) (.int v) = encM (putM m k v) := by
  have ha : (encM m).any (fun p => p.1 = (k : Int)) = m.any (fun p => p.1 = k) := by
    unfold encM
    rw [List.any_map]
    congr 1
    funext p
    show decide ((p.1 : Int) = (k : Int)) = decide (p.1 = k)
    by_cases h : p.1 = k
    · have h' : ((p.1 : Int) = (k : Int)) := by omega
      simp [h]
    · have h' : ¬ ((p.1 : Int) = (k : Int)) := by omega
      simp [h, h']
  unfold storedA putM
  rw [ha]
  split
  · unfold encM
    rw [List.map_map, List.map_map]
    apply List.map_congr_left
    intro p _
    show (if ((p.1 : Int) = (k : Int)) then _ else _) = _
    by_cases h : p.1 = k
    · have h' : ((p.1 : Int) = (k : Int)) := by omega
      simp [h]
    · have h' : ¬ ((p.1 : Int) = (k : Int)) := by omega
      simp [h, h']
  · simp [encM]
theorem encM_len (m : List (Nat × Int)) : (encM m).length = m.length := by simp [encM]
def keyStep (nl : Nat) (acc : List Nat) (k : Nat) : List Nat := if k < nl ∧ k ∉ acc then acc ++ [k] else acc
def addK (nl : Nat) (ks : List Nat) (acc : List Nat) : List Nat := ks.foldl (keyStep nl) acc
theorem putM_keys (m : List (Nat × Int)) (k : Nat) (v : Int) : (putM m k v).map (·.1) = if k ∈ m.map (·.1) then m.map (·.1) else m.map (·.1) ++ [k] := by
  unfold putM
  have ha : (m.any fun p => decide (p.1 = k)) = decide (k ∈ m.map (·.1)) := by
    induction m with
    | nil => rfl
    | cons p r ih =>
      rw [List.any_cons, ih]
      by_cases h : p.1 = k
      · simp [h]
      · have h' : ¬ k = p.1 := fun e => h e.symm
        simp [h, h']
  rw [ha]
  by_cases h : k ∈ m.map (·.1)
  · rw [if_pos (by simpa using h), if_pos h, List.map_map]
    apply List.map_congr_left
    intro p _
    show (if p.1 = k then (p.1, v) else p).1 = p.1
    split <;> rfl
  · rw [if_neg (by simpa using h), if_neg h]; simp
theorem addStep_keys (nl : Nat) (v : Int) (m : List (Nat × Int)) (k : Nat) : (addStep nl v m k).map (·.1) = keyStep nl (m.map (·.1)) k := by
  unfold addStep keyStep
  by_cases h : k < nl
  · rw [if_pos h, putM_keys]
    by_cases h2 : k ∈ m.map (·.1)
    · rw [if_pos h2, if_neg (fun q => q.2 h2)]
    · rw [if_neg h2, if_pos ⟨h, h2⟩]
  · rw [if_neg h, if_neg (fun q => h q.1)]
theorem addL_keys (nl : Nat) (v : Int) : ∀ (ks : List Nat) (m : List (Nat × Int)), (addL nl v ks m).map (·.1) = addK nl ks (m.map (·.1))
  | [], m => rfl
  | k :: ks, m => by
    show (addL nl v ks (addStep nl v m k)).map (·.1) = addK nl ks (keyStep nl (m.map (·.1)) k)
    rw [addL_keys nl v ks, addStep_keys]
structure KeysOk (nl : Nat) (l : List Nat) : Prop where
  nd : l.Nodup
  lt : ∀ x ∈ l, x < nl
theorem KeysOk.step {nl : Nat} {acc : List Nat} (h : KeysOk nl acc) (k : Nat) : KeysOk nl (keyStep nl acc k) := by
  unfold keyStep
  split
  · rename_i hk
    refine ⟨List.nodup_append.mpr ⟨h.nd, by simp, fun a ha b hb e => ?_⟩, fun x hx => ?_⟩
    · rw [List.mem_singleton.mp hb] at e; exact hk.2 (e ▸ ha)
    · rcases List.mem_append.mp hx with hx | hx
      · exact h.lt x hx
      · rw [List.mem_singleton.mp hx]; exact hk.1
  · exact h
theorem KeysOk.add {nl : Nat} : ∀ {ks acc : List Nat}, KeysOk nl acc → KeysOk nl (addK nl ks acc)
  | [], _, h => h
  | k :: ks, _, h => KeysOk.add (ks := ks) (h.step k)
theorem nodup_bound : ∀ (n : Nat) (l : List Nat), l.Nodup → (∀ x ∈ l, x < n) → l.length ≤ n
  | 0, l, _, h => by
    cases l with
    | nil => simp
    | cons x r => exact absurd (h x (List.mem_cons_self ..)) (Nat.not_lt_zero _)
  | n + 1, l, hn, h => by
    have h1 := nodup_bound n (l.erase n) (hn.erase n) (fun x hx => by
      have := (hn.mem_erase_iff).mp hx
      have h2 := h x this.2
      have := this.1
      omega)
    by_cases hm : n ∈ l
    · rw [List.length_erase_of_mem hm] at h1; omega
    · rw [List.erase_of_not_mem hm] at h1; omega
theorem KeysOk.len {nl : Nat} {l : List Nat} (h : KeysOk nl l) : l.length ≤ nl := nodup_bound nl l h.nd h.lt
theorem mem_addK {nl : Nat} {x : Nat} : ∀ {ks acc : List Nat}, x ∈ addK nl ks acc ↔ x ∈ acc ∨ (x ∈ ks ∧ x < nl)
  | [], acc => by simp [addK]
  | k :: ks, acc => by
    show x ∈ addK nl ks (keyStep nl acc k) ↔ _
    rw [mem_addK]
    unfold keyStep
    by_cases h : k < nl ∧ k ∉ acc
    · rw [if_pos h]
      simp only [List.mem_append, List.mem_cons, List.not_mem_nil, or_false]
      constructor
      · rintro ((h1 | rfl) | h1)
        · exact .inl h1
        · exact .inr ⟨.inl rfl, h.1⟩
        · exact .inr ⟨.inr h1.1, h1.2⟩
      · rintro (h1 | ⟨rfl | h1, h2⟩)
        · exact .inl (.inl h1)
        · exact .inl (.inr rfl)
        · exact .inr ⟨h1, h2⟩
    · rw [if_neg h]
      simp only [List.mem_cons]
      constructor
      · rintro (h1 | h1)
        · exact .inl h1
        · exact .inr ⟨.inr h1.1, h1.2⟩
      · rintro (h1 | ⟨rfl | h1, h2⟩)
        · exact .inl h1
        · exact .inl (Classical.byContradiction fun q => h ⟨h2, q⟩)
        · exact .inr ⟨h1, h2⟩

theorem set_self {mu : Mu} {j : Nat} {x : Addr × MO} (h : mu[j]? = some x) : mu.set j x = mu := by
  apply List.ext_getElem?
  intro i
  rw [List.getElem?_set]
  split
  · rename_i e; subst e
    have := (List.getElem?_eq_some_iff.mp h).1
    rw [if_pos this, h]
  · rfl
theorem set_at {mu : Mu} {j : Nat} {x y : Addr × MO} (h : mu[j]? = some x) : (mu.set j y)[j]? = some y := by
  have := (List.getElem?_eq_some_iff.mp h).1
  simp [this]

section
variable {C : Cx} {n : Nat} {mu : Mu} {Q : AV → Mu → Prop}
theorem ct_add_lookups {a : Ad} (P : Pr C a) {l : Ly} {f : Ft} {v : Int} {M : Addr} {j : Nat} {m : List (Nat × Int)} (hz : l.nl ≤ 100) (hj : mu[j]? = some (M, .dictI (encM m))) (hm : KeysOk l.nl (m.map (·.1)))
    (h : Q .none (mu.set j (M, .dictI (encM (addL l.nl v f.lks m))))) : CL C (n + 2) [.val (.ref M), avY a l, avF a f, .int v] mu (.ref a.f6) Q := by
  (have K := P.K; obtain ⟨l1, l2, s1, s2, s3, f1, f2, y1, y2, y3⟩ := P.A; obtain ⟨len, sorted, abs, int, range, list, tuple, set, dict⟩ := P.B; have g2 := P.g2; have F2 := P.F2; have g3 := P.g3; have F3 := P.F3; have g4 := P.g4; have F4 := P.F4; have g5 := P.g5; have F5 := P.F5; have g6 := P.g6; have F6 := P.F6; have g7 := P.g7; have F7 := P.F7; have g8 := P.g8; have F8 := P.F8; have g9 := P.g9; have F9 := P.F9; have g16 := P.g16; have F16 := P.F16; have g17 := P.g17; have F17 := P.F17; have g18 := P.g18; have F18 := P.F18; have g19 := P.g19; have F19 := P.F19; have g20 := P.g20; have F20 := P.F20; have g21 := P.g21; have F21 := P.F21; have g22 := P.g22; have F22 := P.F22; have g23 := P.g23; have F23 := P.F23; have gcL := P.gcL; have kcL := P.kcL; have FiL := P.FiL; have gcS := P.gcS; have kcS := P.kcS; have FiS := P.FiS; have gcF := P.gcF; have kcF := P.kcF; have FiF := P.FiF; have gcY := P.gcY; have kcY := P.kcY; have FiY := P.FiY; have info := P.info; have Ftl := P.Ft; have mt := P.mt)
  refine call_fnC K F6 (dα := []) (m0 := [("mask", .int v), ("feature", avF a f), ("layout", avY a l), ("masks", .val (.ref M))]) (ce := fun _ => []) (fun _ => .nil) rfl rfl rfl rfl (fun _ => by kernel_rfl!) (fun _ => by kernel_rfl!) (by kernel_rfl!) (fun _ => by kernel_rfl!) fun L q cd => ?_
  rw [List.nil_append]
  refine S_cons (X_for (fun i mu' => ∃ m', mu' = (L, .ns m') :: mu.set j (M, .dictI (encM (addL l.nl v (f.lks.take i) m))) ∧ Has m' "masks" (.val (.ref M)) ∧ Has m' "layout" (avY a l) ∧ Has m' "mask" (.int v)) (fun _ => rfl) ?_)
  (repeat kt_ktab)
  refine ⟨natsA f.lks, iter_list, ⟨_, by rw [List.take_zero]; show _ = _ :: mu.set j (M, .dictI (encM m)); rw [set_self hj], by (repeat (first | (with_reducible exact lk_here) | (with_reducible assumption) | (apply lk_next; decide +kernel))), by (repeat (first | (with_reducible exact lk_here) | (with_reducible assumption) | (apply lk_next; decide +kernel))), by (repeat (first | (with_reducible exact lk_here) | (with_reducible assumption) | (apply lk_next; decide +kernel)))⟩, ?_, ?_⟩
  · rintro i x mu' hx ⟨m', rfl, m1, m2, m3⟩
    obtain ⟨k, hk, rfl⟩ := natsA_at hx
    refine as_name ?_
    (first
  | ((with_reducible apply st_loc0); rfl; rfl; kernel_rfl!)
  | ((with_reducible apply st_cell' (i := 1)); rfl; kernel_rfl!; rfl; kernel_rfl!)
  | ((with_reducible apply st_cell' (i := 2)); rfl; kernel_rfl!; rfl; kernel_rfl!)
  | ((with_reducible apply st_cell' (i := 3)); rfl; kernel_rfl!; rfl; kernel_rfl!))
    have hstep : addL l.nl v (f.lks.take (i + 1)) m = addStep l.nl v (addL l.nl v (f.lks.take i) m) k := foldl_take_succ _ _ hk
    have hk2 : KeysOk l.nl ((addL l.nl v (f.lks.take i) m).map (·.1)) := by rw [addL_keys]; exact hm.add
    have hlen : (encM (addL l.nl v (f.lks.take i) m)).length ≤ 100 := by
      rw [encM_len, ← List.length_map (f := (·.1))]; exact Nat.le_trans hk2.len hz
    have hat := set_at (y := (M, MO.dictI (encM (addL l.nl v (f.lks.take i) m)))) hj
    (refine S_cons (X_if ?_))
    (repeat kt_ktab)
    refine l_len (by rw [List.length_replicate]; omega) ?_
    (repeat kt_ktab)
    rw [List.length_replicate]
    refine k_lt (fun hlt => ?_) (fun hlt => ?_)
    · (repeat kt_ktab)
      refine S_cons (X_setsub rfl ?_)
      kt_ktab
      ((with_reducible apply E_meth); rfl; rfl; rfl)
      (repeat kt_ktab)
      refine ⟨getm_dictI (i := j + 1) PySem.F.slot_dict_get rfl hat, ?_⟩
      (repeat kt_ktab)
      refine l_get2 (i := j + 1) hat ?_
      rw [encM_get]
      (repeat kt_ktab)
      refine ⟨M, rfl, set_dictI (i := j + 1) hat (by omega) ?_⟩
      rw [encM_put, List.set_cons_succ, List.set_set]
      refine S_nil ?_
      refine S_nil ?_
      refine ⟨_, by rw [hstep]; unfold addStep; rw [if_pos (by omega)], by (repeat (first | (with_reducible exact lk_here) | (with_reducible assumption) | (apply lk_next; decide +kernel))), by (repeat (first | (with_reducible exact lk_here) | (with_reducible assumption) | (apply lk_next; decide +kernel))), by (repeat (first | (with_reducible exact lk_here) | (with_reducible assumption) | (apply lk_next; decide +kernel)))⟩
    · (repeat kt_ktab)
      refine S_nil ?_
      refine S_nil ?_
      refine ⟨_, by rw [hstep]; unfold addStep; rw [if_neg (by omega)], by (repeat (first | (with_reducible exact lk_here) | (with_reducible assumption) | (apply lk_next; decide +kernel))), by (repeat (first | (with_reducible exact lk_here) | (with_reducible assumption) | (apply lk_next; decide +kernel))), by (repeat (first | (with_reducible exact lk_here) | (with_reducible assumption) | (apply lk_next; decide +kernel)))⟩
  · rintro mu' ⟨m', rfl, m1, m2, m3⟩
    rw [natsA_len, List.take_length]
    refine S_nil ?_
    exact ⟨[(L, _)], _, .refl _, h⟩
end
end Mine
end
section
open PySem PySem.W PyProof.Rows PySem.SeqAt PySem.Spec
set_option maxHeartbeats 4000000
namespace Mine

/-! gather -/
def sortN (l : List Nat) : List Nat := l.mergeSort (fun a b => decide (a ≤ b))
theorem sortN_perm (l : List Nat) : (sortN l).Perm l := List.mergeSort_perm _ _
theorem sortN_sorted (l : List Nat) : (sortN l).Pairwise (· ≤ ·) := by
  have := List.pairwise_mergeSort (le := fun a b : Nat => decide (a ≤ b)) (fun a b c h1 h2 => by simp at *; omega) (fun a b => by simp; omega) l
  exact this.imp fun h => by simpa using h
theorem sortZ_nats (l : List Nat) : sortZ (l.map fun k : Nat => (k : Int)) = (sortN l).map fun k : Nat => (k : Int) := by
  refine (eq_sortZ ((sortN_perm l).map _) ?_).symm
  rw [List.pairwise_map]
  exact (sortN_sorted l).imp fun h => by omega
def lksAt (l : Ly) (k : Nat) : List Nat := ((feat? l (k : Int)).map (·.lks)).getD []
def gathM0 (l : Ly) (s : LS) : List (Nat × Int) := match req? l s with
  | some f => addL l.nl 1 f.lks []
  | none => []
def gathT (l : Ly) (ks : List Nat) (m : List (Nat × Int)) : List (Nat × Int) := ks.foldl (fun m k => addL l.nl 1 (lksAt l k) m) m
def gathM (l : Ly) (s : LS) (ts : List Str) (m : List (Nat × Int)) : List (Nat × Int) := ts.foldl (fun m t => gathT l (fIdx l s t) m) m
def gath (l : Ly) (s : LS) (ts : List Str) : List (Nat × Int) := let m := gathM l s (sortS ts) (gathM0 l s); (sortN (m.map (·.1))).map fun k => (k, getM m k)
def tupsA (l : List (Nat × Int)) : List AV := l.map fun p => .tup [.int (p.1 : Int), .int p.2]
abbrev wishA (ts : List Str) : AV := .dict (ts.map fun t => (t, .int 1))
theorem gathM0_ok (l : Ly) (s : LS) : KeysOk l.nl ((gathM0 l s).map (·.1)) := by
  have h0 : KeysOk l.nl [] := ⟨.nil, fun _ h => nomatch h⟩
  unfold gathM0
  cases req? l s with
  | none => exact h0
  | some f => dsimp only; rw [addL_keys]; exact KeysOk.add (ks := f.lks) h0
theorem gathT_ok (l : Ly) : ∀ (ks : List Nat) (m : List (Nat × Int)), KeysOk l.nl (m.map (·.1)) → KeysOk l.nl ((gathT l ks m).map (·.1))
  | [], m, h => h
  | k :: ks, m, h => gathT_ok l ks _ (by rw [addL_keys]; exact KeysOk.add (ks := lksAt l k) h)
theorem gathM_ok (l : Ly) (s : LS) : ∀ (ts : List Str) (m : List (Nat × Int)), KeysOk l.nl (m.map (·.1)) → KeysOk l.nl ((gathM l s ts m).map (·.1))
  | [], m, h => h
  | t :: ts, m, h => gathM_ok l s ts _ (gathT_ok l _ m h)
theorem strsA_at {l : List Str} {i : Nat} {x : AV} (h : (strsA l)[i]? = some x) : ∃ k, l[i]? = some k ∧ x = .str k := by
  unfold strsA at h
  rw [List.getElem?_map] at h
  obtain ⟨k, h1, h2⟩ := Option.map_eq_some_iff.mp h
  exact ⟨k, h1, h2.symm⟩
theorem lookup_wish {ts : List Str} {t : Str} (h : t ∈ ts) : (ts.map fun t => ((t, AV.int 1) : Str × AV)).lookup t = some (.int 1) := by
  induction ts with
  | nil => cases h
  | cons x r ih =>
    rw [List.map_cons, List.lookup_cons]
    by_cases e : t = x
    · subst e; rw [beq_self_eq_true]
    · rw [beq_eq_false_iff_ne.mpr e]
      exact ih ((List.mem_cons.mp h).resolve_left e)

theorem fIdx_feat {l : Ly} {s : LS} {t : Str} {k : Nat} (h : k ∈ fIdx l s t) : ∃ f, feat? l (k : Int) = some f := by
  have := (List.mem_filter.mp h).2
  unfold hasTag at this
  cases hf : feat? l (k : Int) with
  | none => rw [hf] at this; cases this
  | some f => exact ⟨f, rfl⟩
theorem feat_at {a : Ad} {l : Ly} {k : Nat} {f : Ft} (h : feat? l (k : Int) = some f) : (l.features.map (avF a))[(k : Int).toNat]? = some (avF a f) := by
  unfold feat? at h
  split at h
  · rw [List.getElem?_map, h]; rfl
  · cases h
theorem feat_lt {l : Ly} {k : Nat} {f : Ft} (h : feat? l (k : Int) = some f) : k < l.features.length := by
  unfold feat? at h
  split at h
  · rename_i h'; omega
  · cases h
theorem lksAt_of {l : Ly} {k : Nat} {f : Ft} (h : feat? l (k : Int) = some f) : lksAt l k = f.lks := by unfold lksAt; rw [h]; rfl
theorem getM_find {m : List (Nat × Int)} {k : Nat} (h : k ∈ m.map (·.1)) : (((encM m).find? fun p => p.1 = (k : Int)).map (·.2)) = some (.int (getM m k)) := by
  have h1 := encM_get m k
  cases e : ((encM m).find? fun p => p.1 = (k : Int)).map (·.2) with
  | some x => rw [e] at h1; rw [show x = AV.int (getM m k) from h1]
  | none =>
    rw [Option.map_eq_none_iff, List.find?_eq_none] at e
    obtain ⟨p, hp, hk⟩ := List.mem_map.mp h
    have := e ((p.1 : Int), .int p.2) (by unfold encM; exact List.mem_map_of_mem hp)
    simp [hk] at this

section
variable {C : Cx} {n : Nat} {mu : Mu} {Q : AV → Mu → Prop}
set_option maxHeartbeats 8000000 in
theorem ct_gather {a : Ad} (P : Pr C a) {l : Ly} {s : LS} {ts : List Str} (hz : l.features.length ≤ 100) (hs : s.feats.length ≤ 100) (hnl : l.nl < 64) (hts : ts.length < 64) (h : Q (.list (tupsA (gath l s ts))) mu) :
    CL C (n + 3) [avY a l, avL a s, wishA ts] mu (.ref a.f7) Q := by
  (have K := P.K; obtain ⟨l1, l2, s1, s2, s3, f1, f2, y1, y2, y3⟩ := P.A; obtain ⟨len, sorted, abs, int, range, list, tuple, set, dict⟩ := P.B; have g2 := P.g2; have F2 := P.F2; have g3 := P.g3; have F3 := P.F3; have g4 := P.g4; have F4 := P.F4; have g5 := P.g5; have F5 := P.F5; have g6 := P.g6; have F6 := P.F6; have g7 := P.g7; have F7 := P.F7; have g8 := P.g8; have F8 := P.F8; have g9 := P.g9; have F9 := P.F9; have g16 := P.g16; have F16 := P.F16; have g17 := P.g17; have F17 := P.F17; have g18 := P.g18; have F18 := P.F18; have g19 := P.g19; have F19 := P.F19; have g20 := P.g20; have F20 := P.F20; have g21 := P.g21; have F21 := P.F21; have g22 := P.g22; have F22 := P.F22; have g23 := P.g23; have F23 := P.F23; have gcL := P.gcL; have kcL := P.kcL; have FiL := P.FiL; have gcS := P.gcS; have kcS := P.kcS; have FiS := P.FiS; have gcF := P.gcF; have kcF := P.kcF; have FiF := P.FiF; have gcY := P.gcY; have kcY := P.kcY; have FiY := P.FiY; have info := P.info; have Ftl := P.Ft; have mt := P.mt)
  refine call_fnC K F7 (dα := [.bool true]) (m0 := [("is_required", .bool true), ("wishes", wishA ts), ("langsys", avL a s), ("layout", avY a l)]) (ce := fun L => [(L + 1, .cell none)]) (fun _ => .cons (.bool true) .nil) rfl rfl rfl rfl (fun _ => by kernel_rfl!) (fun _ => by kernel_rfl!) (by kernel_rfl!) (fun _ => by kernel_rfl!) fun L q cd => ?_
  rw [List.cons_append, List.nil_append]
  (refine S_cons (X_assign rfl ?_))
  refine E_dict0I1 K fun M => ?_
  (first
  | ((with_reducible apply st_loc0); rfl; rfl; kernel_rfl!)
  | ((with_reducible apply st_cell' (i := 1)); rfl; kernel_rfl!; rfl; kernel_rfl!)
  | ((with_reducible apply st_cell' (i := 2)); rfl; kernel_rfl!; rfl; kernel_rfl!)
  | ((with_reducible apply st_cell' (i := 3)); rfl; kernel_rfl!; rfl; kernel_rfl!))
  (simp only [List.set_cons_zero, List.set_cons_succ])
  (refine S_cons (X_assign rfl ?_))
  (repeat kt_ktab)
  refine (ct_required_feature P hz ?_).call
  (first
  | ((with_reducible apply st_loc0); rfl; rfl; kernel_rfl!)
  | ((with_reducible apply st_cell' (i := 1)); rfl; kernel_rfl!; rfl; kernel_rfl!)
  | ((with_reducible apply st_cell' (i := 2)); rfl; kernel_rfl!; rfl; kernel_rfl!)
  | ((with_reducible apply st_cell' (i := 3)); rfl; kernel_rfl!; rfl; kernel_rfl!))
  have hm0 := gathM0_ok l s
  have key : ∀ m', Has m' "wishes" (wishA ts) → Has m' "langsys" (avL a s) → Has m' "layout" (avY a l) → WS C (n + 2) ((L, .ns m') :: (M, .dictI (encM (gathM0 l s))) :: (L + 1, .cell (some (.val (.ref M)))) :: mu) (newEnv (fS 7) L mainGlobals (cellsFrom (L + 1) (fS 7).names []) q (some a.f7) cd none builtinsNs) ((fB 7).drop 3) (fun φ mu' => ∃ d m, mu'.Perm (d ++ m) ∧ Q (retOf φ) m) := by
    intro m' w1 w2 w3
    refine S_cons (X_for (fun i mu' => ∃ m', mu' = (L, .ns m') :: (M, .dictI (encM (gathM l s ((sortS ts).take i) (gathM0 l s)))) :: (L + 1, .cell (some (.val (.ref M)))) :: mu ∧ Has m' "wishes" (wishA ts) ∧ Has m' "langsys" (avL a s) ∧ Has m' "layout" (avY a l)) (fun _ => rfl) ?_)
    (repeat kt_ktab)
    refine l_sorted_dict (by simpa using hts) ?_
    have ek : (ts.map fun t => ((t, AV.int 1) : Str × AV)).map (·.1) = ts := by rw [List.map_map]; exact List.map_id ts
    rw [ek]
    refine ⟨strsA (sortS ts), iter_list, ⟨_, by rw [List.take_zero]; rfl, w1, w2, w3⟩, ?_, ?_⟩
    · rintro i x mu' hx ⟨m', rfl, m1, m2, m3⟩
      obtain ⟨t, ht, rfl⟩ := strsA_at hx
      have htm : t ∈ ts := (sortS_perm ts).mem_iff.mp (List.mem_of_getElem? ht)
      have hstep : gathM l s ((sortS ts).take (i + 1)) (gathM0 l s) = gathT l (fIdx l s t) (gathM l s ((sortS ts).take i) (gathM0 l s)) := foldl_take_succ _ _ ht
      have hok := gathM_ok l s ((sortS ts).take i) (gathM0 l s) hm0
      generalize gathM l s ((sortS ts).take i) (gathM0 l s) = mi at hstep hok ⊢
      refine as_name ?_
      (first
  | ((with_reducible apply st_loc0); rfl; rfl; kernel_rfl!)
  | ((with_reducible apply st_cell' (i := 1)); rfl; kernel_rfl!; rfl; kernel_rfl!)
  | ((with_reducible apply st_cell' (i := 2)); rfl; kernel_rfl!; rfl; kernel_rfl!)
  | ((with_reducible apply st_cell' (i := 3)); rfl; kernel_rfl!; rfl; kernel_rfl!))
      (refine S_cons (X_if ?_))
      (repeat kt_ktab)
      refine s_dict (lookup_wish htm) (fun _ _ => rfl) ?_
      (repeat kt_ktab)
      refine k_nei (fun _ => ?_) (fun e => absurd e (by decide))
      (repeat kt_ktab)
      refine S_cons (X_for (fun j mu' => ∃ m', mu' = (L, .ns m') :: (M, .dictI (encM (gathT l ((fIdx l s t).take j) mi))) :: (L + 1, .cell (some (.val (.ref M)))) :: mu ∧ Has m' "wishes" (wishA ts) ∧ Has m' "langsys" (avL a s) ∧ Has m' "layout" (avY a l) ∧ Has m' "tag" (.str t)) (fun _ => rfl) ?_)
      (repeat kt_ktab)
      refine (ct_feature_indexes P hz hs ?_).call
      refine ⟨natsA (fIdx l s t), iter_list, ⟨_, by rw [List.take_zero]; rfl, by (repeat (first | (with_reducible exact lk_here) | (with_reducible assumption) | (apply lk_next; decide +kernel))), by (repeat (first | (with_reducible exact lk_here) | (with_reducible assumption) | (apply lk_next; decide +kernel))), by (repeat (first | (with_reducible exact lk_here) | (with_reducible assumption) | (apply lk_next; decide +kernel))), by (repeat (first | (with_reducible exact lk_here) | (with_reducible assumption) | (apply lk_next; decide +kernel)))⟩, ?_, ?_⟩
      · rintro j x mu' hx ⟨m', rfl, m1, m2, m3, m4⟩
        obtain ⟨k, hk, rfl⟩ := natsA_at hx
        obtain ⟨f, hf⟩ := fIdx_feat (List.mem_of_getElem? hk)
        have hst : gathT l ((fIdx l s t).take (j + 1)) mi = addL l.nl 1 (lksAt l k) (gathT l ((fIdx l s t).take j) mi) := foldl_take_succ _ _ hk
        have hok2 := gathT_ok l ((fIdx l s t).take j) mi hok
        refine as_name ?_
        (first
  | ((with_reducible apply st_loc0); rfl; rfl; kernel_rfl!)
  | ((with_reducible apply st_cell' (i := 1)); rfl; kernel_rfl!; rfl; kernel_rfl!)
  | ((with_reducible apply st_cell' (i := 2)); rfl; kernel_rfl!; rfl; kernel_rfl!)
  | ((with_reducible apply st_cell' (i := 3)); rfl; kernel_rfl!; rfl; kernel_rfl!))
        (refine S_cons (X_expr (by kernel_rfl!) rfl ?_))
        (repeat kt_ktab)
        refine s_list (by omega) (by have := feat_lt hf; omega) (feat_at hf) (fun _ _ => rfl) ?_
        (repeat kt_ktab)
        refine s_dict (lookup_wish htm) (fun _ _ => rfl) ?_
        (repeat kt_ktab)
        refine (ct_add_lookups P (j := 1) (f := f) (by omega) rfl hok2 ?_).call
        refine ⟨rfl, ?_⟩
        (simp only [List.set_cons_zero, List.set_cons_succ])
        refine S_nil ?_
        refine ⟨_, by rw [hst, lksAt_of hf], by (repeat (first | (with_reducible exact lk_here) | (with_reducible assumption) | (apply lk_next; decide +kernel))), by (repeat (first | (with_reducible exact lk_here) | (with_reducible assumption) | (apply lk_next; decide +kernel))), by (repeat (first | (with_reducible exact lk_here) | (with_reducible assumption) | (apply lk_next; decide +kernel))), by (repeat (first | (with_reducible exact lk_here) | (with_reducible assumption) | (apply lk_next; decide +kernel)))⟩
      · rintro mu' ⟨m', rfl, m1, m2, m3, m4⟩
        rw [natsA_len, List.take_length]
        refine S_nil ?_
        refine S_nil ?_
        exact ⟨_, by rw [hstep], m1, m2, m3⟩
    · rintro mu' ⟨m', rfl, m1, m2, m3⟩
      rw [strsA_len, List.take_length]
      have hok := gathM_ok l s (sortS ts) (gathM0 l s) hm0
      have hres : gath l s ts = (sortN ((gathM l s (sortS ts) (gathM0 l s)).map (·.1))).map fun k => (k, getM (gathM l s (sortS ts) (gathM0 l s)) k) := rfl
      rw [hres] at h
      generalize gathM l s (sortS ts) (gathM0 l s) = mf at hok h ⊢
      have hlen : mf.length < 64 := by have := hok.len; rw [List.length_map] at this; omega
      (refine S_cons (X_ret ?_))
      refine E_compF (cl := [("masks", L + 1)]) (fun i ys mu' => mu' = (L, .ns m') :: (M, .dictI (encM mf)) :: (L + 1, .cell (some (.val (.ref M)))) :: mu ∧ ys = tupsA (((sortN (mf.map (·.1))).take i).map fun k => (k, getM mf k))) (fun _ => rfl) (by kernel_rfl!) ?_ rfl ?_ ?_ ?_
      · decide +kernel
      · decide +kernel
      · rintro i ys mu' ⟨_, rfl⟩
        simp [tupsA]
        exact Nat.min_le_left ..
      (repeat kt_ktab)
      refine l_sorted_dictI (i := 1) rfl (by rw [encM_len]; exact hlen) ?_
      have ek : (encM mf).map (·.1) = (mf.map (·.1)).map fun k : Nat => (k : Int) := by simp [encM]
      rw [ek, sortZ_nats, ← natsA_eq]
      refine ⟨natsA (sortN (mf.map (·.1))), iter_list, ?_, ⟨rfl, rfl⟩, ?_, ?_⟩
      · rw [natsA_len, (sortN_perm _).length_eq, List.length_map]; omega
      · rintro D mc i x ys mu' hx ⟨rfl, rfl⟩
        obtain ⟨k, hk, rfl⟩ := natsA_at hx
        have hkm : k ∈ mf.map (·.1) := (sortN_perm _).mem_iff.mp (List.mem_of_getElem? hk)
        refine as_name ?_
        (first
  | ((with_reducible apply st_loc0); rfl; rfl; kernel_rfl!)
  | ((with_reducible apply st_cell' (i := 1)); rfl; kernel_rfl!; rfl; kernel_rfl!)
  | ((with_reducible apply st_cell' (i := 2)); rfl; kernel_rfl!; rfl; kernel_rfl!)
  | ((with_reducible apply st_cell' (i := 3)); rfl; kernel_rfl!; rfl; kernel_rfl!))
        refine tests_nil ?_
        refine ift ?_
        refine E_tuple ?_
        (repeat kt_ktab)
        refine s_dictI (i := 2) rfl (getM_find hkm) (fun _ _ => rfl) ?_
        (repeat kt_ktab)
        refine ⟨_, _, rfl, rfl, ?_⟩
        rw [take_succ' hk]
        simp [tupsA]
      · rintro ys mu' ⟨rfl, rfl⟩
        rw [natsA_len, List.take_length]
        exact ⟨[(L, _), (M, _), (L + 1, _)], mu, .refl _, h⟩
  cases hf : req? l s with
  | none =>
    have e0 : gathM0 l s = [] := by unfold gathM0; rw [hf]
    (refine S_cons (X_if ?_))
    (repeat kt_ktab)
    refine S_nil ?_
    rw [e0] at key
    refine key _ (by (repeat (first | (with_reducible exact lk_here) | (with_reducible assumption) | (apply lk_next; decide +kernel)))) (by (repeat (first | (with_reducible exact lk_here) | (with_reducible assumption) | (apply lk_next; decide +kernel)))) (by (repeat (first | (with_reducible exact lk_here) | (with_reducible assumption) | (apply lk_next; decide +kernel))))
  | some f =>
    have e0 : gathM0 l s = addL l.nl 1 f.lks [] := by unfold gathM0; rw [hf]
    (refine S_cons (X_if ?_))
    (repeat kt_ktab)
    (refine S_cons (X_expr (by kernel_rfl!) rfl ?_))
    (repeat kt_ktab)
    refine (ct_add_lookups P (j := 1) (m := []) (f := f) (by omega) rfl ⟨.nil, fun _ h => nomatch h⟩ ?_).call
    refine ⟨rfl, ?_⟩
    (simp only [List.set_cons_zero, List.set_cons_succ])
    refine S_nil ?_
    rw [e0] at key
    refine key _ (by (repeat (first | (with_reducible exact lk_here) | (with_reducible assumption) | (apply lk_next; decide +kernel)))) (by (repeat (first | (with_reducible exact lk_here) | (with_reducible assumption) | (apply lk_next; decide +kernel)))) (by (repeat (first | (with_reducible exact lk_here) | (with_reducible assumption) | (apply lk_next; decide +kernel))))
end
end Mine
end
section
open PySem PySem.W PyProof.Rows PySem.SeqAt PySem.Spec
set_option maxHeartbeats 4000000
namespace Mine

structure WF (l : Ly) : Prop where
  sk : (l.scripts.map (·.1)).Nodup
  sl : l.scripts.length ≤ 3
  ss : ∀ p ∈ l.scripts, PyData.strOk p.1 = true
  sd : ∀ p ∈ l.scripts, ∀ d, p.2.dflt = some d → d.feats.length ≤ 4
  lk : ∀ p ∈ l.scripts, (p.2.langs.map (·.1)).Nodup
  ll : ∀ p ∈ l.scripts, p.2.langs.length ≤ 2
  lo : ∀ p ∈ l.scripts, ∀ q ∈ p.2.langs, PyData.strOk q.1 = true ∧ q.1 ≠ "dflt" ∧ q.2.feats.length ≤ 4
  fl : l.features.length ≤ 5
  ft : ∀ f ∈ l.features, PyData.strOk f.tag = true ∧ f.lks.length ≤ 4
  nl : l.nl ≤ 6

abbrev Row := Str × Str × LS
def dRow (t : Str) : Option LS → List Row
  | some d => [(t, "dflt", d)]
  | none => []
def lRow (t : Str) (langs : List (Str × LS)) (g : Str) : List Row := match langs.lookup g with
  | some s => [(t, g, s)]
  | none => []
def rowsS (t : Str) (sc : Sc) : List Row := dRow t sc.dflt ++ (sortS (sc.langs.map (·.1))).flatMap (lRow t sc.langs)
def rowsT (l : Ly) (t : Str) : List Row := match l.scripts.lookup t with
  | some sc => rowsS t sc
  | none => []
def rowsOf (l : Ly) : List Row := (sortS (l.scripts.map (·.1))).flatMap (rowsT l)
def rowA (a : Ad) (r : Row) : AV := .tup [.str r.1, .str r.2.1, avL a r.2.2]
def rowsA (a : Ad) (rs : List Row) : List AV := rs.map (rowA a)
theorem rowsA_len (a : Ad) (rs : List Row) : (rowsA a rs).length = rs.length := by simp [rowsA]
theorem rowsA_snoc (a : Ad) (rs : List Row) (r : Row) : rowsA a (rs ++ [r]) = rowsA a rs ++ [rowA a r] := by simp [rowsA]
theorem flatMap_len {α β : Type} {f : α → List β} {c : Nat} : ∀ {l : List α}, (∀ x ∈ l, (f x).length ≤ c) → (l.flatMap f).length ≤ c * l.length
  | [], _ => by simp
  | x :: r, h => by
    rw [List.flatMap_cons, List.length_append, List.length_cons, Nat.mul_succ]
    have h1 := h x (List.mem_cons_self ..)
    have h2 := flatMap_len (l := r) fun y hy => h y (.tail _ hy)
    omega
theorem lRow_len (t : Str) (langs : List (Str × LS)) (g : Str) : (lRow t langs g).length ≤ 1 := by unfold lRow; cases langs.lookup g <;> simp
theorem dRow_len (t : Str) (d : Option LS) : (dRow t d).length ≤ 1 := by cases d <;> simp [dRow]
theorem lookup_mem {α : Type} {l : List (Str × α)} {k : Str} {x : α} (h : l.lookup k = some x) : (k, x) ∈ l := by
  induction l with
  | nil => cases h
  | cons p r ih =>
    obtain ⟨y, v⟩ := p
    rw [List.lookup_cons] at h
    by_cases e : k = y
    · subst e; rw [beq_self_eq_true] at h; cases h; exact List.mem_cons_self ..
    · rw [beq_eq_false_iff_ne.mpr e] at h; exact .tail _ (ih h)
theorem mem_lookup {α : Type} {l : List (Str × α)} {k : Str} (h : k ∈ l.map (·.1)) : ∃ x, l.lookup k = some x := by
  induction l with
  | nil => cases h
  | cons p r ih =>
    obtain ⟨y, v⟩ := p
    rw [List.lookup_cons]
    by_cases e : k = y
    · subst e; rw [beq_self_eq_true]; exact ⟨v, rfl⟩
    · rw [beq_eq_false_iff_ne.mpr e]; exact ih ((List.mem_cons.mp h).resolve_left e)
theorem lookup_map' {α β : Type} (f : α → β) {l : List (Str × α)} {k : Str} : (l.map fun p => (p.1, f p.2)).lookup k = (l.lookup k).map f := by
  induction l with
  | nil => rfl
  | cons p r ih =>
    rw [List.map_cons, List.lookup_cons, List.lookup_cons]
    by_cases e : k = p.1
    · rw [e, beq_self_eq_true]; rfl
    · rw [beq_eq_false_iff_ne.mpr e]; exact ih
theorem keys_map' {α β : Type} (f : α → β) (l : List (Str × α)) : (l.map fun p => (p.1, f p.2)).map (·.1) = l.map (·.1) := by rw [List.map_map]; rfl
theorem WF.rowsS_len {l : Ly} (W : WF l) {t : Str} {sc : Sc} (h : (t, sc) ∈ l.scripts) : (rowsS t sc).length ≤ 3 := by
  unfold rowsS
  rw [List.length_append]
  have h1 := dRow_len t sc.dflt
  have h2 := flatMap_len (l := sortS (sc.langs.map (·.1))) (f := lRow t sc.langs) fun g _ => lRow_len t sc.langs g
  rw [(sortS_perm _).length_eq, List.length_map] at h2
  have := W.ll _ h
  dsimp only at this
  omega
theorem WF.rowsT_len {l : Ly} (W : WF l) (t : Str) : (rowsT l t).length ≤ 3 := by
  unfold rowsT
  cases h : l.scripts.lookup t with
  | none => simp
  | some sc => exact W.rowsS_len (lookup_mem h)
theorem WF.rows_take {l : Ly} (W : WF l) (i : Nat) : (((sortS (l.scripts.map (·.1))).take i).flatMap (rowsT l)).length ≤ 9 := by
  have h := flatMap_len (l := (sortS (l.scripts.map (·.1))).take i) (f := rowsT l) fun t _ => W.rowsT_len t
  have h2 := List.length_take_le' i (sortS (l.scripts.map (·.1)))
  rw [(sortS_perm _).length_eq, List.length_map] at h2
  have := W.sl
  omega
theorem flatMap_take_succ {α β : Type} (f : α → List β) {l : List α} {i : Nat} {k : α} (h : l[i]? = some k) : (l.take (i + 1)).flatMap f = (l.take i).flatMap f ++ f k := by
  rw [take_succ' h, List.flatMap_append]; simp

section
variable {C : Cx} {n : Nat} {mu : Mu} {Q : AV → Mu → Prop}
set_option maxHeartbeats 8000000 in
theorem ct_all_langsys {a : Ad} (P : Pr C a) {l : Ly} (W : WF l) (h : Q (.list (rowsA a (rowsOf l))) mu) : CL C (n + 1) [avY a l] mu (.ref a.f8) Q := by
  (have K := P.K; obtain ⟨l1, l2, s1, s2, s3, f1, f2, y1, y2, y3⟩ := P.A; obtain ⟨len, sorted, abs, int, range, list, tuple, set, dict⟩ := P.B; have g2 := P.g2; have F2 := P.F2; have g3 := P.g3; have F3 := P.F3; have g4 := P.g4; have F4 := P.F4; have g5 := P.g5; have F5 := P.F5; have g6 := P.g6; have F6 := P.F6; have g7 := P.g7; have F7 := P.F7; have g8 := P.g8; have F8 := P.F8; have g9 := P.g9; have F9 := P.F9; have g16 := P.g16; have F16 := P.F16; have g17 := P.g17; have F17 := P.F17; have g18 := P.g18; have F18 := P.F18; have g19 := P.g19; have F19 := P.F19; have g20 := P.g20; have F20 := P.F20; have g21 := P.g21; have F21 := P.F21; have g22 := P.g22; have F22 := P.F22; have g23 := P.g23; have F23 := P.F23; have gcL := P.gcL; have kcL := P.kcL; have FiL := P.FiL; have gcS := P.gcS; have kcS := P.kcS; have FiS := P.FiS; have gcF := P.gcF; have kcF := P.kcF; have FiF := P.FiF; have gcY := P.gcY; have kcY := P.kcY; have FiY := P.FiY; have info := P.info; have Ftl := P.Ft; have mt := P.mt)
  refine call_fnC K F8 (dα := []) (m0 := [("layout", avY a l)]) (ce := fun _ => []) (fun _ => .nil) rfl rfl rfl rfl (fun _ => by kernel_rfl!) (fun _ => by kernel_rfl!) (by kernel_rfl!) (fun _ => by kernel_rfl!) fun L q cd => ?_
  rw [List.nil_append]
  (refine S_cons (X_assign rfl ?_))
  refine E_list_mut1 ?_
  kt_ktab
  refine ⟨_, _, rfl, Nat.zero_le _, fun D => ?_⟩
  (first
  | ((with_reducible apply st_loc0); rfl; rfl; kernel_rfl!)
  | ((with_reducible apply st_cell' (i := 1)); rfl; kernel_rfl!; rfl; kernel_rfl!)
  | ((with_reducible apply st_cell' (i := 2)); rfl; kernel_rfl!; rfl; kernel_rfl!)
  | ((with_reducible apply st_cell' (i := 3)); rfl; kernel_rfl!; rfl; kernel_rfl!))
  refine S_cons (X_for (fun i mu' => ∃ m', mu' = (L, .ns m') :: (D, .list (rowsA a (((sortS (l.scripts.map (·.1))).take i).flatMap (rowsT l)))) :: mu ∧ Has m' "layout" (avY a l) ∧ Has m' "found" (.val (.ref D))) (fun _ => rfl) ?_)
  (repeat kt_ktab)
  refine l_sorted_dict (by rw [List.length_map]; have := W.sl; omega) ?_
  rw [keys_map']
  refine ⟨_, iter_list, ⟨_, by rw [List.take_zero]; rfl, by (repeat (first | (with_reducible exact lk_here) | (with_reducible assumption) | (apply lk_next; decide +kernel))), by (repeat (first | (with_reducible exact lk_here) | (with_reducible assumption) | (apply lk_next; decide +kernel)))⟩, ?_, ?_⟩
  · rintro i x mu' hx ⟨m', rfl, m1, m2⟩
    obtain ⟨t, ht, rfl⟩ := strsA_at hx
    obtain ⟨sc, hsc⟩ := mem_lookup ((sortS_perm _).mem_iff.mp (List.mem_of_getElem? ht))
    have hmem := lookup_mem hsc
    have hstep : ((sortS (l.scripts.map (·.1))).take (i + 1)).flatMap (rowsT l) = ((sortS (l.scripts.map (·.1))).take i).flatMap (rowsT l) ++ rowsS t sc := by
      rw [flatMap_take_succ _ ht]; unfold rowsT; rw [hsc]
    have hlen := W.rows_take i
    have hll := W.ll _ hmem
    dsimp only at hll
    generalize ((sortS (l.scripts.map (·.1))).take i).flatMap (rowsT l) = R at hstep hlen ⊢
    obtain ⟨tg, df, lg⟩ := sc
    dsimp only at hll
    refine as_name ?_
    (first
  | ((with_reducible apply st_loc0); rfl; rfl; kernel_rfl!)
  | ((with_reducible apply st_cell' (i := 1)); rfl; kernel_rfl!; rfl; kernel_rfl!)
  | ((with_reducible apply st_cell' (i := 2)); rfl; kernel_rfl!; rfl; kernel_rfl!)
  | ((with_reducible apply st_cell' (i := 3)); rfl; kernel_rfl!; rfl; kernel_rfl!))
    (refine S_cons (X_assign rfl ?_))
    (repeat kt_ktab)
    refine s_dict (x := avS a ⟨tg, df, lg⟩) (by rw [lookup_map', hsc]; rfl) (fun _ _ => rfl) ?_
    (first
  | ((with_reducible apply st_loc0); rfl; rfl; kernel_rfl!)
  | ((with_reducible apply st_cell' (i := 1)); rfl; kernel_rfl!; rfl; kernel_rfl!)
  | ((with_reducible apply st_cell' (i := 2)); rfl; kernel_rfl!; rfl; kernel_rfl!)
  | ((with_reducible apply st_cell' (i := 3)); rfl; kernel_rfl!; rfl; kernel_rfl!))
    refine S_cons (X_ifJ (fun mu' => ∃ m', mu' = (L, .ns m') :: (D, .list (rowsA a (R ++ dRow t df))) :: mu ∧ Has m' "layout" (avY a l) ∧ Has m' "found" (.val (.ref D)) ∧ Has m' "tag" (.str t) ∧ Has m' "script" (avS a ⟨tg, df, lg⟩)) ?_ ?_)
    · cases df with
      | none =>
        (repeat kt_ktab)
        exact S_end ⟨_, by rw [show dRow t none = [] from rfl, List.append_nil], by (repeat (first | (with_reducible exact lk_here) | (with_reducible assumption) | (apply lk_next; decide +kernel))), by (repeat (first | (with_reducible exact lk_here) | (with_reducible assumption) | (apply lk_next; decide +kernel))), by (repeat (first | (with_reducible exact lk_here) | (with_reducible assumption) | (apply lk_next; decide +kernel))), by (repeat (first | (with_reducible exact lk_here) | (with_reducible assumption) | (apply lk_next; decide +kernel)))⟩
      | some d =>
        (repeat kt_ktab)
        (refine S_cons (X_expr (by kernel_rfl!) rfl ?_))
        ((with_reducible apply E_meth); rfl; rfl; rfl)
        (repeat kt_ktab)
        refine ⟨getm_list (i := 1) PySem.F.slot_list_append rfl rfl, ?_⟩
        (repeat kt_ktab)
        refine l_append (i := 1) rfl (by rw [rowsA_len]; omega) ?_
        refine ⟨rfl, ?_⟩
        (simp only [List.set_cons_zero, List.set_cons_succ])
        exact S_end ⟨_, by rw [show dRow t (some d) = [((t, ("dflt" : Str), d) : Row)] from rfl, rowsA_snoc]; rfl, by (repeat (first | (with_reducible exact lk_here) | (with_reducible assumption) | (apply lk_next; decide +kernel))), by (repeat (first | (with_reducible exact lk_here) | (with_reducible assumption) | (apply lk_next; decide +kernel))), by (repeat (first | (with_reducible exact lk_here) | (with_reducible assumption) | (apply lk_next; decide +kernel))), by (repeat (first | (with_reducible exact lk_here) | (with_reducible assumption) | (apply lk_next; decide +kernel)))⟩
    · rintro mu' ⟨m', rfl, m1, m2, m3, m4⟩
      refine S_cons (X_for (fun j mu' => ∃ m', mu' = (L, .ns m') :: (D, .list (rowsA a (R ++ dRow t df ++ ((sortS (lg.map (·.1))).take j).flatMap (lRow t lg)))) :: mu ∧ Has m' "layout" (avY a l) ∧ Has m' "found" (.val (.ref D)) ∧ Has m' "tag" (.str t) ∧ Has m' "script" (avS a ⟨tg, df, lg⟩)) (fun _ => rfl) ?_)
      (repeat kt_ktab)
      refine l_sorted_dict (by rw [List.length_map]; show lg.length < 64; omega) ?_
      rw [keys_map']
      refine ⟨_, iter_list, ⟨_, by rw [List.take_zero, List.flatMap_nil, List.append_nil], m1, m2, m3, m4⟩, ?_, ?_⟩
      · rintro j x mu' hx ⟨m', rfl, m1, m2, m3, m4⟩
        obtain ⟨g, hg, rfl⟩ := strsA_at hx
        obtain ⟨s, hs⟩ := mem_lookup ((sortS_perm _).mem_iff.mp (List.mem_of_getElem? hg))
        have hst : ((sortS (lg.map (·.1))).take (j + 1)).flatMap (lRow t lg) = ((sortS (lg.map (·.1))).take j).flatMap (lRow t lg) ++ [(t, g, s)] := by
          rw [flatMap_take_succ _ hg]; unfold lRow; rw [hs]
        have hb := flatMap_len (l := (sortS (lg.map (·.1))).take j) (f := lRow t lg) fun g _ => lRow_len t lg g
        have hb2 := List.length_take_le' j (sortS (lg.map (·.1)))
        rw [(sortS_perm _).length_eq, List.length_map] at hb2
        have hd1 := dRow_len t df
        refine as_name ?_
        (first
  | ((with_reducible apply st_loc0); rfl; rfl; kernel_rfl!)
  | ((with_reducible apply st_cell' (i := 1)); rfl; kernel_rfl!; rfl; kernel_rfl!)
  | ((with_reducible apply st_cell' (i := 2)); rfl; kernel_rfl!; rfl; kernel_rfl!)
  | ((with_reducible apply st_cell' (i := 3)); rfl; kernel_rfl!; rfl; kernel_rfl!))
        (refine S_cons (X_expr (by kernel_rfl!) rfl ?_))
        ((with_reducible apply E_meth); rfl; rfl; rfl)
        (repeat kt_ktab)
        refine ⟨getm_list (i := 1) PySem.F.slot_list_append rfl rfl, ?_⟩
        (repeat kt_ktab)
        refine s_dict (x := avL a s) (by rw [lookup_map', hs]; rfl) (fun _ _ => rfl) ?_
        (repeat kt_ktab)
        refine l_append (i := 1) rfl (by rw [rowsA_len, List.length_append, List.length_append]; omega) ?_
        refine ⟨rfl, ?_⟩
        (simp only [List.set_cons_zero, List.set_cons_succ])
        exact L_end ⟨_, by rw [hst, ← List.append_assoc, rowsA_snoc]; rfl, by (repeat (first | (with_reducible exact lk_here) | (with_reducible assumption) | (apply lk_next; decide +kernel))), by (repeat (first | (with_reducible exact lk_here) | (with_reducible assumption) | (apply lk_next; decide +kernel))), by (repeat (first | (with_reducible exact lk_here) | (with_reducible assumption) | (apply lk_next; decide +kernel))), by (repeat (first | (with_reducible exact lk_here) | (with_reducible assumption) | (apply lk_next; decide +kernel)))⟩
      · rintro mu' ⟨m', rfl, m1, m2, m3, m4⟩
        rw [strsA_len, List.take_length]
        exact L_end ⟨_, by rw [hstep]; unfold rowsS; rw [← List.append_assoc], m1, m2⟩
  · rintro mu' ⟨m', rfl, m1, m2⟩
    rw [strsA_len, List.take_length]
    refine WT.frzNs (x := "found") (a := D) (L := L) (m := m') (mu1 := (L, .ns m') :: mu) (i := 0) mono_true (.inl ⟨_, rfl, rfl⟩) (List.Perm.swap ..) rfl m2 ?_
    (simp only [List.set_cons_zero, List.set_cons_succ])
    (refine S_cons (X_ret ?_))
    (repeat kt_ktab)
    exact ⟨[(L, _)], mu, .refl _, h⟩
end
end Mine
end
section
open PySem PySem.W PyProof.Rows PySem.SeqAt PySem.Spec
set_option maxHeartbeats 4000000
namespace Mine

section
variable {C : Cx} {n : Nat} {mu : Mu} {env : Env}
theorem as3 {x y z : Str} {px py pz pos : Pos} {k : Nat} {α β γ : AV} {P : Unit → Mu → Prop} (h : Wst C n α mu env x fun _ mu1 => Wst C n β mu1 env y fun _ mu2 => Wst C n γ mu2 env z P) :
    Was C n (.tup [α, β, γ]) mu env (.Tuple [.Name x px, .Name y py, .Name z pz] k pos) P := by
  refine as_tuple (ts := [assign (.Name x px) env, assign (.Name y py) env, assign (.Name z pz) env]) rfl rfl ?_
  exact as_name (fun v => WT.mono (h v) fun _ mu1 h1 => as_name (fun v => WT.mono (h1 v) fun _ mu2 h2 => as_name h2))
theorem as2 {x y : Str} {px py pos : Pos} {k : Nat} {α β : AV} {P : Unit → Mu → Prop} (h : Wst C n α mu env x fun _ mu1 => Wst C n β mu1 env y P) :
    Was C n (.tup [α, β]) mu env (.Tuple [.Name x px, .Name y py] k pos) P := by
  refine as_tuple (ts := [assign (.Name x px) env, assign (.Name y py) env]) rfl rfl ?_
  exact as_name (fun v => WT.mono (h v) fun _ mu1 h1 => as_name h1)
end

theorem natsA_append (a b : List Nat) : natsA (a ++ b) = natsA a ++ natsA b := by simp [natsA]
/-! asked_lookups -/
def selL (l : Ly) (acc : List Nat) (x : Nat) : Bool := decide (x < l.nl) && decide (x ∉ acc)
def stepF (l : Ly) (acc : List Nat) (k : Int) : List Nat := match feat? l k with
  | some f => acc ++ f.lks.filter (selL l acc)
  | none => acc
def numsOf (s : LS) : List Int := s.req :: s.feats.map fun k : Nat => (k : Int)
def rowF (l : Ly) (acc : List Nat) (r : Row) : List Nat := (numsOf r.2.2).foldl (stepF l) acc
def asked0 (l : Ly) : List Nat := (rowsOf l).foldl (rowF l) []
def asked (l : Ly) : List Nat := setOf (asked0 l)
theorem nums_eq (s : LS) : [AV.int s.req] ++ natsA s.feats = intsA (numsOf s) := by rw [natsA_eq]; simp [numsOf, intsA]
theorem intsA_at {l : List Int} {i : Nat} {x : AV} (h : (intsA l)[i]? = some x) : ∃ k, l[i]? = some k ∧ x = .int k := by
  unfold intsA at h
  rw [List.getElem?_map] at h
  obtain ⟨k, h1, h2⟩ := Option.map_eq_some_iff.mp h
  exact ⟨k, h1, h2.symm⟩
theorem intsA_len (l : List Int) : (intsA l).length = l.length := by simp [intsA]
theorem WF.step_len {l : Ly} (W : WF l) (acc : List Nat) (k : Int) : (stepF l acc k).length ≤ acc.length + 4 := by
  unfold stepF
  cases h : feat? l k with
  | none => simp
  | some f =>
    have h1 := (W.ft f (feat_mem h)).2
    have h2 := List.length_filter_le (selL l acc) f.lks
    simp; omega
theorem foldl_len {α β : Type} {f : List β → α → List β} {c : Nat} (h : ∀ acc x, (f acc x).length ≤ acc.length + c) : ∀ (l : List α) (acc : List β), (l.foldl f acc).length ≤ acc.length + c * l.length
  | [], acc => by simp
  | x :: r, acc => by
    rw [List.foldl_cons, List.length_cons, Nat.mul_succ]
    have h1 := h acc x
    have h2 := foldl_len h r (f acc x)
    omega
theorem foldl_len' {α β : Type} {f : List β → α → List β} {c : Nat} : ∀ (l : List α) (acc : List β), (∀ x ∈ l, ∀ acc, (f acc x).length ≤ acc.length + c) → (l.foldl f acc).length ≤ acc.length + c * l.length
  | [], acc, h => by simp
  | x :: r, acc, h => by
    rw [List.foldl_cons, List.length_cons, Nat.mul_succ]
    have h1 := h x (List.mem_cons_self ..) acc
    have h2 := foldl_len' r (f acc x) fun y hy => h y (.tail _ hy)
    omega
theorem WF.row_feats {l : Ly} (W : WF l) {r : Row} (h : r ∈ rowsOf l) : r.2.2.feats.length ≤ 4 := by
  unfold rowsOf at h
  obtain ⟨t, _, h⟩ := List.mem_flatMap.mp h
  unfold rowsT at h
  cases hs : l.scripts.lookup t with
  | none => rw [hs] at h; cases h
  | some sc =>
    rw [hs] at h
    have hm := lookup_mem hs
    rcases List.mem_append.mp h with h | h
    · cases hd : sc.dflt with
      | none => rw [hd] at h; cases h
      | some d =>
        rw [hd] at h
        rw [List.mem_singleton.mp h]
        exact W.sd _ hm d hd
    · obtain ⟨g, _, h⟩ := List.mem_flatMap.mp h
      unfold lRow at h
      cases hg : sc.langs.lookup g with
      | none => rw [hg] at h; cases h
      | some s =>
        rw [hg] at h
        rw [List.mem_singleton.mp h]
        exact (W.lo _ hm _ (lookup_mem hg)).2.2
theorem WF.rows_len {l : Ly} (W : WF l) : (rowsOf l).length ≤ 9 := by
  have := W.rows_take (sortS (l.scripts.map (·.1))).length
  rwa [List.take_length] at this
theorem WF.rowF_len {l : Ly} (W : WF l) {r : Row} (h : r ∈ rowsOf l) (acc : List Nat) : (rowF l acc r).length ≤ acc.length + 20 := by
  have h1 := foldl_len (f := stepF l) (c := 4) (W.step_len) (numsOf r.2.2) acc
  have h2 := W.row_feats h
  have h3 : (numsOf r.2.2).length = r.2.2.feats.length + 1 := by simp [numsOf]
  unfold rowF
  omega
theorem WF.asked_take {l : Ly} (W : WF l) (i : Nat) : (((rowsOf l).take i).foldl (rowF l) []).length ≤ 180 := by
  have h := foldl_len' (f := rowF l) (c := 20) ((rowsOf l).take i) [] fun r hr acc => W.rowF_len (List.mem_of_mem_take hr) acc
  have h2 := List.length_take_le' i (rowsOf l)
  have h3 := W.rows_len
  simp only [List.length_nil] at h
  omega
theorem stepF_lt {l : Ly} {acc : List Nat} {k : Int} (h : ∀ x ∈ acc, x < l.nl) : ∀ x ∈ stepF l acc k, x < l.nl := by
  unfold stepF
  cases feat? l k with
  | none => exact h
  | some f =>
    intro x hx
    rcases List.mem_append.mp hx with hx | hx
    · exact h x hx
    · have := (List.mem_filter.mp hx).2
      unfold selL at this
      simp at this
      exact this.1
theorem foldl_lt {α : Type} {f : List Nat → α → List Nat} {c : Nat} (hf : ∀ acc x, (∀ y ∈ acc, y < c) → ∀ y ∈ f acc x, y < c) : ∀ (l : List α) (acc : List Nat), (∀ y ∈ acc, y < c) → ∀ y ∈ l.foldl f acc, y < c
  | [], acc, h => h
  | x :: r, acc, h => foldl_lt hf r _ (hf acc x h)
theorem asked0_lt (l : Ly) : ∀ x ∈ asked0 l, x < l.nl := foldl_lt (fun acc r h => foldl_lt (fun acc k h => stepF_lt h) (numsOf r.2.2) acc h) (rowsOf l) [] (fun _ h => nomatch h)
theorem small_of_lt {l : List Nat} {c : Nat} (h : ∀ x ∈ l, x < c) (hc : c ≤ 6) : small6 l := fun x hx => by
  have := h x hx
  have : x < 6 := by omega
  simp; omega
theorem asked0_small {l : Ly} (W : WF l) : small6 (asked0 l) := small_of_lt (asked0_lt l) W.nl

section
variable {C : Cx} {n : Nat} {mu : Mu} {Q : AV → Mu → Prop}
set_option maxHeartbeats 8000000 in
theorem ct_asked_lookups {a : Ad} (P : Pr C a) {l : Ly} (W : WF l) (h : Q (.list (natsA (asked l))) mu) : CL C (n + 2) [avY a l] mu (.ref a.f9) Q := by
  (have K := P.K; obtain ⟨l1, l2, s1, s2, s3, f1, f2, y1, y2, y3⟩ := P.A; obtain ⟨len, sorted, abs, int, range, list, tuple, set, dict⟩ := P.B; have g2 := P.g2; have F2 := P.F2; have g3 := P.g3; have F3 := P.F3; have g4 := P.g4; have F4 := P.F4; have g5 := P.g5; have F5 := P.F5; have g6 := P.g6; have F6 := P.F6; have g7 := P.g7; have F7 := P.F7; have g8 := P.g8; have F8 := P.F8; have g9 := P.g9; have F9 := P.F9; have g16 := P.g16; have F16 := P.F16; have g17 := P.g17; have F17 := P.F17; have g18 := P.g18; have F18 := P.F18; have g19 := P.g19; have F19 := P.F19; have g20 := P.g20; have F20 := P.F20; have g21 := P.g21; have F21 := P.F21; have g22 := P.g22; have F22 := P.F22; have g23 := P.g23; have F23 := P.F23; have gcL := P.gcL; have kcL := P.kcL; have FiL := P.FiL; have gcS := P.gcS; have kcS := P.kcS; have FiS := P.FiS; have gcF := P.gcF; have kcF := P.kcF; have FiF := P.FiF; have gcY := P.gcY; have kcY := P.kcY; have FiY := P.FiY; have info := P.info; have Ftl := P.Ft; have mt := P.mt)
  refine call_fnC K F9 (dα := []) (m0 := []) (ce := fun L => [(L + 2, .cell none), (L + 1, .cell (some (avY a l)))]) (fun _ => .nil) rfl rfl rfl rfl (fun _ => by kernel_rfl!) (fun _ => by kernel_rfl!) (by kernel_rfl!) (fun _ => by kernel_rfl!) fun L q cd => ?_
  rw [List.cons_append, List.cons_append, List.nil_append]
  have hfl := W.fl
  (refine S_cons (X_assign rfl ?_))
  refine E_list_mut1 ?_
  kt_ktab
  refine ⟨_, _, rfl, Nat.zero_le _, fun D => ?_⟩
  (first
  | ((with_reducible apply st_loc0); rfl; rfl; kernel_rfl!)
  | ((with_reducible apply st_cell' (i := 1)); rfl; kernel_rfl!; rfl; kernel_rfl!)
  | ((with_reducible apply st_cell' (i := 2)); rfl; kernel_rfl!; rfl; kernel_rfl!)
  | ((with_reducible apply st_cell' (i := 3)); rfl; kernel_rfl!; rfl; kernel_rfl!))
  (simp only [List.set_cons_zero, List.set_cons_succ])
  refine S_cons (X_for (fun i mu' => ∃ m', mu' = (L, .ns m') :: (D, .list (natsA (((rowsOf l).take i).foldl (rowF l) []))) :: (L + 2, .cell (some (.val (.ref D)))) :: (L + 1, .cell (some (avY a l))) :: mu) (fun _ => rfl) ?_)
  (repeat kt_ktab)
  refine (ct_all_langsys P W ?_).call
  refine ⟨rowsA a (rowsOf l), iter_list, ⟨_, by rw [List.take_zero]; rfl⟩, ?_, ?_⟩
  · rintro i x mu' hx ⟨m', rfl⟩
    obtain ⟨r, hr, rfl⟩ : ∃ r, (rowsOf l)[i]? = some r ∧ x = rowA a r := by
      unfold rowsA at hx
      rw [List.getElem?_map] at hx
      obtain ⟨r, h1, h2⟩ := Option.map_eq_some_iff.mp hx
      exact ⟨r, h1, h2.symm⟩
    have hrm : r ∈ rowsOf l := List.mem_of_getElem? hr
    have hstep : ((rowsOf l).take (i + 1)).foldl (rowF l) [] = rowF l (((rowsOf l).take i).foldl (rowF l) []) r := foldl_take_succ _ _ hr
    have hlen := W.asked_take i
    have hff := W.row_feats hrm
    generalize ((rowsOf l).take i).foldl (rowF l) [] = acc at hstep hlen ⊢
    obtain ⟨t, g, s⟩ := r
    dsimp only at hff
    refine as3 ?_
    (first
  | ((with_reducible apply st_loc0); rfl; rfl; kernel_rfl!)
  | ((with_reducible apply st_cell' (i := 1)); rfl; kernel_rfl!; rfl; kernel_rfl!)
  | ((with_reducible apply st_cell' (i := 2)); rfl; kernel_rfl!; rfl; kernel_rfl!)
  | ((with_reducible apply st_cell' (i := 3)); rfl; kernel_rfl!; rfl; kernel_rfl!))
    (first
  | ((with_reducible apply st_loc0); rfl; rfl; kernel_rfl!)
  | ((with_reducible apply st_cell' (i := 1)); rfl; kernel_rfl!; rfl; kernel_rfl!)
  | ((with_reducible apply st_cell' (i := 2)); rfl; kernel_rfl!; rfl; kernel_rfl!)
  | ((with_reducible apply st_cell' (i := 3)); rfl; kernel_rfl!; rfl; kernel_rfl!))
    (first
  | ((with_reducible apply st_loc0); rfl; rfl; kernel_rfl!)
  | ((with_reducible apply st_cell' (i := 1)); rfl; kernel_rfl!; rfl; kernel_rfl!)
  | ((with_reducible apply st_cell' (i := 2)); rfl; kernel_rfl!; rfl; kernel_rfl!)
  | ((with_reducible apply st_cell' (i := 3)); rfl; kernel_rfl!; rfl; kernel_rfl!))
    refine S_cons (X_for (fun j mu' => ∃ m', mu' = (L, .ns m') :: (D, .list (natsA (((numsOf s).take j).foldl (stepF l) acc))) :: (L + 2, .cell (some (.val (.ref D)))) :: (L + 1, .cell (some (avY a l))) :: mu) (fun _ => rfl) ?_)
    kt_ktab
    refine E_list ?_
    (repeat kt_ktab)
    refine b_add_list (by rw [natsA_len]; simp; omega) ?_
    rw [nums_eq]
    refine ⟨_, iter_list, ⟨_, by rw [List.take_zero]; rfl⟩, ?_, ?_⟩
    · rintro j x mu' hx ⟨m', rfl⟩
      obtain ⟨k, hk, rfl⟩ := intsA_at hx
      have hst : ((numsOf s).take (j + 1)).foldl (stepF l) acc = stepF l (((numsOf s).take j).foldl (stepF l) acc) k := foldl_take_succ _ _ hk
      have hl2 := foldl_len (f := stepF l) (c := 4) (W.step_len) ((numsOf s).take j) acc
      have hl3 := List.length_take_le' j (numsOf s)
      have hl4 : (numsOf s).length = s.feats.length + 1 := by simp [numsOf]
      generalize ((numsOf s).take j).foldl (stepF l) acc = ac at hst hl2 ⊢
      have hac : ac.length ≤ 200 := by omega
      refine as_name ?_
      (first
  | ((with_reducible apply st_loc0); rfl; rfl; kernel_rfl!)
  | ((with_reducible apply st_cell' (i := 1)); rfl; kernel_rfl!; rfl; kernel_rfl!)
  | ((with_reducible apply st_cell' (i := 2)); rfl; kernel_rfl!; rfl; kernel_rfl!)
  | ((with_reducible apply st_cell' (i := 3)); rfl; kernel_rfl!; rfl; kernel_rfl!))
      (refine S_cons (X_assign rfl ?_))
      (repeat kt_ktab)
      refine (ct_feature_at P (by omega) ?_).call
      (first
  | ((with_reducible apply st_loc0); rfl; rfl; kernel_rfl!)
  | ((with_reducible apply st_cell' (i := 1)); rfl; kernel_rfl!; rfl; kernel_rfl!)
  | ((with_reducible apply st_cell' (i := 2)); rfl; kernel_rfl!; rfl; kernel_rfl!)
  | ((with_reducible apply st_cell' (i := 3)); rfl; kernel_rfl!; rfl; kernel_rfl!))
      cases hf : feat? l k with
      | none =>
        have e : stepF l ac k = ac := by unfold stepF; rw [hf]
        (refine S_cons (X_if ?_))
        (repeat kt_ktab)
        refine S_nil ?_
        exact L_end ⟨_, by rw [hst, e]⟩
      | some f =>
        have e : stepF l ac k = ac ++ f.lks.filter (selL l ac) := by unfold stepF; rw [hf]
        have hlk := (W.ft f (feat_mem hf)).2
        (refine S_cons (X_if ?_))
        (repeat kt_ktab)
        (refine S_cons (X_expr (by kernel_rfl!) rfl ?_))
        ((with_reducible apply E_meth); rfl; rfl; rfl)
        (repeat kt_ktab)
        refine ⟨getm_list (i := 1) PySem.F.slot_list_extend rfl rfl, ?_⟩
        kt_ktab
        refine E_compF (cl := [("layout", L + 1), ("found", L + 2)]) (fun i ys mu' => mu' = (L, .ns (("feature", avF a f) :: ("number", .int k) :: m')) :: (D, .list (natsA ac)) :: (L + 2, .cell (some (.val (.ref D)))) :: (L + 1, .cell (some (avY a l))) :: mu ∧ ys = natsA ((f.lks.take i).filter (selL l ac))) (fun _ => rfl) (by kernel_rfl!) (by decide +kernel) rfl (by decide +kernel) ?_ ?_
        · rintro i ys mu' ⟨_, rfl⟩
          rw [natsA_len]
          have := List.length_filter_le (selL l ac) (f.lks.take i)
          have := List.length_take_le i f.lks
          omega
        (repeat kt_ktab)
        refine ⟨natsA f.lks, iter_list, by rw [natsA_len]; omega, ⟨rfl, rfl⟩, ?_, ?_⟩
        · rintro D' mc i x ys mu' hx ⟨rfl, rfl⟩
          obtain ⟨k, hk, rfl⟩ := natsA_at hx
          have hs2 : ∀ b, selL l ac k = b → (f.lks.take (i + 1)).filter (selL l ac) = (f.lks.take i).filter (selL l ac) ++ (if b then [k] else []) := fun b hb => by
            rw [take_succ' hk, List.filter_append]; congr 1
            subst hb
            rw [List.filter_cons]; rfl
          refine as_name ?_
          (first
  | ((with_reducible apply st_loc0); rfl; rfl; kernel_rfl!)
  | ((with_reducible apply st_cell' (i := 1)); rfl; kernel_rfl!; rfl; kernel_rfl!)
  | ((with_reducible apply st_cell' (i := 2)); rfl; kernel_rfl!; rfl; kernel_rfl!)
  | ((with_reducible apply st_cell' (i := 3)); rfl; kernel_rfl!; rfl; kernel_rfl!))
          refine tests_one ?_
          (repeat kt_ktab)
          refine l_len (by rw [List.length_replicate]; have := W.nl; omega) ?_
          rw [List.length_replicate]
          refine k_lt (fun h1 => ?_) (fun h1 => ?_)
          · (repeat kt_ktab)
            refine k_notin_nats (i := 2) rfl (fun h2 => ?_) (fun h2 => ?_)
            · (repeat kt_ktab)
              have hb : selL l ac k = true := by unfold selL; simp [h2]; omega
              exact ⟨_, _, rfl, rfl, by rw [hs2 _ hb]; simp [natsA]⟩
            · (repeat kt_ktab)
              have hb : selL l ac k = false := by unfold selL; simp [h2]
              exact ⟨_, _, rfl, rfl, by rw [hs2 _ hb]; simp⟩
          · (repeat kt_ktab)
            have hb : selL l ac k = false := by unfold selL; simp; omega
            exact ⟨_, _, rfl, rfl, by rw [hs2 _ hb]; simp⟩
        · rintro ys mu' ⟨rfl, rfl⟩
          rw [natsA_len, List.take_length]
          (repeat kt_ktab)
          have hfl := List.length_filter_le (selL l ac) f.lks
          refine l_extend (i := 1) rfl (by rw [natsA_len, natsA_len]; omega) ?_
          refine ⟨rfl, ?_⟩
          (simp only [List.set_cons_zero, List.set_cons_succ])
          refine S_nil ?_
          exact L_end ⟨_, by rw [hst, e, natsA_append]⟩
    · rintro mu' ⟨m', rfl⟩
      rw [intsA_len, List.take_length]
      exact L_end ⟨_, by rw [hstep]; rfl⟩
  · rintro mu' ⟨m', rfl⟩
    rw [rowsA_len, List.take_length]
    refine WT.frzCell (a := D) (c := L + 2) (mu1 := (L, .ns m') :: (L + 2, .cell (some (.val (.ref D)))) :: (L + 1, .cell (some (avY a l))) :: mu) (i := 1) mono_true (.inl ⟨_, rfl, rfl⟩) (List.Perm.swap ..) rfl ?_
    (simp only [List.set_cons_zero, List.set_cons_succ])
    (refine S_cons (X_ret ?_))
    (repeat kt_ktab)
    have hl := W.asked_take (rowsOf l).length
    rw [List.take_length] at hl
    refine l_set (asked0_small W) (by show (asked0 l).length ≤ 1000; unfold asked0; omega) ?_
    (repeat kt_ktab)
    refine l_sorted_set (setOf_subs (asked0_small W)) ?_
    exact ⟨[(L, _), (L + 2, _), (L + 1, _)], mu, .refl _, h⟩
end
end Mine
end
section
open PySem PySem.W PyProof.Rows PySem.SeqAt PySem.Spec
set_option maxHeartbeats 4000000
namespace Mine
section
variable {C : Cx} {n : Nat} {mu : Mu} {Q : AV → Mu → Prop}
set_option maxHeartbeats 8000000 in
theorem mk_LangSys {a : Ad} (P : Pr C a) {r : Int} {fs : List Nat} (hz : fs.length ≤ 100) (h : Q (avL a ⟨r, fs⟩) mu) : WL C (n + 2) [(.int r), (.list (natsA fs))] mu (fun vs => call (.ref a.cL) vs) Q := by
  (have K := P.K; obtain ⟨l1, l2, s1, s2, s3, f1, f2, y1, y2, y3⟩ := P.A; obtain ⟨len, sorted, abs, int, range, list, tuple, set, dict⟩ := P.B; have g2 := P.g2; have F2 := P.F2; have g3 := P.g3; have F3 := P.F3; have g4 := P.g4; have F4 := P.F4; have g5 := P.g5; have F5 := P.F5; have g6 := P.g6; have F6 := P.F6; have g7 := P.g7; have F7 := P.F7; have g8 := P.g8; have F8 := P.F8; have g9 := P.g9; have F9 := P.F9; have g16 := P.g16; have F16 := P.F16; have g17 := P.g17; have F17 := P.F17; have g18 := P.g18; have F18 := P.F18; have g19 := P.g19; have F19 := P.F19; have g20 := P.g20; have F20 := P.F20; have g21 := P.g21; have F21 := P.F21; have g22 := P.g22; have F22 := P.F22; have g23 := P.g23; have F23 := P.F23; have gcL := P.gcL; have kcL := P.kcL; have FiL := P.FiL; have gcS := P.gcS; have kcS := P.kcS; have FiS := P.FiS; have gcF := P.gcF; have kcF := P.kcF; have FiF := P.FiF; have gcY := P.gcY; have kcY := P.kcY; have FiY := P.FiY; have info := P.info; have Ftl := P.Ft; have mt := P.mt)
  refine mk_obj P.mcL fun x d => ?_
  refine call_fnC K FiL (dα := []) (m0 := [("features", (.list (natsA fs))), ("required", (.int r)), ("self", (.val (.ref x)))]) (ce := fun _ => []) (fun _ => .nil) rfl rfl rfl rfl (fun _ => by kernel_rfl!) (fun _ => by kernel_rfl!) (by kernel_rfl!) (fun _ => by kernel_rfl!) fun L q cd => ?_
  rw [List.nil_append]
  refine S_cons (X_setattr rfl ?_)
  (repeat kt_ktab)
  refine ⟨x, rfl, set_attr (i := 1) (j := 2) P.scL0 rfl rfl (by kernel_rfl!) (by simp) ?_⟩
  (simp only [List.set_cons_zero, List.set_cons_succ])
  refine S_cons (X_setattr rfl ?_)
  (repeat kt_ktab)
  refine l_list (by rw [natsA_len]; omega) ?_
  (repeat kt_ktab)
  refine ⟨x, rfl, set_attr (i := 1) (j := 2) P.scL1 rfl rfl (by kernel_rfl!) (by simp) ?_⟩
  (simp only [List.set_cons_zero, List.set_cons_succ])
  refine S_nil ?_
  exact ⟨[(L, _)], _, .refl _, rfl, _, mu, List.Perm.swap .., h⟩
set_option maxHeartbeats 8000000 in
theorem mk_Feature {a : Ad} (P : Pr C a) {t : Str} {fs : List Nat} (hz : fs.length ≤ 100) (h : Q (avF a ⟨t, fs⟩) mu) : WL C (n + 2) [(.str t), (.list (natsA fs))] mu (fun vs => call (.ref a.cF) vs) Q := by
  (have K := P.K; obtain ⟨l1, l2, s1, s2, s3, f1, f2, y1, y2, y3⟩ := P.A; obtain ⟨len, sorted, abs, int, range, list, tuple, set, dict⟩ := P.B; have g2 := P.g2; have F2 := P.F2; have g3 := P.g3; have F3 := P.F3; have g4 := P.g4; have F4 := P.F4; have g5 := P.g5; have F5 := P.F5; have g6 := P.g6; have F6 := P.F6; have g7 := P.g7; have F7 := P.F7; have g8 := P.g8; have F8 := P.F8; have g9 := P.g9; have F9 := P.F9; have g16 := P.g16; have F16 := P.F16; have g17 := P.g17; have F17 := P.F17; have g18 := P.g18; have F18 := P.F18; have g19 := P.g19; have F19 := P.F19; have g20 := P.g20; have F20 := P.F20; have g21 := P.g21; have F21 := P.F21; have g22 := P.g22; have F22 := P.F22; have g23 := P.g23; have F23 := P.F23; have gcL := P.gcL; have kcL := P.kcL; have FiL := P.FiL; have gcS := P.gcS; have kcS := P.kcS; have FiS := P.FiS; have gcF := P.gcF; have kcF := P.kcF; have FiF := P.FiF; have gcY := P.gcY; have kcY := P.kcY; have FiY := P.FiY; have info := P.info; have Ftl := P.Ft; have mt := P.mt)
  refine mk_obj P.mcF fun x d => ?_
  refine call_fnC K FiF (dα := []) (m0 := [("lookups", (.list (natsA fs))), ("tag", (.str t)), ("self", (.val (.ref x)))]) (ce := fun _ => []) (fun _ => .nil) rfl rfl rfl rfl (fun _ => by kernel_rfl!) (fun _ => by kernel_rfl!) (by kernel_rfl!) (fun _ => by kernel_rfl!) fun L q cd => ?_
  rw [List.nil_append]
  refine S_cons (X_setattr rfl ?_)
  (repeat kt_ktab)
  refine ⟨x, rfl, set_attr (i := 1) (j := 2) P.scF0 rfl rfl (by kernel_rfl!) (by simp) ?_⟩
  (simp only [List.set_cons_zero, List.set_cons_succ])
  refine S_cons (X_setattr rfl ?_)
  (repeat kt_ktab)
  refine l_list (by rw [natsA_len]; omega) ?_
  (repeat kt_ktab)
  refine ⟨x, rfl, set_attr (i := 1) (j := 2) P.scF1 rfl rfl (by kernel_rfl!) (by simp) ?_⟩
  (simp only [List.set_cons_zero, List.set_cons_succ])
  refine S_nil ?_
  exact ⟨[(L, _)], _, .refl _, rfl, _, mu, List.Perm.swap .., h⟩
set_option maxHeartbeats 8000000 in
theorem mk_Script {a : Ad} (P : Pr C a) {t : Str} {df : Option LS} {lg : List (Str × LS)} (h : Q (avS a ⟨t, df, lg⟩) mu) : WL C (n + 2) [(.str t), (avO (avL a) df), (.dict (lg.map fun p => (p.1, avL a p.2)))] mu (fun vs => call (.ref a.cS) vs) Q := by
  (have K := P.K; obtain ⟨l1, l2, s1, s2, s3, f1, f2, y1, y2, y3⟩ := P.A; obtain ⟨len, sorted, abs, int, range, list, tuple, set, dict⟩ := P.B; have g2 := P.g2; have F2 := P.F2; have g3 := P.g3; have F3 := P.F3; have g4 := P.g4; have F4 := P.F4; have g5 := P.g5; have F5 := P.F5; have g6 := P.g6; have F6 := P.F6; have g7 := P.g7; have F7 := P.F7; have g8 := P.g8; have F8 := P.F8; have g9 := P.g9; have F9 := P.F9; have g16 := P.g16; have F16 := P.F16; have g17 := P.g17; have F17 := P.F17; have g18 := P.g18; have F18 := P.F18; have g19 := P.g19; have F19 := P.F19; have g20 := P.g20; have F20 := P.F20; have g21 := P.g21; have F21 := P.F21; have g22 := P.g22; have F22 := P.F22; have g23 := P.g23; have F23 := P.F23; have gcL := P.gcL; have kcL := P.kcL; have FiL := P.FiL; have gcS := P.gcS; have kcS := P.kcS; have FiS := P.FiS; have gcF := P.gcF; have kcF := P.kcF; have FiF := P.FiF; have gcY := P.gcY; have kcY := P.kcY; have FiY := P.FiY; have info := P.info; have Ftl := P.Ft; have mt := P.mt)
  refine mk_obj P.mcS fun x d => ?_
  refine call_fnC K FiS (dα := []) (m0 := [("languages", (.dict (lg.map fun p => (p.1, avL a p.2)))), ("default", (avO (avL a) df)), ("tag", (.str t)), ("self", (.val (.ref x)))]) (ce := fun _ => []) (fun _ => .nil) rfl rfl rfl rfl (fun _ => by kernel_rfl!) (fun _ => by kernel_rfl!) (by kernel_rfl!) (fun _ => by kernel_rfl!) fun L q cd => ?_
  rw [List.nil_append]
  refine S_cons (X_setattr rfl ?_)
  (repeat kt_ktab)
  refine ⟨x, rfl, set_attr (i := 1) (j := 2) P.scS0 rfl rfl (by kernel_rfl!) (by simp) ?_⟩
  (simp only [List.set_cons_zero, List.set_cons_succ])
  refine S_cons (X_setattr rfl ?_)
  (repeat kt_ktab)
  refine ⟨x, rfl, set_attr (i := 1) (j := 2) P.scS1 rfl rfl (by kernel_rfl!) (by simp) ?_⟩
  (simp only [List.set_cons_zero, List.set_cons_succ])
  refine S_cons (X_setattr rfl ?_)
  (repeat kt_ktab)
  refine ⟨x, rfl, set_attr (i := 1) (j := 2) P.scS2 rfl rfl (by kernel_rfl!) (by simp) ?_⟩
  (simp only [List.set_cons_zero, List.set_cons_succ])
  refine S_nil ?_
  exact ⟨[(L, _)], _, .refl _, rfl, _, mu, List.Perm.swap .., h⟩
set_option maxHeartbeats 8000000 in
theorem mk_Layout {a : Ad} (P : Pr C a) {sc : List (Str × Sc)} {ft : List Ft} {nl : Nat} (h : Q (avY a ⟨sc, ft, nl⟩) mu) : WL C (n + 2) [(.dict (sc.map fun p => (p.1, avS a p.2))), (.list (ft.map (avF a))), (.list (List.replicate nl .none))] mu (fun vs => call (.ref a.cY) vs) Q := by
  (have K := P.K; obtain ⟨l1, l2, s1, s2, s3, f1, f2, y1, y2, y3⟩ := P.A; obtain ⟨len, sorted, abs, int, range, list, tuple, set, dict⟩ := P.B; have g2 := P.g2; have F2 := P.F2; have g3 := P.g3; have F3 := P.F3; have g4 := P.g4; have F4 := P.F4; have g5 := P.g5; have F5 := P.F5; have g6 := P.g6; have F6 := P.F6; have g7 := P.g7; have F7 := P.F7; have g8 := P.g8; have F8 := P.F8; have g9 := P.g9; have F9 := P.F9; have g16 := P.g16; have F16 := P.F16; have g17 := P.g17; have F17 := P.F17; have g18 := P.g18; have F18 := P.F18; have g19 := P.g19; have F19 := P.F19; have g20 := P.g20; have F20 := P.F20; have g21 := P.g21; have F21 := P.F21; have g22 := P.g22; have F22 := P.F22; have g23 := P.g23; have F23 := P.F23; have gcL := P.gcL; have kcL := P.kcL; have FiL := P.FiL; have gcS := P.gcS; have kcS := P.kcS; have FiS := P.FiS; have gcF := P.gcF; have kcF := P.kcF; have FiF := P.FiF; have gcY := P.gcY; have kcY := P.kcY; have FiY := P.FiY; have info := P.info; have Ftl := P.Ft; have mt := P.mt)
  refine mk_obj P.mcY fun x d => ?_
  refine call_fnC K FiY (dα := []) (m0 := [("lookups", (.list (List.replicate nl .none))), ("features", (.list (ft.map (avF a)))), ("scripts", (.dict (sc.map fun p => (p.1, avS a p.2)))), ("self", (.val (.ref x)))]) (ce := fun _ => []) (fun _ => .nil) rfl rfl rfl rfl (fun _ => by kernel_rfl!) (fun _ => by kernel_rfl!) (by kernel_rfl!) (fun _ => by kernel_rfl!) fun L q cd => ?_
  rw [List.nil_append]
  refine S_cons (X_setattr rfl ?_)
  (repeat kt_ktab)
  refine ⟨x, rfl, set_attr (i := 1) (j := 2) P.scY0 rfl rfl (by kernel_rfl!) (by simp) ?_⟩
  (simp only [List.set_cons_zero, List.set_cons_succ])
  refine S_cons (X_setattr rfl ?_)
  (repeat kt_ktab)
  refine ⟨x, rfl, set_attr (i := 1) (j := 2) P.scY1 rfl rfl (by kernel_rfl!) (by simp) ?_⟩
  (simp only [List.set_cons_zero, List.set_cons_succ])
  refine S_cons (X_setattr rfl ?_)
  (repeat kt_ktab)
  refine ⟨x, rfl, set_attr (i := 1) (j := 2) P.scY2 rfl rfl (by kernel_rfl!) (by simp) ?_⟩
  (simp only [List.set_cons_zero, List.set_cons_succ])
  refine S_nil ?_
  exact ⟨[(L, _)], _, .refl _, rfl, _, mu, List.Perm.swap .., h⟩

def toldA (s : LS) : AV := .tup [.int s.req, .tup (natsA s.feats)]
theorem ct_told {a : Ad} (P : Pr C a) {s : LS} (hz : s.feats.length ≤ 100) (h : Q (toldA s) mu) : CL C (n + 1) [avL a s] mu (.ref a.told) Q := by
  (have K := P.K; obtain ⟨l1, l2, s1, s2, s3, f1, f2, y1, y2, y3⟩ := P.A; obtain ⟨len, sorted, abs, int, range, list, tuple, set, dict⟩ := P.B; have g2 := P.g2; have F2 := P.F2; have g3 := P.g3; have F3 := P.F3; have g4 := P.g4; have F4 := P.F4; have g5 := P.g5; have F5 := P.F5; have g6 := P.g6; have F6 := P.F6; have g7 := P.g7; have F7 := P.F7; have g8 := P.g8; have F8 := P.F8; have g9 := P.g9; have F9 := P.F9; have g16 := P.g16; have F16 := P.F16; have g17 := P.g17; have F17 := P.F17; have g18 := P.g18; have F18 := P.F18; have g19 := P.g19; have F19 := P.F19; have g20 := P.g20; have F20 := P.F20; have g21 := P.g21; have F21 := P.F21; have g22 := P.g22; have F22 := P.F22; have g23 := P.g23; have F23 := P.F23; have gcL := P.gcL; have kcL := P.kcL; have FiL := P.FiL; have gcS := P.gcS; have kcS := P.kcS; have FiS := P.FiS; have gcF := P.gcF; have kcF := P.kcF; have FiF := P.FiF; have gcY := P.gcY; have kcY := P.kcY; have FiY := P.FiY; have info := P.info; have Ftl := P.Ft; have mt := P.mt)
  refine call_fnC K Ftl (dα := []) (m0 := [("self", avL a s)]) (ce := fun _ => []) (fun _ => .nil) rfl rfl rfl rfl (fun _ => by kernel_rfl!) (fun _ => by kernel_rfl!) (by kernel_rfl!) (fun _ => by kernel_rfl!) fun L q cd => ?_
  rw [List.nil_append]
  (refine S_cons (X_ret ?_))
  (repeat kt_ktab)
  refine l_tuple (by rw [natsA_len]; omega) ?_
  (repeat kt_ktab)
  exact ⟨[(L, _)], mu, .refl _, h⟩
end
end Mine
end
section
open PySem PySem.W PyProof.Rows PySem.SeqAt PySem.Spec
set_option maxHeartbeats 4000000
namespace Mine

/-! the pen -/
structure PS where
  p : List Int
  c : Int
  b : Int
def PS.ok (s : PS) : Prop := s.p.length ≤ 40
def penM (T : Addr) (s : PS) : MO := .loose [.val (.ref T), .int s.c, .int s.b]
def setPen (mu : Mu) (i : Nat) (P T : Addr) (s : PS) : Mu := (mu.set i (P, penM T s)).set (i + 1) (T, .list (intsA s.p))
structure PenAt (mu : Mu) (i : Nat) (P T : Addr) (s : PS) : Prop where
  hp : mu[i]? = some (P, penM T s)
  ht : mu[i + 1]? = some (T, .list (intsA s.p))
theorem setPen_cons {x : Addr × MO} {mu : Mu} {i : Nat} {P T : Addr} {s : PS} : setPen (x :: mu) (i + 1) P T s = x :: setPen mu i P T s := rfl
theorem PenAt.cons {x : Addr × MO} {mu : Mu} {i : Nat} {P T : Addr} {s : PS} (h : PenAt mu i P T s) : PenAt (x :: mu) (i + 1) P T s := ⟨by simpa using h.hp, by simpa using h.ht⟩
theorem PenAt.set {mu : Mu} {i : Nat} {P T : Addr} {s s' : PS} (h : PenAt mu i P T s) : PenAt (setPen mu i P T s') i P T s' := by
  have h1 := (List.getElem?_eq_some_iff.mp h.hp).1
  have h2 := (List.getElem?_eq_some_iff.mp h.ht).1
  constructor
  · unfold setPen; rw [List.getElem?_set_ne (by omega)]; simp [h1]
  · unfold setPen; simp [h2]
theorem setPen_self {mu : Mu} {i : Nat} {P T : Addr} {s : PS} (h : PenAt mu i P T s) : setPen mu i P T s = mu := by
  unfold setPen; rw [set_self h.hp, set_self h.ht]
theorem setPen_set {mu : Mu} {i : Nat} {P T : Addr} {s s' : PS} : setPen (setPen mu i P T s) i P T s' = setPen mu i P T s' := by
  unfold setPen
  rw [List.set_comm (T, MO.list (intsA s.p)) (P, penM T s') (show i + 1 ≠ i by omega), List.set_set, List.set_set]
theorem setPen_p {mu : Mu} {i : Nat} {P T : Addr} {s s' : PS} (h : PenAt mu i P T s) (e : s'.p = s.p) : mu.set i (P, penM T s') = setPen mu i P T s' := by
  unfold setPen
  have : (mu.set i (P, penM T s'))[i + 1]? = some (T, .list (intsA s'.p)) := by rw [List.getElem?_set_ne (by omega), e]; exact h.ht
  rw [set_self this]

section
variable {C : Cx} {n : Nat} {mu : Mu} {env : Env} {Q : AV → Mu → Prop}
theorem WT.loose {β β' : Type} {R : FH → β → β' → Prop} {T : FH → Prop} {t : Sem β} {P : β' → Mu → Prop} (h : WT C.prog C.w C.H n R T mu t fun b mu' => ∃ a xs m, mu' = (a, .list xs) :: m ∧ P b ((a, .loose xs) :: m)) : WT C.prog C.w C.H n R T mu t P := fun A g s hA hH hT S => by
  refine wpAny_mono (h A g s hA hH hT S) (fun v s' hh => ?_) fun _ _ e => e
  obtain ⟨g', mu', α, h1, h2, a, xs, m, rfl, h3⟩ := hh
  obtain ⟨its, hp, hr⟩ := h2.st.is (a, .list xs) (List.mem_cons_self ..)
  have e := Ends.upd (s := s') (h' := s'.heap) (t := s'.toks) (i := 0) (a := a) (mo := .list xs) (mo' := .loose xs) h2.st rfl (fun b o _ e => e) ⟨its, hp.isList, hr⟩
  exact ⟨g', _, α, h1, h2.trans e, h3⟩
theorem ofPDs_ints (ks : List Int) : ofPDs (ks.map PyData.int) = intsA ks := by rw [ofPDs_map]; simp [intsA, ofPD]
theorem lay_ints : ∀ {ks : List Int}, PyData.canLayAll0 (ks.map PyData.int) = true
  | [] => rfl
  | t :: r => lay_ints (ks := r)
theorem k_ne_nil {p : List Int} {i : Nat} {a : Addr} (hi : mu[i]? = some (a, .list (intsA p))) (h1 : p ≠ [] → Q (.bool true) mu) (h2 : p = [] → Q (.bool false) mu) : W2 C n (.val (.ref a)) (.list []) mu (compareOp .NotEq) Q := fun u v A g s hA hH ⟨r1, r2⟩ S => by
  cases r1
  obtain ⟨its, ⟨k, hl⟩, hr⟩ := S.is _ (List.mem_of_getElem? hi)
  rw [← ofPDs_ints] at hr
  obtain ⟨bs, q2⟩ := readsAll_of S.sub (p.map PyData.int) _ lay_ints hr
  obtain ⟨as, q1⟩ := reads_of S.sub (.list []) v rfl r2
  have hs : shaped (.list (p.map PyData.int)) = true := by
    have hd : ∀ p : List Int, PyData.depthAll (p.map PyData.int) = 0 := by
      intro p
      induction p with
      | nil => rfl
      | cons x r ih => show max 0 (PyData.depthAll (r.map PyData.int)) = 0; rw [ih]; rfl
    unfold shaped
    rw [Bool.and_eq_true]
    refine ⟨lay_ints, decide_eq_true ?_⟩
    show PyData.depthAll _ + 1 ≤ 64
    rw [hd]; decide
  refine compareNe_shaped (.list hl rfl rfl q2) q1 hs rfl hA.u64 ⟨g, mu, _, .bool _, Ends.refl S, ?_⟩
  cases p with
  | nil => exact h2 rfl
  | cons x r => exact h1 (by simp)

set_option maxHeartbeats 8000000 in
theorem ct_pen {a : Ad} (P : Pr C a) {ns : List Int} (hz : ns.length ≤ 1000) (h : ∀ Pn T p, p.length ≤ 40 → Q (.val (.ref Pn)) ((Pn, penM T ⟨p, 0, 0⟩) :: (T, .list (intsA p)) :: mu)) : CL C (n + 1) [.llist (intsA ns)] mu (.ref a.f16) Q := by
  (have K := P.K; obtain ⟨l1, l2, s1, s2, s3, f1, f2, y1, y2, y3⟩ := P.A; obtain ⟨len, sorted, abs, int, range, list, tuple, set, dict⟩ := P.B; have g2 := P.g2; have F2 := P.F2; have g3 := P.g3; have F3 := P.F3; have g4 := P.g4; have F4 := P.F4; have g5 := P.g5; have F5 := P.F5; have g6 := P.g6; have F6 := P.F6; have g7 := P.g7; have F7 := P.F7; have g8 := P.g8; have F8 := P.F8; have g9 := P.g9; have F9 := P.F9; have g16 := P.g16; have F16 := P.F16; have g17 := P.g17; have F17 := P.F17; have g18 := P.g18; have F18 := P.F18; have g19 := P.g19; have F19 := P.F19; have g20 := P.g20; have F20 := P.F20; have g21 := P.g21; have F21 := P.F21; have g22 := P.g22; have F22 := P.F22; have g23 := P.g23; have F23 := P.F23; have gcL := P.gcL; have kcL := P.kcL; have FiL := P.FiL; have gcS := P.gcS; have kcS := P.kcS; have FiS := P.FiS; have gcF := P.gcF; have kcF := P.kcF; have FiF := P.FiF; have gcY := P.gcY; have kcY := P.kcY; have FiY := P.FiY; have info := P.info; have Ftl := P.Ft; have mt := P.mt)
  refine call_fnC K F16 (dα := []) (m0 := [("script", .llist (intsA ns))]) (ce := fun _ => []) (fun _ => .nil) rfl rfl rfl rfl (fun _ => by kernel_rfl!) (fun _ => by kernel_rfl!) (by kernel_rfl!) (fun _ => by kernel_rfl!) fun L q cd => ?_
  rw [List.nil_append]
  (refine S_cons (X_ret ?_))
  refine WT.loose ?_
  refine E_list_mut ?_
  (first | ((with_reducible refine A_cons ?h1 ?_); (case h1 => rfl)) | (with_reducible refine A_nil ?_))
  refine E_comp (cl := []) (fun i ys mu' => mu' = (L, .ns [("script", .llist (intsA ns))]) :: mu ∧ ∃ zs, ys = intsA zs ∧ zs.length ≤ i) (fun _ => rfl) (by kernel_rfl!) (by decide +kernel) rfl (by decide +kernel) ?_ ?_
  · rintro i ys mu' ⟨_, zs, rfl, hl⟩
    rw [intsA_len]; exact hl
  refine E_slice_upto ?_
  (repeat kt_ktab)
  refine ⟨_, rfl, by rw [intsA_len]; exact hz, ?_⟩
  (repeat kt_ktab)
  refine ⟨40, rfl, ?_⟩
  have hxs : ((intsA ns).take 40) = intsA (ns.take 40) := by simp [intsA]
  rw [hxs]
  have h40 := List.length_take_le 40 ns
  refine ⟨_, iter_list, by rw [intsA_len]; omega, ⟨rfl, [], rfl, Nat.zero_le _⟩, ?_, ?_⟩
  · rintro D mc i x ys mu' hx ⟨rfl, zs, rfl, hl⟩
    obtain ⟨k, hk, rfl⟩ := intsA_at hx
    refine as_name ?_
    (first
  | ((with_reducible apply st_loc0); rfl; rfl; kernel_rfl!)
  | ((with_reducible apply st_cell' (i := 1)); rfl; kernel_rfl!; rfl; kernel_rfl!)
  | ((with_reducible apply st_cell' (i := 2)); rfl; kernel_rfl!; rfl; kernel_rfl!)
  | ((with_reducible apply st_cell' (i := 3)); rfl; kernel_rfl!; rfl; kernel_rfl!))
    refine tests_nil ?_
    refine ift ?_
    (repeat kt_ktab)
    refine l_int_int ?_
    (repeat kt_ktab)
    refine l_abs ?_
    refine b_mul (by decide) ?_
    (repeat kt_ktab)
    refine c_lt ?_
    (repeat kt_ktab)
    refine l_int_bool ?_
    (repeat kt_ktab)
    exact ⟨_, _, rfl, rfl, zs ++ [_], by simp only [intsA, List.map_append, List.map_cons, List.map_nil]; rfl, by simp; exact hl⟩
  · rintro ys mu' T ⟨rfl, zs, rfl, hl⟩
    rw [intsA_len] at hl
    (repeat kt_ktab)
    refine fun Pn => ⟨Pn, _, _, rfl, ?_⟩
    refine ⟨[(L, .ns [("script", .llist (intsA ns))])], (Pn, penM T ⟨zs, 0, 0⟩) :: (T, .list (intsA zs)) :: mu, ?_, h Pn T zs (by omega)⟩
    exact (List.perm_middle (l₁ := [(Pn, penM T ⟨zs, 0, 0⟩), (T, MO.list (intsA zs))]))


theorem set_c {i : Nat} {Pn T : Addr} {s : PS} {x : Int} {P : Unit → Mu → Prop} (hp : PenAt mu i Pn T s) (h : P () (setPen mu i Pn T ⟨s.p, x, s.b⟩)) (v k : Value) :
    WT C.prog C.w C.H n RU (fun g => Rep C.prog C.w g v (.int x) ∧ Rep C.prog C.w g k (.int 1)) mu (setItem (.ref Pn) k v) P :=
  set_loose hp.hp (by decide) (by simp) (by simp) (by show P () (mu.set i (Pn, penM T ⟨s.p, x, s.b⟩)); rw [setPen_p hp (s' := ⟨s.p, x, s.b⟩) rfl]; exact h) v k
theorem set_b {i : Nat} {Pn T : Addr} {s : PS} {x : Int} {P : Unit → Mu → Prop} (hp : PenAt mu i Pn T s) (h : P () (setPen mu i Pn T ⟨s.p, s.c, x⟩)) (v k : Value) :
    WT C.prog C.w C.H n RU (fun g => Rep C.prog C.w g v (.int x) ∧ Rep C.prog C.w g k (.int 2)) mu (setItem (.ref Pn) k v) P :=
  set_loose hp.hp (by decide) (by simp) (by simp) (by show P () (mu.set i (Pn, penM T ⟨s.p, s.c, x⟩)); rw [setPen_p hp (s' := ⟨s.p, s.c, x⟩) rfl]; exact h) v k
theorem get_c {i : Nat} {Pn T : Addr} {s : PS} {ve se : Expr} (hp : PenAt mu i Pn T s) (hs : ∀ l u, subscripted se false (.ref l) (.int 1 u) = operate [.ref l, .int 1 u] (getItem (.ref l) (.int 1 u))) (h : Q (.int s.c) mu) :
    W2 C n (.val (.ref Pn)) (.int 1) mu (subscriptTail ve se) Q := s_mut (.inl hp.hp) (by decide) (by decide) rfl hs h
theorem get_b {i : Nat} {Pn T : Addr} {s : PS} {ve se : Expr} (hp : PenAt mu i Pn T s) (hs : ∀ l u, subscripted se false (.ref l) (.int 2 u) = operate [.ref l, .int 2 u] (getItem (.ref l) (.int 2 u))) (h : Q (.int s.b) mu) :
    W2 C n (.val (.ref Pn)) (.int 2) mu (subscriptTail ve se) Q := s_mut (.inl hp.hp) (by decide) (by decide) rfl hs h
theorem get_t {i : Nat} {Pn T : Addr} {s : PS} {ve se : Expr} (hp : PenAt mu i Pn T s) (hs : ∀ l u, subscripted se false (.ref l) (.int 0 u) = operate [.ref l, .int 0 u] (getItem (.ref l) (.int 0 u))) (h : Q (.val (.ref T)) mu) :
    W2 C n (.val (.ref Pn)) (.int 0) mu (subscriptTail ve se) Q := s_mut (.inl hp.hp) (by decide) (by decide) rfl hs h
theorem pop_pen {i : Nat} {Pn T : Addr} {s : PS} {x : Int} {r : List Int} (hp : PenAt mu i Pn T s) (hs : s.p = x :: r) (hz : s.ok) (h : Q (.int x) (setPen mu i Pn T ⟨r, s.c, s.b⟩)) : WL C n [.val (.ref T), .int 0] mu (fun vs => call (.builtin "list.pop") vs) Q := by
  refine l_pop0 (i := i + 1) (x := .int x) (xs := intsA r) (by rw [hp.ht, hs]; rfl) (by rw [intsA_len]; unfold PS.ok at hz; rw [hs] at hz; simp at hz; omega) ?_
  unfold setPen at h
  have : penM T ⟨r, s.c, s.b⟩ = penM T s := rfl
  rw [this, set_self hp.hp] at h
  exact h

set_option maxHeartbeats 8000000 in
theorem ct_draw {a : Ad} (P : Pr C a) {i : Nat} {Pn T : Addr} {s : PS} {m : Nat} (hp : PenAt mu i Pn T s) (hs : s.ok) (hm0 : 0 < m) (hm : m < 1000) (h : ∀ (v : Nat) s', s'.ok → v < m → Q (.int (v : Int)) (setPen mu i Pn T s')) :
    CL C (n + 1) [.val (.ref Pn), .int (m : Int)] mu (.ref a.f17) Q := by
  (have K := P.K; obtain ⟨l1, l2, s1, s2, s3, f1, f2, y1, y2, y3⟩ := P.A; obtain ⟨len, sorted, abs, int, range, list, tuple, set, dict⟩ := P.B; have g2 := P.g2; have F2 := P.F2; have g3 := P.g3; have F3 := P.F3; have g4 := P.g4; have F4 := P.F4; have g5 := P.g5; have F5 := P.F5; have g6 := P.g6; have F6 := P.F6; have g7 := P.g7; have F7 := P.F7; have g8 := P.g8; have F8 := P.F8; have g9 := P.g9; have F9 := P.F9; have g16 := P.g16; have F16 := P.F16; have g17 := P.g17; have F17 := P.F17; have g18 := P.g18; have F18 := P.F18; have g19 := P.g19; have F19 := P.F19; have g20 := P.g20; have F20 := P.F20; have g21 := P.g21; have F21 := P.F21; have g22 := P.g22; have F22 := P.F22; have g23 := P.g23; have F23 := P.F23; have gcL := P.gcL; have kcL := P.kcL; have FiL := P.FiL; have gcS := P.gcS; have kcS := P.kcS; have FiS := P.FiS; have gcF := P.gcF; have kcF := P.kcF; have FiF := P.FiF; have gcY := P.gcY; have kcY := P.kcY; have FiY := P.FiY; have info := P.info; have Ftl := P.Ft; have mt := P.mt)
  refine call_fnC K F17 (dα := []) (m0 := [("many", .int (m : Int)), ("pen", .val (.ref Pn))]) (ce := fun _ => []) (fun _ => .nil) rfl rfl rfl rfl (fun _ => by kernel_rfl!) (fun _ => by kernel_rfl!) (by kernel_rfl!) (fun _ => by kernel_rfl!) fun L q cd => ?_
  rw [List.nil_append]
  refine S_cons (X_setsub rfl ?_)
  (repeat kt_ktab)
  refine get_c hp.cons (fun _ _ => rfl) ?_
  (repeat kt_ktab)
  refine ⟨Pn, rfl, set_c hp.cons ?_⟩
  rw [setPen_cons]
  have hp2 := hp.set (s' := ⟨s.p, s.c + 1, s.b⟩)
  refine S_cons (X_ifJ (fun mu' => ∃ s', s'.ok ∧ mu' = (L, .ns [("many", .int (m : Int)), ("pen", .val (.ref Pn))]) :: setPen mu i Pn T s') ?_ ?_)
  · (repeat kt_ktab)
    refine get_b hp2.cons (fun _ _ => rfl) ?_
    (repeat kt_ktab)
    refine k_eqi (fun h0 => ?_) (fun h0 => ?_)
    · (repeat kt_ktab)
      refine get_t hp2.cons (fun _ _ => rfl) ?_
      refine E_list ?_
      (repeat kt_ktab)
      refine k_ne_nil hp2.cons.ht (fun h1 => ?_) (fun h1 => ?_)
      · (repeat kt_ktab)
        obtain ⟨x, r, hx⟩ : ∃ x r, s.p = x :: r := by
          cases e : s.p with
          | nil => exact absurd e h1
          | cons x r => exact ⟨x, r, rfl⟩
        refine S_cons (X_setsub rfl ?_)
        ((with_reducible apply E_meth); rfl; rfl; rfl)
        (repeat kt_ktab)
        refine get_t hp2.cons (fun _ _ => rfl) ?_
        refine ⟨getm_list PySem.F.slot_list_pop rfl hp2.cons.ht, ?_⟩
        (repeat kt_ktab)
        have hz' : (⟨r, s.c + 1, s.b⟩ : PS).ok := by unfold PS.ok at hs ⊢; rw [hx] at hs; simp at hs; show r.length ≤ 40; omega
        refine pop_pen hp2.cons hx hs ?_
        rw [setPen_cons, setPen_set]
        (repeat kt_ktab)
        refine ⟨Pn, rfl, set_b (hp.set (s' := ⟨r, s.c + 1, s.b⟩)).cons ?_⟩
        rw [setPen_cons, setPen_set]
        exact S_end ⟨⟨r, s.c + 1, x⟩, hz', rfl⟩
      · (repeat kt_ktab)
        exact S_end ⟨⟨s.p, s.c + 1, s.b⟩, hs, rfl⟩
    · (repeat kt_ktab)
      exact S_end ⟨⟨s.p, s.c + 1, s.b⟩, hs, rfl⟩
  · rintro mu' ⟨s', hs', rfl⟩
    have hp3 := hp.set (s' := s')
    have hmz : (m : Int) ≠ 0 := by omega
    (refine S_cons (X_assign rfl ?_))
    (repeat kt_ktab)
    refine get_b hp3.cons (fun _ _ => rfl) ?_
    (repeat kt_ktab)
    refine l_int_int ?_
    (repeat kt_ktab)
    refine b_mod hmz ?_
    (first
  | ((with_reducible apply st_loc0); rfl; rfl; kernel_rfl!)
  | ((with_reducible apply st_cell' (i := 1)); rfl; kernel_rfl!; rfl; kernel_rfl!)
  | ((with_reducible apply st_cell' (i := 2)); rfl; kernel_rfl!; rfl; kernel_rfl!)
  | ((with_reducible apply st_cell' (i := 3)); rfl; kernel_rfl!; rfl; kernel_rfl!))
    refine S_cons (X_setsub rfl ?_)
    (repeat kt_ktab)
    refine get_b hp3.cons (fun _ _ => rfl) ?_
    (repeat kt_ktab)
    refine l_int_int ?_
    (repeat kt_ktab)
    refine b_div hmz (by omega) ?_
    (repeat kt_ktab)
    refine ⟨Pn, rfl, set_b hp3.cons ?_⟩
    rw [setPen_cons, setPen_set]
    (refine S_cons (X_ret ?_))
    (repeat kt_ktab)
    refine get_c (hp.set (s' := ⟨s'.p, s'.c, s'.b.fdiv m⟩)).cons (fun _ _ => rfl) ?_
    (repeat kt_ktab)
    refine b_mod hmz ?_
    have h1 := Int.fmod_nonneg_of_pos (s'.b.fmod m + s'.c) (show (0 : Int) < (m : Int) by omega)
    have h2 := Int.fmod_lt_of_pos (s'.b.fmod m + s'.c) (show (0 : Int) < (m : Int) by omega)
    have hq := h ((s'.b.fmod m + s'.c).fmod m).toNat ⟨s'.p, s'.c, s'.b.fdiv m⟩ hs' (by omega)
    rw [Int.toNat_of_nonneg h1] at hq
    exact ⟨[(L, _)], _, .refl _, hq⟩
end
end Mine
end
section
open PySem PySem.W PyProof.Rows PySem.SeqAt PySem.Spec
set_option maxHeartbeats 4000000
namespace Mine

section
variable {C : Cx} {n : Nat} {mu : Mu} {env : Env} {Q : AV → Mu → Prop}
set_option maxHeartbeats 8000000 in
theorem ct_pick {a : Ad} (P : Pr C a) {i : Nat} {Pn T : Addr} {s : PS} {ss : List Str} (hp : PenAt mu i Pn T s) (hs : s.ok) (h0 : 0 < ss.length) (h1 : ss.length ≤ 100) (h : ∀ t s', s'.ok → t ∈ ss → Q (.str t) (setPen mu i Pn T s')) :
    CL C (n + 2) [.val (.ref Pn), .list (strsA ss)] mu (.ref a.f18) Q := by
  (have K := P.K; obtain ⟨l1, l2, s1, s2, s3, f1, f2, y1, y2, y3⟩ := P.A; obtain ⟨len, sorted, abs, int, range, list, tuple, set, dict⟩ := P.B; have g2 := P.g2; have F2 := P.F2; have g3 := P.g3; have F3 := P.F3; have g4 := P.g4; have F4 := P.F4; have g5 := P.g5; have F5 := P.F5; have g6 := P.g6; have F6 := P.F6; have g7 := P.g7; have F7 := P.F7; have g8 := P.g8; have F8 := P.F8; have g9 := P.g9; have F9 := P.F9; have g16 := P.g16; have F16 := P.F16; have g17 := P.g17; have F17 := P.F17; have g18 := P.g18; have F18 := P.F18; have g19 := P.g19; have F19 := P.F19; have g20 := P.g20; have F20 := P.F20; have g21 := P.g21; have F21 := P.F21; have g22 := P.g22; have F22 := P.F22; have g23 := P.g23; have F23 := P.F23; have gcL := P.gcL; have kcL := P.kcL; have FiL := P.FiL; have gcS := P.gcS; have kcS := P.kcS; have FiS := P.FiS; have gcF := P.gcF; have kcF := P.kcF; have FiF := P.FiF; have gcY := P.gcY; have kcY := P.kcY; have FiY := P.FiY; have info := P.info; have Ftl := P.Ft; have mt := P.mt)
  refine call_fnC K F18 (dα := []) (m0 := [("some", .list (strsA ss)), ("pen", .val (.ref Pn))]) (ce := fun _ => []) (fun _ => .nil) rfl rfl rfl rfl (fun _ => by kernel_rfl!) (fun _ => by kernel_rfl!) (by kernel_rfl!) (fun _ => by kernel_rfl!) fun L q cd => ?_
  rw [List.nil_append]
  (refine S_cons (X_ret ?_))
  (repeat kt_ktab)
  refine l_len (by rw [strsA_len]; omega) ?_
  rw [strsA_len]
  (repeat kt_ktab)
  refine (ct_draw P hp.cons hs h0 (by omega) fun v s' hs' hv => ?_).call
  rw [setPen_cons]
  refine s_list (x := .str ss[v]) (by omega) (by omega) (by unfold strsA; rw [Int.toNat_natCast, List.getElem?_map, List.getElem?_eq_getElem hv]; rfl) (fun _ _ => rfl) ?_
  exact ⟨[(L, _)], _, .refl _, h _ s' hs' (List.getElem_mem hv)⟩

set_option maxHeartbeats 8000000 in
theorem ct_numbers {a : Ad} (P : Pr C a) {i : Nat} {Pn T : Addr} {s : PS} {m : Nat} (hp : PenAt mu i Pn T s) (hs : s.ok) (hm0 : 0 < m) (hm : m < 1000) (h : ∀ ks s', s'.ok → ks.length ≤ 4 → (∀ k ∈ ks, k < m) → Q (.list (natsA ks)) (setPen mu i Pn T s')) :
    CL C (n + 2) [.val (.ref Pn), .int (m : Int)] mu (.ref a.f19) Q := by
  (have K := P.K; obtain ⟨l1, l2, s1, s2, s3, f1, f2, y1, y2, y3⟩ := P.A; obtain ⟨len, sorted, abs, int, range, list, tuple, set, dict⟩ := P.B; have g2 := P.g2; have F2 := P.F2; have g3 := P.g3; have F3 := P.F3; have g4 := P.g4; have F4 := P.F4; have g5 := P.g5; have F5 := P.F5; have g6 := P.g6; have F6 := P.F6; have g7 := P.g7; have F7 := P.F7; have g8 := P.g8; have F8 := P.F8; have g9 := P.g9; have F9 := P.F9; have g16 := P.g16; have F16 := P.F16; have g17 := P.g17; have F17 := P.F17; have g18 := P.g18; have F18 := P.F18; have g19 := P.g19; have F19 := P.F19; have g20 := P.g20; have F20 := P.F20; have g21 := P.g21; have F21 := P.F21; have g22 := P.g22; have F22 := P.F22; have g23 := P.g23; have F23 := P.F23; have gcL := P.gcL; have kcL := P.kcL; have FiL := P.FiL; have gcS := P.gcS; have kcS := P.kcS; have FiS := P.FiS; have gcF := P.gcF; have kcF := P.kcF; have FiF := P.FiF; have gcY := P.gcY; have kcY := P.kcY; have FiY := P.FiY; have info := P.info; have Ftl := P.Ft; have mt := P.mt)
  refine call_fnC K F19 (dα := []) (m0 := []) (ce := fun L => [(L + 2, .cell (some (.int (m : Int)))), (L + 1, .cell (some (.val (.ref Pn))))]) (fun _ => .nil) rfl rfl rfl rfl (fun _ => by kernel_rfl!) (fun _ => by kernel_rfl!) (by kernel_rfl!) (fun _ => by kernel_rfl!) fun L q cd => ?_
  rw [List.cons_append, List.cons_append, List.nil_append]
  (refine S_cons (X_ret ?_))
  refine E_compF (cl := [("pen", L + 1), ("most", L + 2)]) (fun j ys mu' => ∃ s', s'.ok ∧ mu' = (L, .ns []) :: (L + 2, .cell (some (.int (m : Int)))) :: (L + 1, .cell (some (.val (.ref Pn)))) :: setPen mu i Pn T s' ∧ ∃ ks, ys = natsA ks ∧ ks.length ≤ j ∧ ∀ k ∈ ks, k < m) (fun _ => rfl) (by kernel_rfl!) (by decide +kernel) rfl (by decide +kernel) ?_ ?_
  · rintro i ys mu' ⟨s', _, _, ks, rfl, hl, _⟩
    rw [natsA_len]; exact hl
  (repeat kt_ktab)
  refine (ct_draw P (m := 5) hp.cons.cons.cons hs (by decide) (by decide) fun v s' hs' hv => ?_).call
  rw [setPen_cons, setPen_cons, setPen_cons]
  (repeat kt_ktab)
  refine l_range ?_
  refine ⟨_, iter_range (by omega), by simp; omega, ⟨s', hs', rfl, [], rfl, Nat.zero_le _, fun _ h => nomatch h⟩, ?_, ?_⟩
  · rintro D mc j x ys mu' hx ⟨s', hs', rfl, ks, rfl, hl, hk⟩
    refine as_name ?_
    (first
  | ((with_reducible apply st_loc0); rfl; rfl; kernel_rfl!)
  | ((with_reducible apply st_cell' (i := 1)); rfl; kernel_rfl!; rfl; kernel_rfl!)
  | ((with_reducible apply st_cell' (i := 2)); rfl; kernel_rfl!; rfl; kernel_rfl!)
  | ((with_reducible apply st_cell' (i := 3)); rfl; kernel_rfl!; rfl; kernel_rfl!))
    refine tests_nil ?_
    refine ift ?_
    (repeat kt_ktab)
    refine (ct_draw P hp.set.cons.cons.cons.cons hs' hm0 hm fun w s2 hs2 hw => ?_).call
    rw [setPen_cons, setPen_cons, setPen_cons, setPen_cons, setPen_set]
    exact ⟨_, _, rfl, s2, hs2, rfl, ks ++ [w], by rw [natsA_snoc], by simp; exact hl, fun k hk' => by
      rcases List.mem_append.mp hk' with h1 | h1
      · exact hk k h1
      · rw [List.mem_singleton.mp h1]; exact hw⟩
  · rintro ys mu' ⟨s', hs', rfl, ks, rfl, hl, hk⟩
    have : ((List.range v).map fun i : Nat => AV.int (i : Int)).length = v := by simp
    rw [this] at hl
    exact ⟨[(L, _), (L + 2, _), (L + 1, _)], _, .refl _, h ks s' hs' (by omega) hk⟩

set_option maxHeartbeats 8000000 in
theorem ct_langsys {a : Ad} (P : Pr C a) {i : Nat} {Pn T : Addr} {s : PS} (hp : PenAt mu i Pn T s) (hs : s.ok) (h : ∀ ls s', s'.ok → ls.feats.length ≤ 4 → Q (avL a ls) (setPen mu i Pn T s')) :
    CL C (n + 3) [.val (.ref Pn)] mu (.ref a.f20) Q := by
  (have K := P.K; obtain ⟨l1, l2, s1, s2, s3, f1, f2, y1, y2, y3⟩ := P.A; obtain ⟨len, sorted, abs, int, range, list, tuple, set, dict⟩ := P.B; have g2 := P.g2; have F2 := P.F2; have g3 := P.g3; have F3 := P.F3; have g4 := P.g4; have F4 := P.F4; have g5 := P.g5; have F5 := P.F5; have g6 := P.g6; have F6 := P.F6; have g7 := P.g7; have F7 := P.F7; have g8 := P.g8; have F8 := P.F8; have g9 := P.g9; have F9 := P.F9; have g16 := P.g16; have F16 := P.F16; have g17 := P.g17; have F17 := P.F17; have g18 := P.g18; have F18 := P.F18; have g19 := P.g19; have F19 := P.F19; have g20 := P.g20; have F20 := P.F20; have g21 := P.g21; have F21 := P.F21; have g22 := P.g22; have F22 := P.F22; have g23 := P.g23; have F23 := P.F23; have gcL := P.gcL; have kcL := P.kcL; have FiL := P.FiL; have gcS := P.gcS; have kcS := P.kcS; have FiS := P.FiS; have gcF := P.gcF; have kcF := P.kcF; have FiF := P.FiF; have gcY := P.gcY; have kcY := P.kcY; have FiY := P.FiY; have info := P.info; have Ftl := P.Ft; have mt := P.mt)
  refine call_fnC K F20 (dα := []) (m0 := [("pen", .val (.ref Pn))]) (ce := fun L => []) (fun _ => .nil) rfl rfl rfl rfl (fun _ => by kernel_rfl!) (fun _ => by kernel_rfl!) (by kernel_rfl!) (fun _ => by kernel_rfl!) fun L q cd => ?_
  rw [List.nil_append]
  (refine S_cons (X_ret ?_))
  (repeat kt_ktab)
  refine (ct_draw P (m := 6) hp.cons hs (by decide) (by decide) fun v s' hs' hv => ?_).call
  rw [setPen_cons]
  (repeat kt_ktab)
  refine (ct_numbers P (m := 6) hp.set.cons hs' (by decide) (by decide) fun ks s2 hs2 hl hk => ?_).call
  rw [setPen_cons, setPen_set]
  (repeat kt_ktab)
  refine mk_LangSys P (by omega) ?_
  exact ⟨[(L, _)], _, .refl _, h ⟨_, ks⟩ s2 hs2 hl⟩
end
end Mine
end
section
open PySem PySem.W PyProof.Rows PySem.SeqAt PySem.Spec
set_option maxHeartbeats 4000000
namespace Mine

section
variable {C : Cx} {n : Nat} {mu : Mu} {env : Env} {Q : AV → Mu → Prop}
theorem E_ifJ {t b o : Expr} {pos : Pos} (J : AV → Mu → Prop) (h : WB C n mu env t fun c mu1 => if c then WE C n mu1 env b J else WE C n mu1 env o J) (k : ∀ α mu', J α mu' → Q α mu') : WE C n mu env (.IfExp t b o pos) Q :=
  WT.mono (E_if h) k
end
def tags3 : List Str := ["latn", "arab", "DFLT"]
def ftags : List Str := ["liga", "kern", "ccmp"]
def langs2 : List Str := ["URD ", "ARA "]
def FtOk (f : Ft) : Prop := f.tag ∈ ftags ∧ f.lks.length ≤ 4
structure LgOk (ts : List Str) (lg : List (Str × LS)) : Prop where
  nd : (lg.map (·.1)).Nodup
  len : lg.length ≤ ts.length
  ok : ∀ p ∈ lg, p.1 ∈ ts ∧ p.2.feats.length ≤ 4
structure ScOk (s : Sc) : Prop where
  d : ∀ d, s.dflt = some d → d.feats.length ≤ 4
  l : LgOk langs2 s.langs
structure ScsOk (ts : List Str) (sc : List (Str × Sc)) : Prop where
  nd : (sc.map (·.1)).Nodup
  len : sc.length ≤ ts.length
  ok : ∀ p ∈ sc, p.1 ∈ ts ∧ ScOk p.2
theorem stored_new {kvs : List (Str × AV)} {k : Str} {α : AV} (h : k ∉ kvs.map (·.1)) : storedA kvs k α = kvs ++ [(k, α)] := by
  unfold storedA
  rw [if_neg]
  rw [List.any_eq_true]
  rintro ⟨p, hp, e⟩
  exact h (List.mem_map.mpr ⟨p, hp, by simpa using e⟩)
theorem take_not_mem {l : List Str} (hn : l.Nodup) {j : Nat} {t : Str} (h : l[j]? = some t) : t ∉ l.take j := fun hm => by
  obtain ⟨i, hi, e⟩ := List.getElem_of_mem hm
  rw [List.getElem_take] at e
  have hj := (List.getElem?_eq_some_iff.mp h).1
  have hi' : i < j := by rw [List.length_take] at hi; omega
  have e2 := (List.getElem?_eq_some_iff.mp h).2
  have := List.pairwise_iff_getElem.mp hn i j (by omega) hj hi'
  exact this (e.trans e2.symm)
theorem LgOk.snoc {l : List Str} (hn : l.Nodup) {j : Nat} {g : Str} (h : l[j]? = some g) {lg : List (Str × LS)} (o : LgOk (l.take j) lg) {s : LS} (hs : s.feats.length ≤ 4) : g ∉ lg.map (·.1) ∧ LgOk (l.take (j + 1)) (lg ++ [(g, s)]) := by
  have hg : g ∉ lg.map (·.1) := fun hm => by
    obtain ⟨p, hp, e⟩ := List.mem_map.mp hm
    exact take_not_mem hn h (e ▸ (o.ok p hp).1)
  refine ⟨hg, ?_, ?_, ?_⟩
  · rw [List.map_append, List.nodup_append]
    refine ⟨o.nd, by simp, fun a ha b hb e => ?_⟩
    simp at hb
    exact hg (hb ▸ e ▸ ha)
  · rw [take_succ' h]; have := o.len; simp only [List.length_append, List.length_cons, List.length_nil]; omega
  · intro p hp
    rw [take_succ' h]
    rcases List.mem_append.mp hp with hp | hp
    · exact ⟨List.mem_append_left _ (o.ok p hp).1, (o.ok p hp).2⟩
    · rw [List.mem_singleton.mp hp]; exact ⟨by simp, hs⟩
theorem ScsOk.snoc {l : List Str} (hn : l.Nodup) {j : Nat} {g : Str} (h : l[j]? = some g) {lg : List (Str × Sc)} (o : ScsOk (l.take j) lg) {s : Sc} (hs : ScOk s) : g ∉ lg.map (·.1) ∧ ScsOk (l.take (j + 1)) (lg ++ [(g, s)]) := by
  have hg : g ∉ lg.map (·.1) := fun hm => by
    obtain ⟨p, hp, e⟩ := List.mem_map.mp hm
    exact take_not_mem hn h (e ▸ (o.ok p hp).1)
  refine ⟨hg, ?_, ?_, ?_⟩
  · rw [List.map_append, List.nodup_append]
    refine ⟨o.nd, by simp, fun a ha b hb e => ?_⟩
    simp at hb
    exact hg (hb ▸ e ▸ ha)
  · rw [take_succ' h]; have := o.len; simp only [List.length_append, List.length_cons, List.length_nil]; omega
  · intro p hp
    rw [take_succ' h]
    rcases List.mem_append.mp hp with hp | hp
    · exact ⟨List.mem_append_left _ (o.ok p hp).1, (o.ok p hp).2⟩
    · rw [List.mem_singleton.mp hp]; exact ⟨by simp, hs⟩
theorem ScsOk.skip {l : List Str} {j : Nat} {lg : List (Str × Sc)} {g : Str} (h : l[j]? = some g) (o : ScsOk (l.take j) lg) : ScsOk (l.take (j + 1)) lg := by
  refine ⟨o.nd, ?_, fun p hp => ⟨?_, (o.ok p hp).2⟩⟩
  · rw [take_succ' h]; have := o.len; simp only [List.length_append, List.length_cons, List.length_nil]; omega
  · rw [take_succ' h]; exact List.mem_append_left _ (o.ok p hp).1
theorem LgOk.sub {ts ts' : List Str} {lg : List (Str × LS)} (o : LgOk ts lg) (h : ∀ t ∈ ts, t ∈ ts') (hl : ts.length ≤ ts'.length) : LgOk ts' lg := ⟨o.nd, Nat.le_trans o.len hl, fun p hp => ⟨h _ (o.ok p hp).1, (o.ok p hp).2⟩⟩
theorem wf_of {sc : List (Str × Sc)} {ft : List Ft} {nl : Nat} (hs : ScsOk tags3 sc) (hf : ft.length ≤ 5) (hft : ∀ f ∈ ft, FtOk f) (hn : nl ≤ 6) : WF ⟨sc, ft, nl⟩ := by
  have h1 : ∀ t ∈ tags3, PyData.strOk t = true := by decide +kernel
  have h2 : ∀ t ∈ langs2, PyData.strOk t = true ∧ t ≠ "dflt" := by decide +kernel
  have h3 : ∀ t ∈ ftags, PyData.strOk t = true := by decide +kernel
  exact ⟨hs.nd, hs.len, fun p hp => h1 _ (hs.ok p hp).1, fun p hp => (hs.ok p hp).2.d, fun p hp => (hs.ok p hp).2.l.nd, fun p hp => (hs.ok p hp).2.l.len,
    fun p hp q hq => ⟨(h2 _ ((hs.ok p hp).2.l.ok q hq).1).1, (h2 _ ((hs.ok p hp).2.l.ok q hq).1).2, ((hs.ok p hp).2.l.ok q hq).2⟩, hf, fun f hf => ⟨h3 _ (hft f hf).1, (hft f hf).2⟩, hn⟩
theorem nodup_sub : ∀ (m l : List Str), l.Nodup → (∀ x ∈ l, x ∈ m) → l.length ≤ m.length
  | [], l, _, h => by
    cases l with
    | nil => simp
    | cons x r => exact absurd (h x (List.mem_cons_self ..)) (by simp)
  | y :: m, l, hn, h => by
    have h1 := nodup_sub m (l.erase y) (hn.erase y) (fun x hx => by
      have := (hn.mem_erase_iff).mp hx
      exact (List.mem_cons.mp (h x this.2)).resolve_left this.1)
    by_cases hm : y ∈ l
    · rw [List.length_erase_of_mem hm] at h1; simp; omega
    · rw [List.erase_of_not_mem hm] at h1; simp; omega
def storedL (lg : List (Str × LS)) (g : Str) (s : LS) : List (Str × LS) := if lg.any (fun p => p.1 = g) then lg.map (fun p => if p.1 = g then (p.1, s) else p) else lg ++ [(g, s)]
theorem LgOk.stored {lg : List (Str × LS)} (o : LgOk langs2 lg) {g : Str} (hg : g ∈ langs2) {s : LS} (hs : s.feats.length ≤ 4) : LgOk langs2 (storedL lg g s) := by
  have hk : (storedL lg g s).map (·.1) = if g ∈ lg.map (·.1) then lg.map (·.1) else lg.map (·.1) ++ [g] := by
    unfold storedL
    have ha : (lg.any fun p => decide (p.1 = g)) = decide (g ∈ lg.map (·.1)) := by
      induction lg with
      | nil => rfl
      | cons p r ih =>
        rw [List.any_cons, ih ⟨(List.nodup_cons.mp o.nd).2, by have := o.len; simp at this; simp [langs2]; simp [langs2] at this; omega, fun q hq => o.ok q (.tail _ hq)⟩]
        by_cases h : p.1 = g
        · simp [h]
        · have h' : ¬ g = p.1 := fun e => h e.symm
          simp [h, h']
    rw [ha]
    by_cases h : g ∈ lg.map (·.1)
    · rw [if_pos (by simpa using h), if_pos h, List.map_map]
      apply List.map_congr_left
      intro p _
      show (if p.1 = g then (p.1, s) else p).1 = p.1
      split <;> rfl
    · rw [if_neg (by simpa using h), if_neg h]; simp
  have hn : ((storedL lg g s).map (·.1)).Nodup := by
    rw [hk]
    split
    · exact o.nd
    · rename_i h
      rw [List.nodup_append]
      refine ⟨o.nd, by simp, fun a ha b hb e => ?_⟩
      simp at hb
      exact h (hb ▸ e ▸ ha)
  have hm : ∀ x ∈ (storedL lg g s).map (·.1), x ∈ langs2 := by
    rw [hk]
    have old : ∀ x ∈ lg.map (·.1), x ∈ langs2 := fun x hx => by
      obtain ⟨p, hp, rfl⟩ := List.mem_map.mp hx
      exact (o.ok p hp).1
    split
    · exact old
    · intro x hx
      rcases List.mem_append.mp hx with hx | hx
      · exact old x hx
      · rw [List.mem_singleton.mp hx]; exact hg
  refine ⟨hn, by have := nodup_sub langs2 _ hn hm; rwa [List.length_map] at this, fun p hp => ⟨hm _ (List.mem_map_of_mem hp), ?_⟩⟩
  unfold storedL at hp
  split at hp
  · obtain ⟨q, hq, e⟩ := List.mem_map.mp hp
    split at e
    · rw [← e]; exact hs
    · rw [← e]; exact (o.ok q hq).2
  · rcases List.mem_append.mp hp with hp | hp
    · exact (o.ok p hp).2
    · rw [List.mem_singleton.mp hp]; exact hs
def scsA (a : Ad) (sc : List (Str × Sc)) : List (Str × AV) := sc.map fun p => (p.1, avS a p.2)
def lgsA (a : Ad) (lg : List (Str × LS)) : List (Str × AV) := lg.map fun p => (p.1, avL a p.2)

theorem lgs_stored (a : Ad) (lg : List (Str × LS)) (g : Str) (s : LS) : storedA (lgsA a lg) g (avL a s) = lgsA a (storedL lg g s) := by
  unfold storedA storedL lgsA
  have ha : (lg.map fun p => ((p.1, avL a p.2) : Str × AV)).any (fun kv => decide (kv.1 = g)) = lg.any fun p => decide (p.1 = g) := by rw [List.any_map]; rfl
  rw [ha]
  split
  · rw [List.map_map, List.map_map]
    apply List.map_congr_left
    intro p _
    show (if p.1 = g then (p.1, avL a s) else (p.1, avL a p.2)) = _
    by_cases h : p.1 = g <;> simp [h]
  · simp
section
variable {C : Cx} {n : Nat} {mu : Mu} {env : Env} {Q : AV → Mu → Prop}
set_option maxHeartbeats 16000000 in
theorem ct_layout {a : Ad} (P : Pr C a) {i : Nat} {Pn T : Addr} {s : PS} (hp : PenAt mu i Pn T s) (hs : s.ok) (h : ∀ l s', s'.ok → WF l → Q (avY a l) (setPen mu i Pn T s')) : CL C (n + 4) [.val (.ref Pn)] mu (.ref a.f21) Q := by
  (have K := P.K; obtain ⟨l1, l2, s1, s2, s3, f1, f2, y1, y2, y3⟩ := P.A; obtain ⟨len, sorted, abs, int, range, list, tuple, set, dict⟩ := P.B; have g2 := P.g2; have F2 := P.F2; have g3 := P.g3; have F3 := P.F3; have g4 := P.g4; have F4 := P.F4; have g5 := P.g5; have F5 := P.F5; have g6 := P.g6; have F6 := P.F6; have g7 := P.g7; have F7 := P.F7; have g8 := P.g8; have F8 := P.F8; have g9 := P.g9; have F9 := P.F9; have g16 := P.g16; have F16 := P.F16; have g17 := P.g17; have F17 := P.F17; have g18 := P.g18; have F18 := P.F18; have g19 := P.g19; have F19 := P.F19; have g20 := P.g20; have F20 := P.F20; have g21 := P.g21; have F21 := P.F21; have g22 := P.g22; have F22 := P.F22; have g23 := P.g23; have F23 := P.F23; have gcL := P.gcL; have kcL := P.kcL; have FiL := P.FiL; have gcS := P.gcS; have kcS := P.kcS; have FiS := P.FiS; have gcF := P.gcF; have kcF := P.kcF; have FiF := P.FiF; have gcY := P.gcY; have kcY := P.kcY; have FiY := P.FiY; have info := P.info; have Ftl := P.Ft; have mt := P.mt)
  refine call_fnC K F21 (dα := []) (m0 := []) (ce := fun L => [(L + 1, .cell (some (.val (.ref Pn))))]) (fun _ => .nil) rfl rfl rfl rfl (fun _ => by kernel_rfl!) (fun _ => by kernel_rfl!) (by kernel_rfl!) (fun _ => by kernel_rfl!) fun L q cd => ?_
  rw [List.cons_append, List.nil_append]
  refine S_cons (X_assign_comp (cl := [("pen", L + 1)]) (fun j ys mu' => ∃ s', s'.ok ∧ mu' = (L, .ns []) :: (L + 1, .cell (some (.val (.ref Pn)))) :: setPen mu i Pn T s' ∧ ∃ fs : List Ft, ys = fs.map (avF a) ∧ fs.length ≤ j ∧ ∀ f ∈ fs, FtOk f) rfl (fun _ => rfl) (by kernel_rfl!) (by decide +kernel) rfl (by decide +kernel) ?_ ?_)
  · rintro i ys mu' ⟨s', _, _, fs, rfl, hl, _⟩
    rw [List.length_map]; exact hl
  (repeat kt_ktab)
  refine (ct_draw P (m := 5) hp.cons.cons hs (by decide) (by decide) fun v s' hs' hv => ?_).call
  rw [setPen_cons, setPen_cons]
  (repeat kt_ktab)
  rw [show (1 + (v : Int)) = ((1 + v : Nat) : Int) by omega]
  refine l_range ?_
  refine ⟨_, iter_range (by omega), by simp; omega, ⟨s', hs', rfl, [], rfl, Nat.zero_le _, fun _ h => nomatch h⟩, ?_, ?_⟩
  · rintro D mc j x ys mu' hx ⟨s', hs', rfl, fs, rfl, hl, hk⟩
    refine as_name ?_
    (first
  | ((with_reducible apply st_loc0); rfl; rfl; kernel_rfl!)
  | ((with_reducible apply st_cell' (i := 1)); rfl; kernel_rfl!; rfl; kernel_rfl!)
  | ((with_reducible apply st_cell' (i := 2)); rfl; kernel_rfl!; rfl; kernel_rfl!)
  | ((with_reducible apply st_cell' (i := 3)); rfl; kernel_rfl!; rfl; kernel_rfl!))
    refine tests_nil ?_
    refine ift ?_
    (repeat kt_ktab)
    refine E_list ?_
    (repeat kt_ktab)
    refine (ct_pick P (ss := ftags) hp.set.cons.cons.cons hs' (by decide) (by decide) fun t s2 hs2 ht => ?_).call
    rw [setPen_cons, setPen_cons, setPen_cons, setPen_set]
    (repeat kt_ktab)
    refine (ct_numbers P (m := 7) hp.set.cons.cons.cons hs2 (by decide) (by decide) fun ks s3 hs3 hl3 hk3 => ?_).call
    rw [setPen_cons, setPen_cons, setPen_cons, setPen_set]
    (repeat kt_ktab)
    refine mk_Feature P (by omega) ?_
    exact ⟨_, _, rfl, s3, hs3, rfl, fs ++ [⟨t, ks⟩], by simp, by simp; exact hl, fun f hf => by
      rcases List.mem_append.mp hf with h1 | h1
      · exact hk f h1
      · rw [List.mem_singleton.mp h1]; exact ⟨ht, hl3⟩⟩
  rintro ys mu' ⟨s', hs', rfl, fs, rfl, hl, hfs⟩
  have hf5 : fs.length ≤ 5 := by simp at hl; omega
  (first
  | ((with_reducible apply st_loc0); rfl; rfl; kernel_rfl!)
  | ((with_reducible apply st_cell' (i := 1)); rfl; kernel_rfl!; rfl; kernel_rfl!)
  | ((with_reducible apply st_cell' (i := 2)); rfl; kernel_rfl!; rfl; kernel_rfl!)
  | ((with_reducible apply st_cell' (i := 3)); rfl; kernel_rfl!; rfl; kernel_rfl!))
  (refine S_cons (X_assign rfl ?_))
  refine E_dict0S1 K fun Sd => ?_
  (first
  | ((with_reducible apply st_loc0); rfl; rfl; kernel_rfl!)
  | ((with_reducible apply st_cell' (i := 1)); rfl; kernel_rfl!; rfl; kernel_rfl!)
  | ((with_reducible apply st_cell' (i := 2)); rfl; kernel_rfl!; rfl; kernel_rfl!)
  | ((with_reducible apply st_cell' (i := 3)); rfl; kernel_rfl!; rfl; kernel_rfl!))
  have cellE : ∀ (s : PS), mu = mu := fun _ => rfl
  refine S_cons (X_for (fun j mu' => ∃ m' s' sc, s'.ok ∧ mu' = (L, .ns m') :: (Sd, .dictS (scsA a sc)) :: (L + 1, .cell (some (.val (.ref Pn)))) :: setPen mu i Pn T s' ∧ Has m' "scripts" (.val (.ref Sd)) ∧ Has m' "features" (.list (fs.map (avF a))) ∧ ScsOk (tags3.take j) sc) (fun _ => rfl) ?_)
  (repeat kt_ktab)
  refine ⟨strsA tags3, iter_tup, ⟨_, s', [], hs', rfl, by (repeat (first | (with_reducible exact lk_here) | (with_reducible assumption) | (apply lk_next; decide +kernel))), by (repeat (first | (with_reducible exact lk_here) | (with_reducible assumption) | (apply lk_next; decide +kernel))), ⟨.nil, Nat.zero_le _, fun _ h => nomatch h⟩⟩, ?_, ?_⟩
  · rintro j x mu' hx ⟨m', s', sc, hs', rfl, m1, m2, hsc⟩
    obtain ⟨t, ht, rfl⟩ := strsA_at hx
    have hj := (List.getElem?_eq_some_iff.mp ht).1
    refine as_name ?_
    (first
  | ((with_reducible apply st_loc0); rfl; rfl; kernel_rfl!)
  | ((with_reducible apply st_cell' (i := 1)); rfl; kernel_rfl!; rfl; kernel_rfl!)
  | ((with_reducible apply st_cell' (i := 2)); rfl; kernel_rfl!; rfl; kernel_rfl!)
  | ((with_reducible apply st_cell' (i := 3)); rfl; kernel_rfl!; rfl; kernel_rfl!))
    (refine S_cons (X_if ?_))
    (repeat kt_ktab)
    refine (ct_draw P (m := 4) hp.set.cons.cons.cons hs' (by decide) (by decide) fun v s2 hs2 hv => ?_).call
    rw [setPen_cons, setPen_cons, setPen_cons, setPen_set]
    (repeat kt_ktab)
    refine k_gt (fun hgt => ?_) (fun hgt => ?_)
    · (repeat kt_ktab)
      (refine S_cons (X_assign rfl ?_))
      refine E_dict0S1 K fun Ld => ?_
      (first
  | ((with_reducible apply st_loc0); rfl; rfl; kernel_rfl!)
  | ((with_reducible apply st_cell' (i := 1)); rfl; kernel_rfl!; rfl; kernel_rfl!)
  | ((with_reducible apply st_cell' (i := 2)); rfl; kernel_rfl!; rfl; kernel_rfl!)
  | ((with_reducible apply st_cell' (i := 3)); rfl; kernel_rfl!; rfl; kernel_rfl!))
      refine S_cons (X_for (fun j mu' => ∃ m' s' lg, s'.ok ∧ mu' = (L, .ns m') :: (Ld, .dictS (lgsA a lg)) :: (Sd, .dictS (scsA a sc)) :: (L + 1, .cell (some (.val (.ref Pn)))) :: setPen mu i Pn T s' ∧ Has m' "scripts" (.val (.ref Sd)) ∧ Has m' "features" (.list (fs.map (avF a))) ∧ Has m' "tag" (.str t) ∧ Has m' "languages" (.val (.ref Ld)) ∧ LgOk langs2 lg) (fun _ => rfl) ?_)
      refine E_slice_from ?_
      refine E_list ?_
      (repeat kt_ktab)
      refine ⟨_, rfl, by simp, ?_⟩
      (repeat kt_ktab)
      refine (ct_draw P (m := 3) hp.set.cons.cons.cons.cons hs2 (by decide) (by decide) fun w s3 hs3 hw => ?_).call
      rw [setPen_cons, setPen_cons, setPen_cons, setPen_cons, setPen_set]
      refine ⟨w, rfl, ?_⟩
      have hdr : List.drop w [AV.str "URD ", AV.str "ARA "] = strsA (langs2.drop w) := by unfold strsA; rw [List.map_drop]; rfl
      rw [hdr]
      refine ⟨_, iter_list, ⟨_, s3, [], hs3, rfl, by (repeat (first | (with_reducible exact lk_here) | (with_reducible assumption) | (apply lk_next; decide +kernel))), by (repeat (first | (with_reducible exact lk_here) | (with_reducible assumption) | (apply lk_next; decide +kernel))), by (repeat (first | (with_reducible exact lk_here) | (with_reducible assumption) | (apply lk_next; decide +kernel))), by (repeat (first | (with_reducible exact lk_here) | (with_reducible assumption) | (apply lk_next; decide +kernel))), ⟨.nil, Nat.zero_le _, fun _ h => nomatch h⟩⟩, ?_, ?_⟩
      · rintro j x mu' hx ⟨m', s', lg, hs', rfl, m1, m2, m3, m4, hlg⟩
        obtain ⟨g, hg, rfl⟩ := strsA_at hx
        have hgm : g ∈ langs2 := List.mem_of_mem_drop (List.mem_of_getElem? hg)
        refine as_name ?_
        (first
  | ((with_reducible apply st_loc0); rfl; rfl; kernel_rfl!)
  | ((with_reducible apply st_cell' (i := 1)); rfl; kernel_rfl!; rfl; kernel_rfl!)
  | ((with_reducible apply st_cell' (i := 2)); rfl; kernel_rfl!; rfl; kernel_rfl!)
  | ((with_reducible apply st_cell' (i := 3)); rfl; kernel_rfl!; rfl; kernel_rfl!))
        refine S_cons (X_setsub rfl ?_)
        (repeat kt_ktab)
        refine (ct_langsys P hp.set.cons.cons.cons.cons hs' fun ls s4 hs4 hls => ?_).call
        rw [setPen_cons, setPen_cons, setPen_cons, setPen_cons, setPen_set]
        (repeat kt_ktab)
        refine ⟨Ld, rfl, set_dictS (i := 1) rfl (by unfold lgsA; rw [List.length_map]; have := hlg.len; simp [langs2] at this; omega) ?_⟩
        (simp only [List.set_cons_zero, List.set_cons_succ])
        rw [lgs_stored]
        exact L_end ⟨_, s4, storedL lg g ls, hs4, rfl, by (repeat (first | (with_reducible exact lk_here) | (with_reducible assumption) | (apply lk_next; decide +kernel))), by (repeat (first | (with_reducible exact lk_here) | (with_reducible assumption) | (apply lk_next; decide +kernel))), by (repeat (first | (with_reducible exact lk_here) | (with_reducible assumption) | (apply lk_next; decide +kernel))), by (repeat (first | (with_reducible exact lk_here) | (with_reducible assumption) | (apply lk_next; decide +kernel))), hlg.stored hgm hls⟩
      · rintro mu' ⟨m', s', lg, hs', rfl, m1, m2, m3, m4, hlg⟩
        refine WT.frzNs (x := "languages") (a := Ld) (L := L) (m := m') (mu1 := (L, .ns m') :: (Sd, .dictS (scsA a sc)) :: (L + 1, .cell (some (.val (.ref Pn)))) :: setPen mu i Pn T s') (i := 0) mono_true (.inr ⟨_, rfl, rfl⟩) (List.Perm.swap ..) rfl m4 ?_
        (simp only [List.set_cons_zero, List.set_cons_succ])
        refine S_cons (X_setsub rfl ?_)
        kt_ktab
        kt_ktab
        kt_ktab
        kt_ktab
        kt_ktab
        kt_ktab
        refine E_ifJ (fun α mu' => ∃ df s5, α = avO (avL a) df ∧ s5.ok ∧ (∀ d, df = some d → d.feats.length ≤ 4) ∧ mu' = (L, .ns (("languages", .dict (lgsA a lg)) :: m')) :: (Sd, .dictS (scsA a sc)) :: (L + 1, .cell (some (.val (.ref Pn)))) :: setPen mu i Pn T s5) ?_ ?_
        · (repeat kt_ktab)
          refine (ct_draw P (m := 3) hp.set.cons.cons.cons hs' (by decide) (by decide) fun w2 s3 hs3 hw => ?_).call
          rw [setPen_cons, setPen_cons, setPen_cons, setPen_set]
          (repeat kt_ktab)
          refine k_gt (fun hgt => ?_) (fun hgt => ?_)
          · (repeat kt_ktab)
            refine (ct_langsys P hp.set.cons.cons.cons hs3 fun ls s4 hs4 hls => ?_).call
            rw [setPen_cons, setPen_cons, setPen_cons, setPen_set]
            exact ⟨some ls, s4, rfl, hs4, fun d e => by cases e; exact hls, rfl⟩
          · (repeat kt_ktab)
            exact ⟨none, s3, rfl, hs3, (fun d e => by cases e), rfl⟩
        · rintro α mu' ⟨df, s5, rfl, hs5, hdf, rfl⟩
          (repeat kt_ktab)
          refine mk_Script P ?_
          (repeat kt_ktab)
          refine ⟨Sd, rfl, set_dictS (i := 1) rfl (by unfold scsA; rw [List.length_map]; have := hsc.len; have := List.length_take_le' j tags3; have h3 : tags3.length = 3 := rfl; omega) ?_⟩
          (simp only [List.set_cons_zero, List.set_cons_succ])
          obtain ⟨h1, h2⟩ := hsc.snoc (by decide +kernel) ht (s := ⟨t, df, lg⟩) ⟨hdf, hlg⟩
          rw [stored_new (by unfold scsA; rw [keys_map']; exact h1)]
          refine S_nil ?_
          exact L_end ⟨_, s5, sc ++ [(t, ⟨t, df, lg⟩)], hs5, by unfold scsA; rw [List.map_append]; rfl, by (repeat (first | (with_reducible exact lk_here) | (with_reducible assumption) | (apply lk_next; decide +kernel))), by (repeat (first | (with_reducible exact lk_here) | (with_reducible assumption) | (apply lk_next; decide +kernel))), h2⟩
    · (repeat kt_ktab)
      refine S_nil ?_
      exact L_end ⟨_, s2, sc, hs2, rfl, by (repeat (first | (with_reducible exact lk_here) | (with_reducible assumption) | (apply lk_next; decide +kernel))), by (repeat (first | (with_reducible exact lk_here) | (with_reducible assumption) | (apply lk_next; decide +kernel))), hsc.skip ht⟩
  · rintro mu' ⟨m', s', sc, hs', rfl, m1, m2, hsc⟩
    rw [strsA_len, List.take_length] at hsc
    refine WT.frzNs (x := "scripts") (a := Sd) (L := L) (m := m') (mu1 := (L, .ns m') :: (L + 1, .cell (some (.val (.ref Pn)))) :: setPen mu i Pn T s') (i := 0) mono_true (.inr ⟨_, rfl, rfl⟩) (List.Perm.swap ..) rfl m1 ?_
    (simp only [List.set_cons_zero, List.set_cons_succ])
    (refine S_cons (X_ret ?_))
    (repeat kt_ktab)
    refine E_list ?_
    (repeat kt_ktab)
    refine (ct_draw P (m := 6) hp.set.cons.cons hs' (by decide) (by decide) fun v s2 hs2 hv => ?_).call
    rw [setPen_cons, setPen_cons, setPen_set]
    (repeat kt_ktab)
    rw [show (1 + (v : Int)) = ((1 + v : Nat) : Int) by omega]
    refine b_mul_list (by omega) (by simp; omega) ?_
    have hrep : (List.replicate (1 + v) [AV.none]).flatten = List.replicate (1 + v) .none := by simp
    rw [hrep]
    (repeat kt_ktab)
    refine mk_Layout P ?_
    exact ⟨[(L, _), (L + 1, _)], _, .refl _, h ⟨sc, fs, 1 + v⟩ s2 hs2 (wf_of hsc hf5 hfs (by omega))⟩
end
end Mine
end
section
open PySem PySem.W PyProof.Rows PySem.SeqAt PySem.Spec
set_option maxHeartbeats 4000000
namespace Mine

def gathK (l : Ly) (s : LS) : List Nat := (gath l s (offT l s)).map (·.1)
def gathered0 (l : Ly) (rs : List Row) : List Nat := rs.flatMap fun r => gathK l r.2.2
def gathered (l : Ly) (rs : List Row) : List Nat := setOf (gathered0 l rs)
theorem gathK_ok (l : Ly) (s : LS) : KeysOk l.nl (gathK l s) := by
  have h := gathM_ok l s (sortS (offT l s)) (gathM0 l s) (gathM0_ok l s)
  have e : gathK l s = sortN ((gathM l s (sortS (offT l s)) (gathM0 l s)).map (·.1)) := by
    unfold gathK gath
    rw [List.map_map]
    exact List.map_id _
  rw [e]
  exact ⟨(sortN_perm _).nodup_iff.mpr h.nd, fun x hx => h.lt x ((sortN_perm _).mem_iff.mp hx)⟩
theorem gathK_len (l : Ly) (s : LS) : (gathK l s).length ≤ l.nl := (gathK_ok l s).len
theorem gath_len (l : Ly) (s : LS) : (gath l s (offT l s)).length ≤ l.nl := by have := gathK_len l s; unfold gathK at this; rwa [List.length_map] at this
theorem gathered0_len {l : Ly} (W : WF l) (rs : List Row) : (gathered0 l rs).length ≤ 6 * rs.length := flatMap_len fun r _ => Nat.le_trans (gathK_len l r.2.2) W.nl
theorem gathered0_small {l : Ly} (W : WF l) (rs : List Row) : small6 (gathered0 l rs) := small_of_lt (c := l.nl) (fun x hx => by
  obtain ⟨r, _, h⟩ := List.mem_flatMap.mp hx
  exact (gathK_ok l r.2.2).lt x h) W.nl
theorem offL_nodup (l : Ly) : ∀ (ks : List Nat) (acc : List Str), acc.Nodup → (ks.foldl (offStep l) acc).Nodup
  | [], acc, h => h
  | k :: ks, acc, h => offL_nodup l ks _ (by
      unfold offStep
      cases feat? l (k : Int) with
      | none => exact h
      | some f =>
        dsimp only
        split
        · exact h
        · rename_i hm
          rw [List.nodup_append]
          refine ⟨h, by simp, fun a ha b hb e => ?_⟩
          rw [List.mem_singleton.mp hb] at e
          exact hm (e ▸ ha))
theorem offT_nodup (l : Ly) (s : LS) : (offT l s).Nodup := (sortS_perm _).nodup_iff.mpr (offL_nodup l s.feats [] .nil)
theorem offT_len (l : Ly) (s : LS) : (offT l s).length ≤ s.feats.length := by
  have := offL_len l s.feats []
  unfold offT
  rw [(sortS_perm _).length_eq]
  have h2 : (offL l s.feats).length ≤ 0 + s.feats.length := this
  omega
theorem tupsA_at {l : List (Nat × Int)} {i : Nat} {x : AV} (h : (tupsA l)[i]? = some x) : ∃ p, l[i]? = some p ∧ x = .tup [.int (p.1 : Int), .int p.2] := by
  unfold tupsA at h
  rw [List.getElem?_map] at h
  obtain ⟨k, h1, h2⟩ := Option.map_eq_some_iff.mp h
  exact ⟨k, h1, h2.symm⟩
theorem rowsA_at {a : Ad} {rs : List Row} {i : Nat} {x : AV} (h : (rowsA a rs)[i]? = some x) : ∃ r, rs[i]? = some r ∧ x = rowA a r := by
  unfold rowsA at h
  rw [List.getElem?_map] at h
  obtain ⟨k, h1, h2⟩ := Option.map_eq_some_iff.mp h
  exact ⟨k, h1, h2.symm⟩
structure RowsOk (rs : List Row) : Prop where
  len : rs.length ≤ 9
  ok : ∀ r ∈ rs, r.2.2.feats.length ≤ 4
theorem WF.rowsOk {l : Ly} (W : WF l) : RowsOk (rowsOf l) := ⟨W.rows_len, fun r h => W.row_feats h⟩

section
variable {C : Cx} {n : Nat} {mu : Mu} {env : Env} {Q : AV → Mu → Prop}
set_option maxHeartbeats 16000000 in
theorem ct_gathered {a : Ad} (P : Pr C a) {l : Ly} (W : WF l) {rs : List Row} (R : RowsOk rs) (h : Q (.list (natsA (gathered l rs))) mu) : CL C (n + 4) [avY a l, .list (rowsA a rs)] mu (.ref a.f22) Q := by
  (have K := P.K; obtain ⟨l1, l2, s1, s2, s3, f1, f2, y1, y2, y3⟩ := P.A; obtain ⟨len, sorted, abs, int, range, list, tuple, set, dict⟩ := P.B; have g2 := P.g2; have F2 := P.F2; have g3 := P.g3; have F3 := P.F3; have g4 := P.g4; have F4 := P.F4; have g5 := P.g5; have F5 := P.F5; have g6 := P.g6; have F6 := P.F6; have g7 := P.g7; have F7 := P.F7; have g8 := P.g8; have F8 := P.F8; have g9 := P.g9; have F9 := P.F9; have g16 := P.g16; have F16 := P.F16; have g17 := P.g17; have F17 := P.F17; have g18 := P.g18; have F18 := P.F18; have g19 := P.g19; have F19 := P.F19; have g20 := P.g20; have F20 := P.F20; have g21 := P.g21; have F21 := P.F21; have g22 := P.g22; have F22 := P.F22; have g23 := P.g23; have F23 := P.F23; have gcL := P.gcL; have kcL := P.kcL; have FiL := P.FiL; have gcS := P.gcS; have kcS := P.kcS; have FiS := P.FiS; have gcF := P.gcF; have kcF := P.kcF; have FiF := P.FiF; have gcY := P.gcY; have kcY := P.kcY; have FiY := P.FiY; have info := P.info; have Ftl := P.Ft; have mt := P.mt)
  refine call_fnC K F22 (dα := []) (m0 := [("rows", .list (rowsA a rs)), ("layout", avY a l)]) (ce := fun L => []) (fun _ => .nil) rfl rfl rfl rfl (fun _ => by kernel_rfl!) (fun _ => by kernel_rfl!) (by kernel_rfl!) (fun _ => by kernel_rfl!) fun L q cd => ?_
  rw [List.nil_append]
  have hfl := W.fl
  have hrl := R.len
  (refine S_cons (X_assign rfl ?_))
  refine E_list ?_
  (repeat kt_ktab)
  (first
  | ((with_reducible apply st_loc0); rfl; rfl; kernel_rfl!)
  | ((with_reducible apply st_cell' (i := 1)); rfl; kernel_rfl!; rfl; kernel_rfl!)
  | ((with_reducible apply st_cell' (i := 2)); rfl; kernel_rfl!; rfl; kernel_rfl!)
  | ((with_reducible apply st_cell' (i := 3)); rfl; kernel_rfl!; rfl; kernel_rfl!))
  refine S_cons (X_for (fun i mu' => ∃ m', mu' = (L, .ns m') :: mu ∧ Has m' "layout" (avY a l) ∧ Has m' "found" (.list (natsA (gathered0 l (rs.take i))))) (fun _ => rfl) ?_)
  (repeat kt_ktab)
  refine ⟨rowsA a rs, iter_list, ⟨_, rfl, by (repeat (first | (with_reducible exact lk_here) | (with_reducible assumption) | (apply lk_next; decide +kernel))), by rw [List.take_zero]; exact lk_here⟩, ?_, ?_⟩
  · rintro i x mu' hx ⟨m', rfl, m1, m2⟩
    obtain ⟨r, hr, rfl⟩ := rowsA_at hx
    have hff := R.ok r (List.mem_of_getElem? hr)
    have hi := (List.getElem?_eq_some_iff.mp hr).1
    have hstep : gathered0 l (rs.take (i + 1)) = gathered0 l (rs.take i) ++ gathK l r.2.2 := flatMap_take_succ _ hr
    have hlen := gathered0_len W (rs.take i)
    have hlt := List.length_take_le' i rs
    generalize gathered0 l (rs.take i) = G at hstep hlen m2 ⊢
    obtain ⟨t, g, s⟩ := r
    dsimp only at hff hstep
    refine as3 ?_
    (first
  | ((with_reducible apply st_loc0); rfl; rfl; kernel_rfl!)
  | ((with_reducible apply st_cell' (i := 1)); rfl; kernel_rfl!; rfl; kernel_rfl!)
  | ((with_reducible apply st_cell' (i := 2)); rfl; kernel_rfl!; rfl; kernel_rfl!)
  | ((with_reducible apply st_cell' (i := 3)); rfl; kernel_rfl!; rfl; kernel_rfl!))
    (first
  | ((with_reducible apply st_loc0); rfl; rfl; kernel_rfl!)
  | ((with_reducible apply st_cell' (i := 1)); rfl; kernel_rfl!; rfl; kernel_rfl!)
  | ((with_reducible apply st_cell' (i := 2)); rfl; kernel_rfl!; rfl; kernel_rfl!)
  | ((with_reducible apply st_cell' (i := 3)); rfl; kernel_rfl!; rfl; kernel_rfl!))
    (first
  | ((with_reducible apply st_loc0); rfl; rfl; kernel_rfl!)
  | ((with_reducible apply st_cell' (i := 1)); rfl; kernel_rfl!; rfl; kernel_rfl!)
  | ((with_reducible apply st_cell' (i := 2)); rfl; kernel_rfl!; rfl; kernel_rfl!)
  | ((with_reducible apply st_cell' (i := 3)); rfl; kernel_rfl!; rfl; kernel_rfl!))
    have hol := offT_len l s
    (refine S_cons (X_assign rfl ?_))
    kt_ktab
    kt_ktab
    kt_ktab
    kt_ktab
    refine E_compF (cl := []) (fun j ys mu' => mu' = (L, .ns (("langsys", avL a s) :: ("language", .str g) :: ("tag", .str t) :: m')) :: mu ∧ ys = pairsV (((offT l s).take j).map fun t => (t, .int 1))) (fun _ => rfl) (by kernel_rfl!) (by decide +kernel) rfl (by decide +kernel) ?_ ?_
    · rintro j ys mu' ⟨_, rfl⟩
      simp only [pairsV, List.length_map]
      exact List.length_take_le ..
    (repeat kt_ktab)
    refine (ct_offered_tags P (by omega) (by show s.feats.length < 64; omega) (fun f hf => (W.ft f hf).1) ?_).call
    refine ⟨strsA (offT l s), iter_list, by rw [strsA_len]; omega, ⟨rfl, by rw [List.take_zero]; rfl⟩, ?_, ?_⟩
    · rintro D mc j x ys mu' hx ⟨rfl, rfl⟩
      obtain ⟨o, ho, rfl⟩ := strsA_at hx
      refine as_name ?_
      (first
  | ((with_reducible apply st_loc0); rfl; rfl; kernel_rfl!)
  | ((with_reducible apply st_cell' (i := 1)); rfl; kernel_rfl!; rfl; kernel_rfl!)
  | ((with_reducible apply st_cell' (i := 2)); rfl; kernel_rfl!; rfl; kernel_rfl!)
  | ((with_reducible apply st_cell' (i := 3)); rfl; kernel_rfl!; rfl; kernel_rfl!))
      refine tests_nil ?_
      refine ift ?_
      (repeat kt_ktab)
      exact ⟨_, _, rfl, rfl, by rw [take_succ' ho]; simp [pairsV]⟩
    · rintro ys mu' ⟨rfl, rfl⟩
      rw [strsA_len, List.take_length]
      (repeat kt_ktab)
      have hk : ((offT l s).map fun t => ((t, AV.int 1) : Str × AV)).map (·.1) = offT l s := by rw [List.map_map]; exact List.map_id _
      refine l_dict K (by rw [hk]; exact offT_nodup l s) (by rw [List.length_map]; omega) ?_
      (first
  | ((with_reducible apply st_loc0); rfl; rfl; kernel_rfl!)
  | ((with_reducible apply st_cell' (i := 1)); rfl; kernel_rfl!; rfl; kernel_rfl!)
  | ((with_reducible apply st_cell' (i := 2)); rfl; kernel_rfl!; rfl; kernel_rfl!)
  | ((with_reducible apply st_cell' (i := 3)); rfl; kernel_rfl!; rfl; kernel_rfl!))
      (refine S_cons (X_assign rfl ?_))
      kt_ktab
      kt_ktab
      refine E_compF (cl := []) (fun j ys mu' => mu' = (L, .ns (("wishes", wishA (offT l s)) :: ("langsys", avL a s) :: ("language", .str g) :: ("tag", .str t) :: m')) :: mu ∧ ys = natsA (((gath l s (offT l s)).take j).map (·.1))) (fun _ => rfl) (by kernel_rfl!) (by decide +kernel) rfl (by decide +kernel) ?_ ?_
      · rintro j ys mu' ⟨_, rfl⟩
        rw [natsA_len, List.length_map]
        exact List.length_take_le ..
      (repeat kt_ktab)
      have hnl := W.nl
      refine (ct_gather P (by omega) (by show s.feats.length ≤ 100; omega) (by omega) (by omega) ?_).call
      have hgl := gath_len l s
      refine ⟨tupsA (gath l s (offT l s)), iter_list, by simp [tupsA]; omega, ⟨rfl, by rw [List.take_zero]; rfl⟩, ?_, ?_⟩
      · rintro D mc j x ys mu' hx ⟨rfl, rfl⟩
        obtain ⟨o, ho, rfl⟩ := tupsA_at hx
        refine as2 ?_
        (first
  | ((with_reducible apply st_loc0); rfl; rfl; kernel_rfl!)
  | ((with_reducible apply st_cell' (i := 1)); rfl; kernel_rfl!; rfl; kernel_rfl!)
  | ((with_reducible apply st_cell' (i := 2)); rfl; kernel_rfl!; rfl; kernel_rfl!)
  | ((with_reducible apply st_cell' (i := 3)); rfl; kernel_rfl!; rfl; kernel_rfl!))
        (first
  | ((with_reducible apply st_loc0); rfl; rfl; kernel_rfl!)
  | ((with_reducible apply st_cell' (i := 1)); rfl; kernel_rfl!; rfl; kernel_rfl!)
  | ((with_reducible apply st_cell' (i := 2)); rfl; kernel_rfl!; rfl; kernel_rfl!)
  | ((with_reducible apply st_cell' (i := 3)); rfl; kernel_rfl!; rfl; kernel_rfl!))
        refine tests_nil ?_
        refine ift ?_
        (repeat kt_ktab)
        exact ⟨_, _, rfl, rfl, by rw [take_succ' ho]; simp [natsA]⟩
      · rintro ys mu' ⟨rfl, rfl⟩
        have e : (tupsA (gath l s (offT l s))).length = (gath l s (offT l s)).length := by simp [tupsA]
        rw [e, List.take_length]
        refine b_add_list (by rw [natsA_len, natsA_len, List.length_map]; omega) ?_
        rw [← natsA_append]
        (first
  | ((with_reducible apply st_loc0); rfl; rfl; kernel_rfl!)
  | ((with_reducible apply st_cell' (i := 1)); rfl; kernel_rfl!; rfl; kernel_rfl!)
  | ((with_reducible apply st_cell' (i := 2)); rfl; kernel_rfl!; rfl; kernel_rfl!)
  | ((with_reducible apply st_cell' (i := 3)); rfl; kernel_rfl!; rfl; kernel_rfl!))
        exact L_end ⟨_, rfl, by (repeat (first | (with_reducible exact lk_here) | (with_reducible assumption) | (apply lk_next; decide +kernel))), by rw [hstep]; exact lk_here⟩
  · rintro mu' ⟨m', rfl, m1, m2⟩
    rw [rowsA_len, List.take_length] at m2
    have hlen := gathered0_len W rs
    (refine S_cons (X_ret ?_))
    (repeat kt_ktab)
    refine l_set (gathered0_small W rs) (by omega) ?_
    (repeat kt_ktab)
    refine l_sorted_set (setOf_subs (gathered0_small W rs)) ?_
    exact ⟨[(L, _)], mu, .refl _, h⟩
end
end Mine
end
section
open PySem PySem.W PyProof.Rows PySem.SeqAt PySem.Spec
set_option maxHeartbeats 4000000
namespace Mine

/-! the plain law -/
def Hit (l : Ly) (x : Nat) (k : Int) : Prop := ∃ f, feat? l k = some f ∧ x ∈ f.lks ∧ x < l.nl
theorem mem_step {l : Ly} {acc : List Nat} {k : Int} {x : Nat} : x ∈ stepF l acc k ↔ x ∈ acc ∨ Hit l x k := by
  unfold stepF Hit
  cases h : feat? l k with
  | none => simp
  | some f =>
    dsimp only
    rw [List.mem_append, List.mem_filter]
    unfold selL
    simp only [Bool.and_eq_true, decide_eq_true_eq, Option.some.injEq, exists_eq_left']
    constructor
    · rintro (h1 | ⟨h1, h2, _⟩)
      · exact .inl h1
      · exact .inr ⟨h1, h2⟩
    · rintro (h1 | ⟨h1, h2⟩)
      · exact .inl h1
      · by_cases hm : x ∈ acc
        · exact .inl hm
        · exact .inr ⟨h1, h2, hm⟩
theorem mem_fold {l : Ly} {x : Nat} : ∀ {ks : List Int} {acc : List Nat}, x ∈ ks.foldl (stepF l) acc ↔ x ∈ acc ∨ ∃ k ∈ ks, Hit l x k
  | [], acc => by simp
  | k :: ks, acc => by
    rw [List.foldl_cons, mem_fold, mem_step]
    simp only [List.mem_cons, exists_eq_or_imp, or_assoc]
theorem mem_rows {l : Ly} {x : Nat} : ∀ {rs : List Row} {acc : List Nat}, x ∈ rs.foldl (rowF l) acc ↔ x ∈ acc ∨ ∃ r ∈ rs, ∃ k ∈ numsOf r.2.2, Hit l x k
  | [], acc => by simp
  | r :: rs, acc => by
    rw [List.foldl_cons, mem_rows]
    unfold rowF
    rw [mem_fold]
    simp only [List.mem_cons, exists_eq_or_imp, or_assoc]
theorem mem_asked0 {l : Ly} {x : Nat} : x ∈ asked0 l ↔ ∃ r ∈ rowsOf l, ∃ k ∈ numsOf r.2.2, Hit l x k := by unfold asked0; rw [mem_rows]; simp
theorem mem_gathT {l : Ly} {x : Nat} : ∀ {ks : List Nat} {m : List (Nat × Int)}, x ∈ (gathT l ks m).map (·.1) ↔ x ∈ m.map (·.1) ∨ ∃ k ∈ ks, x ∈ lksAt l k ∧ x < l.nl
  | [], m => by simp [gathT]
  | k :: ks, m => by
    show x ∈ (gathT l ks (addL l.nl 1 (lksAt l k) m)).map (·.1) ↔ _
    rw [mem_gathT, addL_keys, mem_addK]
    simp only [List.mem_cons, exists_eq_or_imp, or_assoc]
theorem mem_gathM {l : Ly} {s : LS} {x : Nat} : ∀ {ts : List Str} {m : List (Nat × Int)}, x ∈ (gathM l s ts m).map (·.1) ↔ x ∈ m.map (·.1) ∨ ∃ t ∈ ts, ∃ k ∈ fIdx l s t, x ∈ lksAt l k ∧ x < l.nl
  | [], m => by simp [gathM]
  | t :: ts, m => by
    show x ∈ (gathM l s ts (gathT l (fIdx l s t) m)).map (·.1) ↔ _
    rw [mem_gathM, mem_gathT]
    simp only [List.mem_cons, exists_eq_or_imp, or_assoc]
theorem mem_offL {l : Ly} {t : Str} : ∀ {ks : List Nat} {acc : List Str}, t ∈ ks.foldl (offStep l) acc ↔ t ∈ acc ∨ ∃ k ∈ ks, ∃ f, feat? l (k : Int) = some f ∧ f.tag = t
  | [], acc => by simp
  | k :: ks, acc => by
    rw [List.foldl_cons, mem_offL]
    have e : t ∈ offStep l acc k ↔ t ∈ acc ∨ ∃ f, feat? l (k : Int) = some f ∧ f.tag = t := by
      unfold offStep
      cases h : feat? l (k : Int) with
      | none => simp
      | some f =>
        dsimp only
        simp only [Option.some.injEq, exists_eq_left']
        split
        · rename_i hm
          constructor
          · exact .inl
          · rintro (h1 | rfl)
            · exact h1
            · exact hm
        · rw [List.mem_append, List.mem_singleton]
          constructor
          · rintro (h1 | rfl)
            · exact .inl h1
            · exact .inr rfl
          · rintro (h1 | rfl)
            · exact .inl h1
            · exact .inr rfl
    rw [e]
    simp only [List.mem_cons, exists_eq_or_imp, or_assoc]
theorem mem_offT {l : Ly} {s : LS} {t : Str} : t ∈ offT l s ↔ ∃ k ∈ s.feats, ∃ f, feat? l (k : Int) = some f ∧ f.tag = t := by
  unfold offT offL
  rw [(sortS_perm _).mem_iff, mem_offL]; simp
theorem mem_gathK {l : Ly} {s : LS} {x : Nat} : x ∈ gathK l s ↔ ∃ k ∈ numsOf s, Hit l x k := by
  have e : x ∈ gathK l s ↔ x ∈ (gathM l s (sortS (offT l s)) (gathM0 l s)).map (·.1) := by
    have : gathK l s = sortN ((gathM l s (sortS (offT l s)) (gathM0 l s)).map (·.1)) := by
      unfold gathK gath
      rw [List.map_map]
      exact List.map_id _
    rw [this, (sortN_perm _).mem_iff]
  have e0 : x ∈ (gathM0 l s).map (·.1) ↔ Hit l x s.req := by
    unfold gathM0 Hit req?
    cases h : feat? l s.req with
    | none => simp
    | some f =>
      dsimp only
      rw [addL_keys, mem_addK]
      simp
  rw [e, mem_gathM, e0]
  unfold numsOf
  simp only [List.mem_cons, exists_eq_or_imp, List.mem_map]
  constructor
  · rintro (h | ⟨t, ht, k, hk, h1, h2⟩)
    · exact .inl h
    · obtain ⟨f, hf⟩ := fIdx_feat hk
      rw [lksAt_of hf] at h1
      exact .inr ⟨(k : Int), ⟨k, (List.mem_filter.mp hk).1, rfl⟩, f, hf, h1, h2⟩
  · rintro (h | ⟨_, ⟨k, hk, rfl⟩, f, hf, h1, h2⟩)
    · exact .inl h
    · refine .inr ⟨f.tag, (sortS_perm _).mem_iff.mpr (mem_offT.mpr ⟨k, hk, f, hf, rfl⟩), k, List.mem_filter.mpr ⟨hk, ?_⟩, by rw [lksAt_of hf]; exact h1, h2⟩
      unfold hasTag
      rw [hf]
      simp
theorem mem_gathered0 {l : Ly} {rs : List Row} {x : Nat} : x ∈ gathered0 l rs ↔ ∃ r ∈ rs, ∃ k ∈ numsOf r.2.2, Hit l x k := by
  unfold gathered0
  rw [List.mem_flatMap]
  constructor
  · rintro ⟨r, hr, h⟩; exact ⟨r, hr, mem_gathK.mp h⟩
  · rintro ⟨r, hr, h⟩; exact ⟨r, hr, mem_gathK.mpr h⟩
theorem subs6_ext : ∀ l₁ ∈ subs6, ∀ l₂ ∈ subs6, (∀ x ∈ [0, 1, 2, 3, 4, 5], decide (x ∈ l₁) = decide (x ∈ l₂)) → l₁ = l₂ := by decide +kernel
theorem setOf_ext {a b : List Nat} (ha : small6 a) (hb : small6 b) (h : ∀ x, x ∈ a ↔ x ∈ b) : setOf a = setOf b :=
  subs6_ext _ (setOf_subs ha) _ (setOf_subs hb) fun x _ => by rw [decide_eq_decide, mem_setOf, mem_setOf]; exact h x
theorem law_one {l : Ly} (W : WF l) : asked l = gathered l (rowsOf l) := setOf_ext (asked0_small W) (gathered0_small W _) fun x => mem_asked0.trans mem_gathered0.symm

/-! one script struck -/
def less (l : Ly) (t : Str) : Ly := ⟨l.scripts.filter fun p => decide (p.1 ≠ t), l.features, l.nl⟩
theorem feat_less {l : Ly} {t : Str} {k : Int} : feat? (less l t) k = feat? l k := rfl
theorem hit_less {l : Ly} {t : Str} {x : Nat} {k : Int} : Hit (less l t) x k ↔ Hit l x k := Iff.rfl
theorem WF.less {l : Ly} (W : WF l) (t : Str) : WF (less l t) := by
  have sub : ∀ p ∈ (Mine.less l t).scripts, p ∈ l.scripts := fun p hp => (List.mem_filter.mp hp).1
  refine ⟨?_, ?_, fun p hp => W.ss p (sub p hp), fun p hp => W.sd p (sub p hp), fun p hp => W.lk p (sub p hp), fun p hp => W.ll p (sub p hp), fun p hp => W.lo p (sub p hp), W.fl, W.ft, W.nl⟩
  · exact (List.Sublist.map _ List.filter_sublist).nodup W.sk
  · exact Nat.le_trans (List.length_filter_le ..) W.sl
theorem filter_keys (l : List (Str × Sc)) (t : Str) : (l.filter fun p => decide (p.1 ≠ t)).map (·.1) = (l.map (·.1)).filter fun k => decide (k ≠ t) := by
  rw [List.filter_map]; rfl
theorem sortS_filter (l : List Str) (t : Str) : sortS (l.filter fun k => decide (k ≠ t)) = (sortS l).filter fun k => decide (k ≠ t) :=
  (eq_sortS ((sortS_perm l).filter _) ((sortS_sorted l).filter _)).symm
theorem lookup_filter {l : List (Str × Sc)} {t k : Str} (h : k ≠ t) : (l.filter fun p => decide (p.1 ≠ t)).lookup k = l.lookup k := by
  induction l with
  | nil => rfl
  | cons p r ih =>
    obtain ⟨y, v⟩ := p
    rw [List.filter_cons]
    by_cases e : y = t
    · subst e
      rw [if_neg (by simp), ih, List.lookup_cons, beq_eq_false_iff_ne.mpr h]
    · rw [if_pos (by simpa using e), List.lookup_cons, List.lookup_cons, ih]
theorem rowsT_tag {l : Ly} {t : Str} {r : Row} (h : r ∈ rowsT l t) : r.1 = t := by
  unfold rowsT at h
  cases hs : l.scripts.lookup t with
  | none => rw [hs] at h; cases h
  | some sc =>
    rw [hs] at h
    rcases List.mem_append.mp h with h | h
    · cases hd : sc.dflt with
      | none => rw [hd] at h; cases h
      | some d => rw [hd] at h; rw [List.mem_singleton.mp h]
    · obtain ⟨g, _, h⟩ := List.mem_flatMap.mp h
      unfold lRow at h
      cases hg : sc.langs.lookup g with
      | none => rw [hg] at h; cases h
      | some s => rw [hg] at h; rw [List.mem_singleton.mp h]
theorem rows_less (l : Ly) (t : Str) : rowsOf (less l t) = (rowsOf l).filter fun r => decide (r.1 ≠ t) := by
  unfold rowsOf
  have e1 : (less l t).scripts.map (·.1) = (l.scripts.map (·.1)).filter fun k => decide (k ≠ t) := filter_keys _ _
  rw [e1, sortS_filter]
  have key : ∀ ks : List Str, (ks.filter fun k => decide (k ≠ t)).flatMap (rowsT (less l t)) = (ks.flatMap (rowsT l)).filter fun r => decide (r.1 ≠ t) := by
    intro ks
    induction ks with
    | nil => rfl
    | cons k ks ih =>
      rw [List.flatMap_cons, List.filter_append, ← ih, List.filter_cons]
      by_cases e : k = t
      · rw [if_neg (by simp [e])]
        have : (rowsT l k).filter (fun r => decide (r.1 ≠ t)) = [] := by
          rw [List.filter_eq_nil_iff]
          intro r hr
          rw [rowsT_tag hr]; simp [e]
        rw [this, List.nil_append]
      · rw [if_pos (by simpa using e), List.flatMap_cons]
        have h1 : rowsT (less l t) k = rowsT l k := by unfold rowsT less; rw [lookup_filter e]
        have h2 : (rowsT l k).filter (fun r => decide (r.1 ≠ t)) = rowsT l k := by
          rw [List.filter_eq_self]
          intro r hr
          rw [rowsT_tag hr]; simpa using e
        rw [h1, h2]
  exact key _
theorem small6_sub {a b : List Nat} (hb : small6 b) (h : ∀ x ∈ a, x ∈ b) : small6 a := fun x hx => hb x (h x hx)
theorem subs6_drop : ∀ k ∈ [0, 1, 2, 3, 4, 5], ∀ L ∈ subs6, (L.filter fun x => x != k) ∈ subs6 := by decide +kernel
theorem subs6_le : ∀ L ∈ subs6, ∀ x ∈ L, x ∈ [0, 1, 2, 3, 4, 5] := by decide +kernel
theorem subs6_filter (p : Nat → Bool) {L : List Nat} (hL : L ∈ subs6) : L.filter p ∈ subs6 := by
  have key : ∀ ks : List Nat, (∀ k ∈ ks, k ∈ [0, 1, 2, 3, 4, 5]) → ∀ L ∈ subs6, (L.filter fun x => p x || !ks.contains x) ∈ subs6 := by
    intro ks
    induction ks with
    | nil =>
      intro _ L hL
      have e : (L.filter fun x => p x || !([] : List Nat).contains x) = L := by simp
      rw [e]; exact hL
    | cons k ks ih =>
      intro hk L hL
      have hr := ih (fun x hx => hk x (.tail _ hx))
      cases hp : p k with
      | true =>
        have e : (L.filter fun x => p x || !(k :: ks).contains x) = L.filter fun x => p x || !ks.contains x := by
          refine List.filter_congr fun x _ => ?_
          by_cases q : x = k
          · subst q; simp [hp]
          · simp [q]
        rw [e]; exact hr L hL
      | false =>
        have e : (L.filter fun x => p x || !(k :: ks).contains x) = (L.filter fun x => x != k).filter fun x => p x || !ks.contains x := by
          rw [List.filter_filter]
          refine List.filter_congr fun x _ => ?_
          by_cases q : x = k
          · subst q; simp [hp]
          · simp [q]
        rw [e]; exact hr _ (subs6_drop k (hk k (.head _)) L hL)
  have e : L.filter p = L.filter fun x => p x || !([0, 1, 2, 3, 4, 5] : List Nat).contains x := by
    refine List.filter_congr fun x hx => ?_
    have h6 := subs6_le L hL x hx
    rw [List.contains_iff_mem.mpr h6]
    simp
  rw [e]
  exact key _ (fun k hk => hk) L hL
theorem law_two {l : Ly} (W : WF l) (t : Str) : asked (less l t) = (asked l).filter fun x => decide (x ∈ gathered l ((rowsOf l).filter fun r => decide (r.1 ≠ t))) := by
  refine subs6_ext _ (setOf_subs (asked0_small (W.less t))) _ (subs6_filter _ (setOf_subs (asked0_small W))) fun x _ => ?_
  rw [decide_eq_decide]
  unfold asked gathered
  rw [mem_setOf, mem_asked0, List.mem_filter, mem_setOf, mem_asked0, decide_eq_true_eq, mem_setOf, mem_gathered0, rows_less]
  constructor
  · rintro ⟨r, hr, k, hk, h⟩
    exact ⟨⟨r, (List.mem_filter.mp hr).1, k, hk, h⟩, r, hr, k, hk, h⟩
  · rintro ⟨_, r, hr, k, hk, h⟩
    exact ⟨r, hr, k, hk, h⟩
theorem asked_nil (ft : List Ft) (nl : Nat) : asked ⟨[], ft, nl⟩ = [] := by
  unfold asked asked0 rowsOf
  simp [sortS, setOf]
end Mine
end
section
open PySem PySem.W PyProof.Rows PySem.SeqAt PySem.Spec
set_option maxHeartbeats 4000000
namespace Mine

def dueP (r : Row) : PyData := .tuple [.str r.1, .str r.2.1]
def duesA (rs : List Row) : List AV := rs.map fun r => .tup [.str r.1, .str r.2.1]
theorem duesA_append (a b : List Row) : duesA (a ++ b) = duesA a ++ duesA b := by simp [duesA]
theorem duesA_len (a : List Row) : (duesA a).length = a.length := by simp [duesA]
theorem duesA_pd (rs : List Row) : AV.list (duesA rs) = ofPD (.list (rs.map dueP)) := by
  show _ = AV.list (ofPDs _)
  rw [ofPDs_map]
  simp [duesA, dueP, ofPD, ofPDs]
theorem natsA_pd (ks : List Nat) : AV.list (natsA ks) = ofPD (.list (ks.map fun k : Nat => PyData.int (k : Int))) := by
  show _ = AV.list (ofPDs _)
  rw [ofPDs_nats]
theorem depth_ints : ∀ ks : List Nat, PyData.depthAll (ks.map fun k : Nat => PyData.int (k : Int)) = 0
  | [] => rfl
  | x :: r => by show max 0 (PyData.depthAll (r.map _)) = 0; rw [depth_ints r]; rfl
theorem shaped_nats (ks : List Nat) : shaped (.list (ks.map fun k : Nat => PyData.int (k : Int))) = true := by
  unfold shaped
  rw [Bool.and_eq_true]
  refine ⟨lay_nats, decide_eq_true ?_⟩
  show PyData.depthAll _ + 1 ≤ 64
  rw [depth_ints]; decide
def toldP (s : LS) : PyData := .tuple [.int s.req, .tuple (s.feats.map fun k : Nat => PyData.int (k : Int))]
theorem told_pd (s : LS) : toldA s = ofPD (toldP s) := by
  show _ = AV.tup [.int s.req, .tup (ofPDs _)]
  rw [ofPDs_nats]; rfl
theorem shaped_told (s : LS) : shaped (toldP s) = true := by
  unfold shaped toldP
  rw [Bool.and_eq_true]
  refine ⟨?_, decide_eq_true ?_⟩
  · simp only [PyData.canLay0, PyData.canLayAll0, Bool.true_and, Bool.and_true]
    exact lay_nats
  · show max 0 (max (PyData.depthAll _ + 1) 0) + 1 ≤ 64
    rw [depth_ints]; decide
def RowsStr (rs : List Row) : Prop := ∀ r ∈ rs, PyData.strOk r.1 = true ∧ PyData.strOk r.2.1 = true
theorem shaped_dues {rs : List Row} (h : RowsStr rs) : shaped (.list (rs.map dueP)) = true := by
  have h1 : ∀ rs : List Row, RowsStr rs → PyData.canLayAll0 (rs.map dueP) = true := by
    intro rs
    induction rs with
    | nil => intro _; rfl
    | cons r rs ih =>
      intro h
      have hd := ih fun x hx => h x (.tail _ hx)
      simp only [List.map_cons, PyData.canLayAll0]
      rw [hd]
      simp only [dueP, PyData.canLay0, PyData.canLayAll0]
      rw [(h r (List.mem_cons_self ..)).1, (h r (List.mem_cons_self ..)).2]
      rfl
  have h2 : ∀ rs : List Row, PyData.depthAll (rs.map dueP) ≤ 1 := by
    intro rs
    induction rs with
    | nil => exact Nat.zero_le _
    | cons r rs ih => show max 1 (PyData.depthAll (rs.map dueP)) ≤ 1; omega
  unfold shaped
  rw [Bool.and_eq_true]
  refine ⟨h1 rs h, decide_eq_true ?_⟩
  show PyData.depthAll _ + 1 ≤ 64
  have := h2 rs
  omega
theorem WF.row_held {l : Ly} (W : WF l) {r : Row} (h : r ∈ rowsOf l) : ∃ sc, l.scripts.lookup r.1 = some sc ∧ ((r.2.1 = "dflt" ∧ sc.dflt = some r.2.2) ∨ (r.2.1 ≠ "dflt" ∧ sc.langs.lookup r.2.1 = some r.2.2 ∧ PyData.strOk r.2.1 = true)) := by
  unfold rowsOf at h
  obtain ⟨t, _, h⟩ := List.mem_flatMap.mp h
  have ht := rowsT_tag h
  unfold rowsT at h
  cases hs : l.scripts.lookup t with
  | none => rw [hs] at h; cases h
  | some sc =>
    rw [hs] at h
    have hm := lookup_mem hs
    refine ⟨sc, by rw [ht]; exact hs, ?_⟩
    rcases List.mem_append.mp h with h | h
    · cases hd : sc.dflt with
      | none => rw [hd] at h; cases h
      | some d => rw [hd] at h; rw [List.mem_singleton.mp h]; exact .inl ⟨rfl, rfl⟩
    · obtain ⟨g, _, h⟩ := List.mem_flatMap.mp h
      unfold lRow at h
      cases hg : sc.langs.lookup g with
      | none => rw [hg] at h; cases h
      | some s =>
        rw [hg] at h
        rw [List.mem_singleton.mp h]
        have := W.lo _ hm _ (lookup_mem hg)
        exact .inr ⟨this.2.1, hg, this.1⟩
theorem WF.rowsStr {l : Ly} (W : WF l) : RowsStr (rowsOf l) := fun r hr => by
  obtain ⟨sc, h1, h2⟩ := W.row_held hr
  refine ⟨W.ss _ (lookup_mem h1), ?_⟩
  rcases h2 with ⟨h, _⟩ | ⟨_, _, h⟩
  · rw [h]; decide +kernel
  · exact h
theorem avS_at {a : Ad} {l : Ly} {t : Str} {sc : Sc} (h : l.scripts.lookup t = some sc) : (l.scripts.map fun p => (p.1, avS a p.2)).lookup t = some (avS a sc) := by rw [lookup_map', h]; rfl

section
variable {C : Cx} {n : Nat} {mu : Mu} {env : Env} {Q : AV → Mu → Prop}
theorem E_J {e : Expr} (J : AV → Mu → Prop) (h : WE C n mu env e J) (k : ∀ α mu', J α mu' → Q α mu') : WE C n mu env e Q := WT.mono h k
set_option maxHeartbeats 16000000 in
theorem ct_rows_hold {a : Ad} (P : Pr C a) {l : Ly} (W : WF l) (h : Q (.bool true) mu) : CL C (n + 5) [avY a l] mu (.ref a.f23) Q := by
  (have K := P.K; obtain ⟨l1, l2, s1, s2, s3, f1, f2, y1, y2, y3⟩ := P.A; obtain ⟨len, sorted, abs, int, range, list, tuple, set, dict⟩ := P.B; have g2 := P.g2; have F2 := P.F2; have g3 := P.g3; have F3 := P.F3; have g4 := P.g4; have F4 := P.F4; have g5 := P.g5; have F5 := P.F5; have g6 := P.g6; have F6 := P.F6; have g7 := P.g7; have F7 := P.F7; have g8 := P.g8; have F8 := P.F8; have g9 := P.g9; have F9 := P.F9; have g16 := P.g16; have F16 := P.F16; have g17 := P.g17; have F17 := P.F17; have g18 := P.g18; have F18 := P.F18; have g19 := P.g19; have F19 := P.F19; have g20 := P.g20; have F20 := P.F20; have g21 := P.g21; have F21 := P.F21; have g22 := P.g22; have F22 := P.F22; have g23 := P.g23; have F23 := P.F23; have gcL := P.gcL; have kcL := P.kcL; have FiL := P.FiL; have gcS := P.gcS; have kcS := P.kcS; have FiS := P.FiS; have gcF := P.gcF; have kcF := P.kcF; have FiF := P.FiF; have gcY := P.gcY; have kcY := P.kcY; have FiY := P.FiY; have info := P.info; have Ftl := P.Ft; have mt := P.mt)
  refine call_fnC K F23 (dα := []) (m0 := [("layout", avY a l)]) (ce := fun L => [(L + 1, .cell none)]) (fun _ => .nil) rfl rfl rfl rfl (fun _ => by kernel_rfl!) (fun _ => by kernel_rfl!) (by kernel_rfl!) (fun _ => by kernel_rfl!) fun L q cd => ?_
  rw [List.cons_append, List.nil_append]
  (refine S_cons (X_assign rfl ?_))
  (repeat kt_ktab)
  refine (ct_all_langsys P W ?_).call
  (first
  | ((with_reducible apply st_loc0); rfl; rfl; kernel_rfl!)
  | ((with_reducible apply st_cell' (i := 1)); rfl; kernel_rfl!; rfl; kernel_rfl!)
  | ((with_reducible apply st_cell' (i := 2)); rfl; kernel_rfl!; rfl; kernel_rfl!)
  | ((with_reducible apply st_cell' (i := 3)); rfl; kernel_rfl!; rfl; kernel_rfl!))
  (refine S_cons (X_assign rfl ?_))
  refine E_list ?_
  (repeat kt_ktab)
  (first
  | ((with_reducible apply st_loc0); rfl; rfl; kernel_rfl!)
  | ((with_reducible apply st_cell' (i := 1)); rfl; kernel_rfl!; rfl; kernel_rfl!)
  | ((with_reducible apply st_cell' (i := 2)); rfl; kernel_rfl!; rfl; kernel_rfl!)
  | ((with_reducible apply st_cell' (i := 3)); rfl; kernel_rfl!; rfl; kernel_rfl!))
  refine S_cons (X_for (fun i mu' => ∃ m' c, mu' = (L, .ns m') :: (L + 1, .cell c) :: mu ∧ Has m' "layout" (avY a l) ∧ Has m' "rows" (.list (rowsA a (rowsOf l))) ∧ Has m' "due" (.list (duesA (((sortS (l.scripts.map (·.1))).take i).flatMap (rowsT l))))) (fun _ => rfl) ?_)
  (repeat kt_ktab)
  refine l_sorted_dict (by rw [List.length_map]; have := W.sl; omega) ?_
  rw [keys_map']
  refine ⟨_, iter_list, ⟨_, none, rfl, by (repeat (first | (with_reducible exact lk_here) | (with_reducible assumption) | (apply lk_next; decide +kernel))), by (repeat (first | (with_reducible exact lk_here) | (with_reducible assumption) | (apply lk_next; decide +kernel))), by rw [List.take_zero]; exact lk_here⟩, ?_, ?_⟩
  · rintro i x mu' hx ⟨m', c, rfl, m1, m2, m3⟩
    obtain ⟨t, ht, rfl⟩ := strsA_at hx
    obtain ⟨sc, hsc⟩ := mem_lookup ((sortS_perm _).mem_iff.mp (List.mem_of_getElem? ht))
    have hmem := lookup_mem hsc
    have hstep : ((sortS (l.scripts.map (·.1))).take (i + 1)).flatMap (rowsT l) = ((sortS (l.scripts.map (·.1))).take i).flatMap (rowsT l) ++ rowsS t sc := by
      rw [flatMap_take_succ _ ht]; unfold rowsT; rw [hsc]
    have hlen := W.rows_take i
    have hll := W.ll _ hmem
    have hat := avS_at (a := a) hsc
    dsimp only at hll
    generalize ((sortS (l.scripts.map (·.1))).take i).flatMap (rowsT l) = R at hstep hlen m3 ⊢
    obtain ⟨tg, df, lg⟩ := sc
    dsimp only at hll
    refine as_name ?_
    (first
  | ((with_reducible apply st_loc0); rfl; rfl; kernel_rfl!)
  | ((with_reducible apply st_cell' (i := 1)); rfl; kernel_rfl!; rfl; kernel_rfl!)
  | ((with_reducible apply st_cell' (i := 2)); rfl; kernel_rfl!; rfl; kernel_rfl!)
  | ((with_reducible apply st_cell' (i := 3)); rfl; kernel_rfl!; rfl; kernel_rfl!))
    (simp only [List.set_cons_zero, List.set_cons_succ])
    (refine S_cons (X_assign rfl ?_))
    kt_ktab
    kt_ktab
    kt_ktab
    refine E_J (fun α mu' => α = .list (duesA (dRow t df)) ∧ mu' = (L, .ns m') :: (L + 1, .cell (some (.str t))) :: mu) ?_ ?_
    · kt_ktab
      refine E_list ?_
      (repeat kt_ktab)
      refine s_dict hat (fun _ _ => rfl) ?_
      cases df with
      | none =>
        (repeat kt_ktab)
        refine b_mul_bool (by simp) ?_
        exact ⟨rfl, rfl⟩
      | some d =>
        (repeat kt_ktab)
        refine b_mul_bool (by simp) ?_
        exact ⟨rfl, rfl⟩
    rintro α mu' ⟨rfl, rfl⟩
    have hd1 := dRow_len t df
    refine b_add_list (by rw [duesA_len, duesA_len]; omega) ?_
    rw [← duesA_append]
    refine E_compF (cl := [("tag", L + 1)]) (fun j ys mu' => mu' = (L, .ns m') :: (L + 1, .cell (some (.str t))) :: mu ∧ ys = duesA (((sortS (lg.map (·.1))).take j).flatMap (lRow t lg))) (fun _ => rfl) (by kernel_rfl!) (by decide +kernel) rfl (by decide +kernel) ?_ ?_
    · rintro j ys mu' ⟨_, rfl⟩
      rw [duesA_len]
      have hb := flatMap_len (l := (sortS (lg.map (·.1))).take j) (f := lRow t lg) fun g _ => lRow_len t lg g
      have := List.length_take_le j (sortS (lg.map (·.1)))
      omega
    (repeat kt_ktab)
    refine s_dict hat (fun _ _ => rfl) ?_
    (repeat kt_ktab)
    refine l_sorted_dict (by rw [List.length_map]; show lg.length < 64; omega) ?_
    rw [keys_map']
    refine ⟨strsA (sortS (lg.map (·.1))), iter_list, by rw [strsA_len, (sortS_perm _).length_eq, List.length_map]; omega, ⟨rfl, by rw [List.take_zero]; rfl⟩, ?_, ?_⟩
    · rintro D mc j x ys mu' hx ⟨rfl, rfl⟩
      obtain ⟨g, hg, rfl⟩ := strsA_at hx
      obtain ⟨s, hs⟩ := mem_lookup ((sortS_perm _).mem_iff.mp (List.mem_of_getElem? hg))
      have hst : ((sortS (lg.map (·.1))).take (j + 1)).flatMap (lRow t lg) = ((sortS (lg.map (·.1))).take j).flatMap (lRow t lg) ++ [(t, g, s)] := by
        rw [flatMap_take_succ _ hg]; unfold lRow; rw [hs]
      refine as_name ?_
      (first
  | ((with_reducible apply st_loc0); rfl; rfl; kernel_rfl!)
  | ((with_reducible apply st_cell' (i := 1)); rfl; kernel_rfl!; rfl; kernel_rfl!)
  | ((with_reducible apply st_cell' (i := 2)); rfl; kernel_rfl!; rfl; kernel_rfl!)
  | ((with_reducible apply st_cell' (i := 3)); rfl; kernel_rfl!; rfl; kernel_rfl!))
      refine tests_nil ?_
      refine ift ?_
      (repeat kt_ktab)
      exact ⟨_, _, rfl, rfl, by rw [hst, duesA_append]; rfl⟩
    · rintro ys mu' ⟨rfl, rfl⟩
      rw [strsA_len, List.take_length]
      have hb := flatMap_len (l := sortS (lg.map (·.1))) (f := lRow t lg) fun g _ => lRow_len t lg g
      rw [(sortS_perm _).length_eq, List.length_map] at hb
      refine b_add_list (by rw [duesA_len, duesA_len, List.length_append]; omega) ?_
      rw [← duesA_append]
      (first
  | ((with_reducible apply st_loc0); rfl; rfl; kernel_rfl!)
  | ((with_reducible apply st_cell' (i := 1)); rfl; kernel_rfl!; rfl; kernel_rfl!)
  | ((with_reducible apply st_cell' (i := 2)); rfl; kernel_rfl!; rfl; kernel_rfl!)
  | ((with_reducible apply st_cell' (i := 3)); rfl; kernel_rfl!; rfl; kernel_rfl!))
      refine L_end ⟨_, _, rfl, by (repeat (first | (with_reducible exact lk_here) | (with_reducible assumption) | (apply lk_next; decide +kernel))), by (repeat (first | (with_reducible exact lk_here) | (with_reducible assumption) | (apply lk_next; decide +kernel))), ?_⟩
      rw [hstep]
      unfold rowsS
      rw [← List.append_assoc]
      exact lk_here
  · rintro mu' ⟨m', c, rfl, m1, m2, m3⟩
    rw [strsA_len, List.take_length] at m3
    have hro : ((sortS (l.scripts.map (·.1))).flatMap (rowsT l)) = rowsOf l := rfl
    rw [hro] at m3
    have hrl := W.rows_len
    (refine S_cons (X_if ?_))
    kt_ktab
    refine E_compF (cl := []) (fun j ys mu' => mu' = (L, .ns m') :: (L + 1, .cell c) :: mu ∧ ys = duesA ((rowsOf l).take j)) (fun _ => rfl) (by kernel_rfl!) (by decide +kernel) rfl (by decide +kernel) ?_ ?_
    · rintro j ys mu' ⟨_, rfl⟩
      rw [duesA_len]
      exact List.length_take_le ..
    (repeat kt_ktab)
    refine ⟨rowsA a (rowsOf l), iter_list, by rw [rowsA_len]; omega, ⟨rfl, by rw [List.take_zero]; rfl⟩, ?_, ?_⟩
    · rintro D mc j x ys mu' hx ⟨rfl, rfl⟩
      obtain ⟨r, hr, rfl⟩ := rowsA_at hx
      refine as3 ?_
      (first
  | ((with_reducible apply st_loc0); rfl; rfl; kernel_rfl!)
  | ((with_reducible apply st_cell' (i := 1)); rfl; kernel_rfl!; rfl; kernel_rfl!)
  | ((with_reducible apply st_cell' (i := 2)); rfl; kernel_rfl!; rfl; kernel_rfl!)
  | ((with_reducible apply st_cell' (i := 3)); rfl; kernel_rfl!; rfl; kernel_rfl!))
      (first
  | ((with_reducible apply st_loc0); rfl; rfl; kernel_rfl!)
  | ((with_reducible apply st_cell' (i := 1)); rfl; kernel_rfl!; rfl; kernel_rfl!)
  | ((with_reducible apply st_cell' (i := 2)); rfl; kernel_rfl!; rfl; kernel_rfl!)
  | ((with_reducible apply st_cell' (i := 3)); rfl; kernel_rfl!; rfl; kernel_rfl!))
      (first
  | ((with_reducible apply st_loc0); rfl; rfl; kernel_rfl!)
  | ((with_reducible apply st_cell' (i := 1)); rfl; kernel_rfl!; rfl; kernel_rfl!)
  | ((with_reducible apply st_cell' (i := 2)); rfl; kernel_rfl!; rfl; kernel_rfl!)
  | ((with_reducible apply st_cell' (i := 3)); rfl; kernel_rfl!; rfl; kernel_rfl!))
      refine tests_nil ?_
      refine ift ?_
      (repeat kt_ktab)
      exact ⟨_, _, rfl, rfl, by rw [take_succ' hr, duesA_append]; rfl⟩
    rintro ys mu' ⟨rfl, rfl⟩
    rw [rowsA_len, List.take_length]
    (repeat kt_ktab)
    have hsh := shaped_dues W.rowsStr
    refine c_ne_pd (duesA_pd _) (duesA_pd _) hsh hsh ?_
    rw [eqv_refl _ (canLay_of_shaped hsh)]
    (repeat kt_ktab)
    refine S_nil ?_
    refine S_cons (X_for (fun i mu' => ∃ m' c, mu' = (L, .ns m') :: (L + 1, .cell c) :: mu ∧ Has m' "layout" (avY a l) ∧ Has m' "rows" (.list (rowsA a (rowsOf l)))) (fun _ => rfl) ?_)
    (repeat kt_ktab)
    refine ⟨rowsA a (rowsOf l), iter_list, ⟨_, c, rfl, by (repeat (first | (with_reducible exact lk_here) | (with_reducible assumption) | (apply lk_next; decide +kernel))), by (repeat (first | (with_reducible exact lk_here) | (with_reducible assumption) | (apply lk_next; decide +kernel)))⟩, ?_, ?_⟩
    · rintro i x mu' hx ⟨m', c, rfl, m1, m2⟩
      obtain ⟨r, hr, rfl⟩ := rowsA_at hx
      have hrm := List.mem_of_getElem? hr
      obtain ⟨sc, hsc, hheld⟩ := W.row_held hrm
      have hff := W.row_feats hrm
      obtain ⟨t, g, s⟩ := r
      dsimp only at hsc hheld hff
      have hat := avS_at (a := a) hsc
      refine as3 ?_
      (first
  | ((with_reducible apply st_loc0); rfl; rfl; kernel_rfl!)
  | ((with_reducible apply st_cell' (i := 1)); rfl; kernel_rfl!; rfl; kernel_rfl!)
  | ((with_reducible apply st_cell' (i := 2)); rfl; kernel_rfl!; rfl; kernel_rfl!)
  | ((with_reducible apply st_cell' (i := 3)); rfl; kernel_rfl!; rfl; kernel_rfl!))
      (simp only [List.set_cons_zero, List.set_cons_succ])
      (first
  | ((with_reducible apply st_loc0); rfl; rfl; kernel_rfl!)
  | ((with_reducible apply st_cell' (i := 1)); rfl; kernel_rfl!; rfl; kernel_rfl!)
  | ((with_reducible apply st_cell' (i := 2)); rfl; kernel_rfl!; rfl; kernel_rfl!)
  | ((with_reducible apply st_cell' (i := 3)); rfl; kernel_rfl!; rfl; kernel_rfl!))
      (first
  | ((with_reducible apply st_loc0); rfl; rfl; kernel_rfl!)
  | ((with_reducible apply st_cell' (i := 1)); rfl; kernel_rfl!; rfl; kernel_rfl!)
  | ((with_reducible apply st_cell' (i := 2)); rfl; kernel_rfl!; rfl; kernel_rfl!)
  | ((with_reducible apply st_cell' (i := 3)); rfl; kernel_rfl!; rfl; kernel_rfl!))
      (refine S_cons (X_assign rfl ?_))
      refine E_ifJ (fun α mu' => α = avL a s ∧ mu' = (L, .ns (("langsys", avL a s) :: ("language", .str g) :: m')) :: (L + 1, .cell (some (.str t))) :: mu) ?_ ?_
      · (repeat kt_ktab)
        refine k_eqs (fun he => ?_) (fun he => ?_)
        · (repeat kt_ktab)
          refine s_dict hat (fun _ _ => rfl) ?_
          obtain ⟨tg, df, lg⟩ := sc
          have hdf : df = some s := by
            rcases hheld with ⟨_, h2⟩ | ⟨h1, _⟩
            · exact h2
            · exact absurd he h1
          subst hdf
          (repeat kt_ktab)
          exact ⟨rfl, rfl⟩
        · (repeat kt_ktab)
          refine s_dict hat (fun _ _ => rfl) ?_
          have hlk : sc.langs.lookup g = some s := by
            rcases hheld with ⟨h1, _⟩ | ⟨_, h2, _⟩
            · exact absurd h1 he
            · exact h2
          (repeat kt_ktab)
          refine s_dict (x := avL a s) (by rw [lookup_map', hlk]; rfl) (fun _ _ => rfl) ?_
          exact ⟨rfl, rfl⟩
      · rintro α mu' ⟨rfl, rfl⟩
        (first
  | ((with_reducible apply st_loc0); rfl; rfl; kernel_rfl!)
  | ((with_reducible apply st_cell' (i := 1)); rfl; kernel_rfl!; rfl; kernel_rfl!)
  | ((with_reducible apply st_cell' (i := 2)); rfl; kernel_rfl!; rfl; kernel_rfl!)
  | ((with_reducible apply st_cell' (i := 3)); rfl; kernel_rfl!; rfl; kernel_rfl!))
        (refine S_cons (X_if ?_))
        kt_ktab
        refine E_meth0 mt Ftl.keep rfl rfl ?_
        (repeat kt_ktab)
        refine ⟨_, rfl, by kernel_rfl!, ?_⟩
        refine (ct_told P (by omega) ?_).call
        refine E_meth0 mt Ftl.keep rfl rfl ?_
        (repeat kt_ktab)
        refine ⟨_, rfl, by kernel_rfl!, ?_⟩
        refine (ct_told P (by omega) ?_).call
        refine c_ne_pd (told_pd s) (told_pd s) (shaped_told s) (shaped_told s) ?_
        rw [eqv_refl _ (canLay_of_shaped (shaped_told s))]
        (repeat kt_ktab)
        refine S_nil ?_
        exact L_end ⟨_, _, rfl, by (repeat (first | (with_reducible exact lk_here) | (with_reducible assumption) | (apply lk_next; decide +kernel))), by (repeat (first | (with_reducible exact lk_here) | (with_reducible assumption) | (apply lk_next; decide +kernel)))⟩
    · rintro mu' ⟨m', c, rfl, m1, m2⟩
      (refine S_cons (X_ret ?_))
      (repeat kt_ktab)
      refine (ct_asked_lookups P W ?_).call
      (repeat kt_ktab)
      refine (ct_gathered P W W.rowsOk ?_).call
      rw [← law_one W]
      refine c_eq_pd (natsA_pd _) (natsA_pd _) (shaped_nats _) (shaped_nats _) ?_
      rw [eqv_refl _ (canLay_of_shaped (shaped_nats _))]
      exact ⟨[(L, _), (L + 1, _)], mu, .refl _, h⟩
end
end Mine
end
section
open PySem PySem.W PyProof.Rows PySem.SeqAt PySem.Spec
set_option maxHeartbeats 4000000
namespace Mine

theorem lookup_at {α : Type} {l : List (Str × α)} (hn : (l.map (·.1)).Nodup) {j : Nat} {p : Str × α} (h : l[j]? = some p) : l.lookup p.1 = some p.2 := by
  induction l generalizing j with
  | nil => simp at h
  | cons q r ih =>
    rw [List.map_cons, List.nodup_cons] at hn
    obtain ⟨y, v⟩ := q
    rw [List.lookup_cons]
    cases j with
    | zero =>
      simp at h
      subst h
      rw [beq_self_eq_true]
    | succ j =>
      simp at h
      have hne : p.1 ≠ y := fun e => hn.1 (List.mem_map.mpr ⟨p, List.mem_of_getElem? h, e⟩)
      rw [beq_eq_false_iff_ne.mpr hne]
      exact ih hn.2 h
theorem filter_take {α : Type} {l : List α} {f : α → Bool} {j : Nat} {x : α} (h : l[j]? = some x) : (l.take (j + 1)).filter f = (l.take j).filter f ++ (if f x then [x] else []) := by
  rw [take_succ' h, List.filter_append]; congr 1
  rw [List.filter_cons]; rfl
theorem WF.nil {l : Ly} (W : WF l) : WF ⟨[], l.features, l.nl⟩ := ⟨.nil, Nat.zero_le _, (fun _ h => by cases h), (fun _ h => by cases h), (fun _ h => by cases h), (fun _ h => by cases h), (fun _ h => by cases h), W.fl, W.ft, W.nl⟩
theorem RowsOk.filter {rs : List Row} (R : RowsOk rs) (f : Row → Bool) : RowsOk (rs.filter f) := ⟨Nat.le_trans (List.length_filter_le ..) R.len, fun r h => R.ok r (List.mem_filter.mp h).1⟩

section
variable {C : Cx} {n : Nat} {mu : Mu} {env : Env} {Q : AV → Mu → Prop}
theorem E_dict0F (K : C.Ok) {pos : Pos} (h : Q (.dict []) mu) : WE C n mu env (.Dict [] [] pos) Q := fun A g s hA hH _ S => by
  have hs := K.sysm s.heap fun b o e => S.sub b o (hH b o e)
  exact wpAny_Dict_empty ⟨_, mu, _, .dict (FH.add_self ..) (kvv := []) ⟨⟨rfl, rfl, rfl⟩, #[], 0, rfl, fun e he => by simp at he, .nil, List.nodup_nil⟩ (beq_eq_false_iff_ne.mpr (Nat.ne_of_gt hs)) .nil,
    Ends.fz (t := s.toks) S (fun b o e => Heap.get?_push_of_some _ e) fresh_size (Heap.get?_push_size _ rfl), h⟩
theorem pen_back {αs : List AV} {f : Value} (h : CL C n αs mu f fun α mu' => ∃ Pn T p, p.length ≤ 40 ∧ α = .val (.ref Pn) ∧ mu' = (Pn, penM T ⟨p, 0, 0⟩) :: (T, .list (intsA p)) :: mu)
    (k : ∀ Pn T p, p.length ≤ 40 → Q (.val (.ref Pn)) (mu ++ [(Pn, penM T ⟨p, 0, 0⟩), (T, .list (intsA p))])) : WL C n αs mu (fun vs => call f vs) Q := fun vs =>
  WT.post (h.call vs) fun α mu' ⟨Pn, T, p, hp, e1, e2⟩ => ⟨[], mu ++ [(Pn, penM T ⟨p, 0, 0⟩), (T, .list (intsA p))], by rw [e2]; exact List.perm_append_comm (l₁ := [(Pn, penM T ⟨p, 0, 0⟩), (T, MO.list (intsA p))]), by rw [e1]; exact k Pn T p hp⟩

set_option maxHeartbeats 16000000 in
theorem ct_law {a : Ad} (P : Pr C a) {fa : Addr} (F24 : FnAt C fa ["script"] (fB 24) (fS 24) []) {ns : List Int} (hz : ns.length ≤ 63) (h : Q (.bool true) []) : CL C (n + 6) [.llist (intsA ns)] [] (.ref fa) Q := by
  (have K := P.K; obtain ⟨l1, l2, s1, s2, s3, f1, f2, y1, y2, y3⟩ := P.A; obtain ⟨len, sorted, abs, int, range, list, tuple, set, dict⟩ := P.B; have g2 := P.g2; have F2 := P.F2; have g3 := P.g3; have F3 := P.F3; have g4 := P.g4; have F4 := P.F4; have g5 := P.g5; have F5 := P.F5; have g6 := P.g6; have F6 := P.F6; have g7 := P.g7; have F7 := P.F7; have g8 := P.g8; have F8 := P.F8; have g9 := P.g9; have F9 := P.F9; have g16 := P.g16; have F16 := P.F16; have g17 := P.g17; have F17 := P.F17; have g18 := P.g18; have F18 := P.F18; have g19 := P.g19; have F19 := P.F19; have g20 := P.g20; have F20 := P.F20; have g21 := P.g21; have F21 := P.F21; have g22 := P.g22; have F22 := P.F22; have g23 := P.g23; have F23 := P.F23; have gcL := P.gcL; have kcL := P.kcL; have FiL := P.FiL; have gcS := P.gcS; have kcS := P.kcS; have FiS := P.FiS; have gcF := P.gcF; have kcF := P.kcF; have FiF := P.FiF; have gcY := P.gcY; have kcY := P.kcY; have FiY := P.FiY; have info := P.info; have Ftl := P.Ft; have mt := P.mt)
  refine call_fnC K F24 (dα := []) (m0 := [("script", .llist (intsA ns))]) (ce := fun L => [(L + 3, .cell none), (L + 2, .cell none), (L + 1, .cell none)]) (fun _ => .nil) rfl rfl rfl rfl (fun _ => by kernel_rfl!) (fun _ => by kernel_rfl!) (by kernel_rfl!) (fun _ => by kernel_rfl!) fun L q cd => ?_
  rw [List.append_nil]
  (refine S_cons (X_assign rfl ?_))
  (repeat kt_ktab)
  refine pen_back (ct_pen P (by omega) fun Pn T p hp => ⟨Pn, T, p, hp, rfl, rfl⟩) fun Pn T p hp => ?_
  rw [List.cons_append, List.cons_append, List.cons_append, List.cons_append, List.nil_append]
  have hpen : PenAt [(Pn, penM T ⟨p, 0, 0⟩), (T, MO.list (intsA p))] 0 Pn T ⟨p, 0, 0⟩ := ⟨rfl, rfl⟩
  (first
  | ((with_reducible apply st_loc0); rfl; rfl; kernel_rfl!)
  | ((with_reducible apply st_cell' (i := 1)); rfl; kernel_rfl!; rfl; kernel_rfl!)
  | ((with_reducible apply st_cell' (i := 2)); rfl; kernel_rfl!; rfl; kernel_rfl!)
  | ((with_reducible apply st_cell' (i := 3)); rfl; kernel_rfl!; rfl; kernel_rfl!))
  (refine S_cons (X_assign rfl ?_))
  (repeat kt_ktab)
  refine (ct_layout P hpen.cons.cons.cons.cons hp fun l s' hs' W => ?_).call
  rw [setPen_cons, setPen_cons, setPen_cons, setPen_cons]
  generalize setPen [(Pn, penM T ⟨p, 0, 0⟩), (T, MO.list (intsA p))] 0 Pn T s' = rest
  (first
  | ((with_reducible apply st_loc0); rfl; rfl; kernel_rfl!)
  | ((with_reducible apply st_cell' (i := 1)); rfl; kernel_rfl!; rfl; kernel_rfl!)
  | ((with_reducible apply st_cell' (i := 2)); rfl; kernel_rfl!; rfl; kernel_rfl!)
  | ((with_reducible apply st_cell' (i := 3)); rfl; kernel_rfl!; rfl; kernel_rfl!))
  (simp only [List.set_cons_zero, List.set_cons_succ])
  (refine S_cons (X_if ?_))
  (repeat kt_ktab)
  refine (ct_rows_hold P W ?_).call
  refine t_bool ?_
  refine iff' ?_
  refine S_nil ?_
  refine S_cons (X_for (fun i mu' => ∃ m' c3 c2, mu' = (L, .ns m') :: (L + 3, .cell c3) :: (L + 2, .cell c2) :: (L + 1, .cell (some (avY a l))) :: rest) (fun _ => rfl) ?_)
  (repeat kt_ktab)
  refine l_sorted_dict (by rw [List.length_map]; have := W.sl; omega) ?_
  rw [keys_map']
  refine ⟨_, iter_list, ⟨_, _, _, rfl⟩, ?_, ?_⟩
  · rintro i x mu' hx ⟨m', c3, c2, rfl⟩
    obtain ⟨t, ht, rfl⟩ := strsA_at hx
    refine as_name ?_
    (first
  | ((with_reducible apply st_loc0); rfl; rfl; kernel_rfl!)
  | ((with_reducible apply st_cell' (i := 1)); rfl; kernel_rfl!; rfl; kernel_rfl!)
  | ((with_reducible apply st_cell' (i := 2)); rfl; kernel_rfl!; rfl; kernel_rfl!)
  | ((with_reducible apply st_cell' (i := 3)); rfl; kernel_rfl!; rfl; kernel_rfl!))
    (simp only [List.set_cons_zero, List.set_cons_succ])
    (refine S_cons (X_assign rfl ?_))
    kt_ktab
    kt_ktab
    kt_ktab
    kt_ktab
    refine E_compF (cl := [("tag", L + 2), ("layout", L + 1)]) (fun j ys mu' => mu' = (L, .ns m') :: (L + 3, .cell c3) :: (L + 2, .cell (some (.str t))) :: (L + 1, .cell (some (avY a l))) :: rest ∧ ys = pairsV (scsA a ((l.scripts.take j).filter fun p => decide (p.1 ≠ t)))) (fun _ => rfl) (by kernel_rfl!) (by decide +kernel) rfl (by decide +kernel) ?_ ?_
    · rintro j ys mu' ⟨_, rfl⟩
      simp only [pairsV, scsA, List.length_map]
      exact Nat.le_trans (List.length_filter_le ..) (List.length_take_le ..)
    (repeat kt_ktab)
    refine ⟨_, iter_dict, by simp; have := W.sl; omega, ⟨rfl, by rw [List.take_zero]; rfl⟩, ?_, ?_⟩
    · rintro D mc j x ys mu' hx ⟨rfl, rfl⟩
      obtain ⟨p, hp, rfl⟩ : ∃ p, l.scripts[j]? = some p ∧ x = .str p.1 := by
        rw [List.map_map, List.getElem?_map] at hx
        obtain ⟨p, h1, h2⟩ := Option.map_eq_some_iff.mp hx
        exact ⟨p, h1, h2.symm⟩
      have hlk := lookup_at W.sk hp
      have hft := filter_take (f := fun p : Str × Sc => decide (p.1 ≠ t)) hp
      refine as_name ?_
      (first
  | ((with_reducible apply st_loc0); rfl; rfl; kernel_rfl!)
  | ((with_reducible apply st_cell' (i := 1)); rfl; kernel_rfl!; rfl; kernel_rfl!)
  | ((with_reducible apply st_cell' (i := 2)); rfl; kernel_rfl!; rfl; kernel_rfl!)
  | ((with_reducible apply st_cell' (i := 3)); rfl; kernel_rfl!; rfl; kernel_rfl!))
      refine tests_one ?_
      (repeat kt_ktab)
      refine k_nes (fun he => ?_) (fun he => ?_)
      · (repeat kt_ktab)
        refine s_dict (avS_at hlk) (fun _ _ => rfl) ?_
        (repeat kt_ktab)
        rw [if_pos (decide_eq_true he)] at hft
        exact ⟨_, _, rfl, rfl, by rw [hft]; simp [pairsV, scsA]⟩
      · (repeat kt_ktab)
        rw [if_neg (by simpa using he)] at hft
        exact ⟨_, _, rfl, rfl, by rw [hft]; simp⟩
    rintro ys mu' ⟨rfl, rfl⟩
    have hxl : ((l.scripts.map fun p => ((p.1, avS a p.2) : Str × AV)).map fun p => AV.str p.1).length = l.scripts.length := by simp
    rw [hxl, List.take_length]
    have WL := W.less t
    have hls : (l.scripts.filter fun p => decide (p.1 ≠ t)) = (less l t).scripts := rfl
    rw [hls]
    (repeat kt_ktab)
    refine l_dict K (by unfold scsA; rw [keys_map']; exact WL.sk) (by unfold scsA; rw [List.length_map]; have := WL.sl; omega) ?_
    (first
  | ((with_reducible apply st_loc0); rfl; rfl; kernel_rfl!)
  | ((with_reducible apply st_cell' (i := 1)); rfl; kernel_rfl!; rfl; kernel_rfl!)
  | ((with_reducible apply st_cell' (i := 2)); rfl; kernel_rfl!; rfl; kernel_rfl!)
  | ((with_reducible apply st_cell' (i := 3)); rfl; kernel_rfl!; rfl; kernel_rfl!))
    (refine S_cons (X_assign rfl ?_))
    (repeat kt_ktab)
    refine mk_Layout P (sc := (less l t).scripts) ?_
    have hle : avY a ⟨(less l t).scripts, l.features, l.nl⟩ = avY a (less l t) := rfl
    rw [hle]
    (first
  | ((with_reducible apply st_loc0); rfl; rfl; kernel_rfl!)
  | ((with_reducible apply st_cell' (i := 1)); rfl; kernel_rfl!; rfl; kernel_rfl!)
  | ((with_reducible apply st_cell' (i := 2)); rfl; kernel_rfl!; rfl; kernel_rfl!)
  | ((with_reducible apply st_cell' (i := 3)); rfl; kernel_rfl!; rfl; kernel_rfl!))
    (refine S_cons (X_if ?_))
    (repeat kt_ktab)
    refine (ct_rows_hold P WL ?_).call
    refine t_bool ?_
    refine iff' ?_
    refine S_nil ?_
    have RL := W.rowsOk
    have hrl := RL.len
    (refine S_cons (X_assign rfl ?_))
    refine E_compF (cl := [("tag", L + 2)]) (fun j ys mu' => mu' = (L, .ns (("less", avY a (less l t)) :: ("others", .dict (scsA a (less l t).scripts)) :: m')) :: (L + 3, .cell c3) :: (L + 2, .cell (some (.str t))) :: (L + 1, .cell (some (avY a l))) :: rest ∧ ys = rowsA a (((rowsOf l).take j).filter fun r => decide (r.1 ≠ t))) (fun _ => rfl) (by kernel_rfl!) (by decide +kernel) rfl (by decide +kernel) ?_ ?_
    · rintro j ys mu' ⟨_, rfl⟩
      rw [rowsA_len]
      exact Nat.le_trans (List.length_filter_le ..) (List.length_take_le ..)
    (repeat kt_ktab)
    refine (ct_all_langsys P W ?_).call
    refine ⟨rowsA a (rowsOf l), iter_list, by rw [rowsA_len]; omega, ⟨rfl, by rw [List.take_zero]; rfl⟩, ?_, ?_⟩
    · rintro D mc j x ys mu' hx ⟨rfl, rfl⟩
      obtain ⟨r, hr, rfl⟩ := rowsA_at hx
      have hft := filter_take (f := fun r : Row => decide (r.1 ≠ t)) hr
      refine as_name ?_
      (first
  | ((with_reducible apply st_loc0); rfl; rfl; kernel_rfl!)
  | ((with_reducible apply st_cell' (i := 1)); rfl; kernel_rfl!; rfl; kernel_rfl!)
  | ((with_reducible apply st_cell' (i := 2)); rfl; kernel_rfl!; rfl; kernel_rfl!)
  | ((with_reducible apply st_cell' (i := 3)); rfl; kernel_rfl!; rfl; kernel_rfl!))
      refine tests_one ?_
      (repeat kt_ktab)
      refine s_tup (k := 0) (x := .str r.1) (by simp) (by decide) rfl (fun _ _ => rfl) ?_
      (repeat kt_ktab)
      refine k_nes (fun he => ?_) (fun he => ?_)
      · (repeat kt_ktab)
        rw [if_pos (decide_eq_true he)] at hft
        exact ⟨_, _, rfl, rfl, by rw [hft, rowsA_snoc]⟩
      · (repeat kt_ktab)
        rw [if_neg (by simpa using he)] at hft
        exact ⟨_, _, rfl, rfl, by rw [hft]; simp⟩
    rintro ys mu' ⟨rfl, rfl⟩
    rw [rowsA_len, List.take_length]
    have RK := RL.filter fun r => decide (r.1 ≠ t)
    have h2 := law_two W t
    generalize hK : ((rowsOf l).filter fun r => decide (r.1 ≠ t)) = kept at RK h2
    (first
  | ((with_reducible apply st_loc0); rfl; rfl; kernel_rfl!)
  | ((with_reducible apply st_cell' (i := 1)); rfl; kernel_rfl!; rfl; kernel_rfl!)
  | ((with_reducible apply st_cell' (i := 2)); rfl; kernel_rfl!; rfl; kernel_rfl!)
  | ((with_reducible apply st_cell' (i := 3)); rfl; kernel_rfl!; rfl; kernel_rfl!))
    (simp only [List.set_cons_zero, List.set_cons_succ])
    (refine S_cons (X_if ?_))
    (repeat kt_ktab)
    refine (ct_asked_lookups P WL ?_).call
    refine E_compF (cl := [("layout", L + 1), ("kept", L + 3)]) (fun j ys mu' => mu' = (L, .ns (("less", avY a (less l t)) :: ("others", .dict (scsA a (less l t).scripts)) :: m')) :: (L + 3, .cell (some (.list (rowsA a kept)))) :: (L + 2, .cell (some (.str t))) :: (L + 1, .cell (some (avY a l))) :: rest ∧ ys = natsA (((asked l).take j).filter fun x => decide (x ∈ gathered l kept))) (fun _ => rfl) (by kernel_rfl!) (by decide +kernel) rfl (by decide +kernel) ?_ ?_
    · rintro j ys mu' ⟨_, rfl⟩
      rw [natsA_len]
      exact Nat.le_trans (List.length_filter_le ..) (List.length_take_le ..)
    (repeat kt_ktab)
    refine (ct_asked_lookups P W ?_).call
    have hal := subs6_len _ (setOf_subs (asked0_small W))
    refine ⟨natsA (asked l), iter_list, by rw [natsA_len]; unfold asked; omega, ⟨rfl, by rw [List.take_zero]; rfl⟩, ?_, ?_⟩
    · rintro D mc j x ys mu' hx ⟨rfl, rfl⟩
      obtain ⟨k, hk, rfl⟩ := natsA_at hx
      have hft := filter_take (f := fun x : Nat => decide (x ∈ gathered l kept)) hk
      refine as_name ?_
      (first
  | ((with_reducible apply st_loc0); rfl; rfl; kernel_rfl!)
  | ((with_reducible apply st_cell' (i := 1)); rfl; kernel_rfl!; rfl; kernel_rfl!)
  | ((with_reducible apply st_cell' (i := 2)); rfl; kernel_rfl!; rfl; kernel_rfl!)
  | ((with_reducible apply st_cell' (i := 3)); rfl; kernel_rfl!; rfl; kernel_rfl!))
      refine tests_one ?_
      (repeat kt_ktab)
      refine (ct_gathered P W RK ?_).call
      refine k_in_nats (fun he => ?_) (fun he => ?_)
      · (repeat kt_ktab)
        rw [if_pos (decide_eq_true he)] at hft
        exact ⟨_, _, rfl, rfl, by rw [hft, natsA_snoc]⟩
      · (repeat kt_ktab)
        rw [if_neg (by simpa using he)] at hft
        exact ⟨_, _, rfl, rfl, by rw [hft]; simp⟩
    rintro ys mu' ⟨rfl, rfl⟩
    rw [natsA_len, List.take_length, ← h2]
    refine c_ne_pd (natsA_pd _) (natsA_pd _) (shaped_nats _) (shaped_nats _) ?_
    rw [eqv_refl _ (canLay_of_shaped (shaped_nats _))]
    refine t_bool ?_
    refine iff' ?_
    refine S_nil ?_
    exact L_end ⟨_, _, _, rfl⟩
  · rintro mu' ⟨m', c3, c2, rfl⟩
    (refine S_cons (X_ret ?_))
    kt_ktab
    kt_ktab
    kt_ktab
    kt_ktab
    kt_ktab
    kt_ktab
    kt_ktab
    kt_ktab
    kt_ktab
    refine E_dict0F K ?_
    (repeat kt_ktab)
    refine mk_Layout P (sc := []) ?_
    (repeat kt_ktab)
    refine (ct_asked_lookups P W.nil ?_).call
    rw [asked_nil]
    refine E_list ?_
    (repeat kt_ktab)
    refine c_eq_pd (d := .list []) (d' := .list []) rfl rfl rfl rfl ?_
    exact ⟨(L, .ns m') :: (L + 3, .cell c3) :: (L + 2, .cell c2) :: (L + 1, .cell (some (avY a l))) :: rest, [], by simp, h⟩
end
end Mine
end
section
open PySem PySem.W PyProof.Rows PySem.SeqAt PySem.Spec
namespace Mine
/-! from the fragment of the heap -/
def refAt (K : Frag) (nm : Str) : Addr := match nsIn K mainGlobals nm with
  | some (some (.ref a)) => a
  | _ => 0
def metAt (K : Frag) (c : Addr) (nm : Str) : Addr := match findIn K (.ref c) nm with
  | some (some (.ref a)) => a
  | _ => 0
def obAt (K : Frag) (a : Addr) : Obj := (K.lookup a).getD default
def fdAt (K : Frag) (a : Addr) : FuncData := match (obAt K a).data with
  | .func fd => fd
  | _ => default
def adOf (K : Frag) : Ad :=
  let cL := refAt K "LangSys"
  let cS := refAt K "Script"
  let cF := refAt K "Feature"
  let cY := refAt K "Layout"
  { cL, cS, cF, cY, iL := metAt K cL "__init__", iS := metAt K cS "__init__", iF := metAt K cF "__init__", iY := metAt K cY "__init__", told := metAt K cL "told",
    f2 := refAt K "feature_at", f3 := refAt K "required_feature", f4 := refAt K "feature_indexes", f5 := refAt K "offered_tags", f6 := refAt K "add_lookups", f7 := refAt K "gather", f8 := refAt K "all_langsys", f9 := refAt K "asked_lookups",
    f16 := refAt K "_law_pen", f17 := refAt K "_law_draw", f18 := refAt K "_law_pick", f19 := refAt K "_law_numbers", f20 := refAt K "_law_langsys", f21 := refAt K "_law_layout", f22 := refAt K "_law_gathered", f23 := refAt K "_law_rows_hold", f24 := refAt K "law" }

section
variable {C : Cx}
theorem fn_of {fa : Addr} {params : List Str} {body : List Stmt} {scope : Scope} {dv : List Value} {o : Obj} {fd : FuncData} (h1 : C.H fa = some o) (h2 : o.data = .func fd) (h3 : fd.body = .stmts body) (h4 : fd.scope = scope) (h5 : fd.globals = mainGlobals) (h6 : fd.closure = []) (h7 : fd.builtins = builtinsNs)
    (h8 : ∀ h, C.H.In h → h.CodeRec fd.code fd.qualname) (h9 : ∀ vs s, vs.length + dv.length = params.length → C.H.In s.heap → BindsTo s fd ⟨vs, []⟩ (params.zip (vs ++ dv))) : FnAt C fa params body scope dv :=
  ⟨⟨o, fd, h1, h2, h3, h4, h5, h6, h7, h8, h9⟩, fun h hIn => ⟨.frame, .inl rfl, (Looks.ld (part := none) (hIn _ _ h1)).andThen (by rw [h2]; exact .now)⟩⟩
theorem binds0 {fd : FuncData} {s : Shared} {vs : List Value} (h : bindArgs fd ⟨[], []⟩ = pure []) (hl : vs.length + ([] : List Value).length = ([] : List Str).length) : BindsTo s fd ⟨vs, []⟩ (([] : List Str).zip (vs ++ [])) := by
  match vs, hl with
  | [], _ => exact BindsTo.of_eq h
theorem binds1 {fd : FuncData} {s : Shared} {vs : List Value} {p : Str} (h : ∀ a, bindArgs fd ⟨[a], []⟩ = pure [(p, a)]) (hl : vs.length + ([] : List Value).length = [p].length) : BindsTo s fd ⟨vs, []⟩ ([p].zip (vs ++ [])) := by
  match vs, hl with
  | [a], _ => exact BindsTo.of_eq (h a)
theorem binds2 {fd : FuncData} {s : Shared} {vs : List Value} {p q : Str} (h : ∀ a b, bindArgs fd ⟨[a, b], []⟩ = pure [(p, a), (q, b)]) (hl : vs.length + ([] : List Value).length = [p, q].length) : BindsTo s fd ⟨vs, []⟩ ([p, q].zip (vs ++ [])) := by
  match vs, hl with
  | [a, b], _ => exact BindsTo.of_eq (h a b)
theorem binds3 {fd : FuncData} {s : Shared} {vs : List Value} {p q r : Str} (h : ∀ a b c, bindArgs fd ⟨[a, b, c], []⟩ = pure [(p, a), (q, b), (r, c)]) (hl : vs.length + ([] : List Value).length = [p, q, r].length) : BindsTo s fd ⟨vs, []⟩ ([p, q, r].zip (vs ++ [])) := by
  match vs, hl with
  | [a, b, c], _ => exact BindsTo.of_eq (h a b c)
theorem binds4 {fd : FuncData} {s : Shared} {vs : List Value} {p q r t : Str} (h : ∀ a b c d, bindArgs fd ⟨[a, b, c, d], []⟩ = pure [(p, a), (q, b), (r, c), (t, d)]) (hl : vs.length + ([] : List Value).length = [p, q, r, t].length) : BindsTo s fd ⟨vs, []⟩ ([p, q, r, t].zip (vs ++ [])) := by
  match vs, hl with
  | [a, b, c, d], _ => exact BindsTo.of_eq (h a b c d)
theorem fn_of_K {K : Frag} {fa : Addr} {params : List Str} {body : List Stmt} {scope : Scope} {dv : List Value} (hH : ∀ h, C.H.In h → K.In h) (hK : ∀ b o, K.lookup b = some o → C.H b = some o) (h1 : K.lookup fa = some (obAt K fa)) (h2 : (obAt K fa).data = .func (fdAt K fa)) (h3 : (fdAt K fa).body = .stmts body) (h4 : (fdAt K fa).scope = scope)
    (h5 : (fdAt K fa).globals = mainGlobals) (h6 : (fdAt K fa).closure = []) (h7 : (fdAt K fa).builtins = builtinsNs) (h8 : codeIn K (fdAt K fa).code (fdAt K fa).qualname = true)
    (h9 : ∀ vs s, vs.length + dv.length = params.length → C.H.In s.heap → BindsTo s (fdAt K fa) ⟨vs, []⟩ (params.zip (vs ++ dv))) : FnAt C fa params body scope dv :=
  fn_of (hK _ _ h1) h2 h3 h4 h5 h6 h7 (fun h hIn => codeRec_of (hH h hIn) h8) h9
theorem call_cls {K : Frag} {f : Value} (hH : ∀ h, C.H.In h → K.In h) (hk : keepIn K f = true) : Callable C f := fun h hIn => keeps_K hk h (hH h hIn)
end
end Mine
end
section
open PySem PySem.W PyProof.Rows PySem.SeqAt PySem.Spec
set_option maxHeartbeats 8000000
namespace Mine
open PySem.W.Fast in
/-- the run of the top over the library's tree heap, by the library's quick forms of the step -/
noncomputable def topRunT (p : Program) (w : World) (n₀ : Nat) (ann : Option Value) : Nat → SharedT → Thread → Option SharedT
  | 0, _, _ => none
  | n + 1, s, t => match through t with
    | true => some s
    | false => match tw6613529449190102663 n₀ ann t with
      | false => none
      | true => match tw10156331382660048174 (tw11892475500146522536 tw14364793385576792824) p w s t with
        | some (s', t') => topRunT p w n₀ ann n s' t'
        | none => none
open PySem.W.Fast in
theorem topRun_of {p : Program} {w : World} {n₀ : Nat} {ann : Option Value} : ∀ {n : Nat} {s s' : SharedT} {t : Thread}, topRunT p w n₀ ann n s t = some s' → topRun treeTable p w n₀ ann n s.abs t = some s'.abs
  | 0, _, _, _, h => by cases h
  | n + 1, s, s', t, h => by
    unfold topRunT at h
    rw [← te6613529449190102663, ← te10156331382660048174, ← te11892475500146522536, ← te14364793385576792824] at h
    unfold topRun
    cases he : through t with
    | true => rw [he] at h; cases h; rfl
    | false =>
      rw [he] at h
      cases hk : stepOk n₀ ann t with
      | false => rw [hk] at h; cases h
      | true =>
        rw [hk] at h
        cases hs : stepT (denote treeTable) p w s t with
        | none => rw [hs] at h; cases h
        | some r => obtain ⟨s₂, t₂⟩ := r; rw [hs] at h; rw [stepT_spec hs]; exact topRun_of h
def leaf (o : Obj) : BT := .node o .nil .nil
noncomputable def tree0 (P : Params) : BT :=
  .node (boot_o_0 P) (.node (boot_o_1 P) (.node (boot_o_3 P) (leaf (boot_o_7 P)) .nil) (.node (boot_o_5 P) (leaf (boot_o_9 P)) .nil))
    (.node (boot_o_2 P) (.node (boot_o_4 P) (leaf (boot_o_8 P)) .nil) (.node (boot_o_6 P) (leaf (boot_o_10 P)) .nil))
noncomputable def life0 (P : Params) : Life := (boot_heap P).life
theorem s0_ok (P : Params) : absHeap (tree0 P) 11 (life0 P) = boot_heap P := by kernel_rfl

open PySem.W.Fast in
theorem left_of {p q : Program} {loose : List Str} {Xt : Shared → Bool} {α : Type} {Yf : Shared → α} {Ya : World → α} {N : Nat} {g0 : Bool} {H₀ : Params → Heap} {T₀ : Params → BT} {l₀ : Params → Life} {n₁ : Nat} {gs₀ : Array GenState} {d₀ : Drawn} {k₀ : Nat} {m₀ : Nat} {ann : Option Value} {M : Nat}
    (open_ : ∀ w : World, (fencedOpening treeTable p w N).map (fun s => (s.heap, s.gens, s.drawn, s.toks)) = some (H₀ w.params, gs₀, d₀, k₀))
    (size : ∀ w : World, ((H₀ w.params).isNs mainGlobals && gs₀.size == 0, (H₀ w.params).objs.size, (H₀ w.params).nsMap mainGlobals "__annotations__") = (true, m₀, ann))
    (hT : ∀ P, absHeap (T₀ P) n₁ (l₀ P) = H₀ P)
    (run : ∀ (w : World) (os : OsState), (topRunT p w m₀ ann M ⟨T₀ w.params, n₁, l₀ w.params, gs₀, d₀, k₀, os⟩ (topStub p)).map (fun s =>
      ((staticsOk (importedModules p.main.body) (H₀ w.params) s.abs.heap && namesBound p s.abs.heap && gensDone s.abs && laidKept (H₀ w.params) s.abs.heap), tw4187177175401517315 q loose (importedModules p.main.body) Xt g0 s.abs, Yf s.abs)) = some (true, openGood q loose, Ya w))
    (le : Nat.ble M N = true) : LeftO p q loose Xt Yf Ya N g0 := fun w => by
  obtain ⟨⟨h, gs, d, k, os⟩, e, e'⟩ := Option.map_eq_some_iff.mp (open_ w)
  obtain ⟨rfl, rfl, rfl, rfl⟩ : h = H₀ w.params ∧ gs = gs₀ ∧ d = d₀ ∧ k = k₀ := by simpa using e'
  obtain ⟨z1, z2, z3⟩ : _ ∧ _ ∧ _ := by simpa only [Prod.mk.injEq] using size w
  obtain ⟨s₁, r1, r2⟩ := Option.map_eq_some_iff.mp (run w os)
  rw [← te4187177175401517315] at r2
  obtain ⟨l1, l2, l3⟩ : _ ∧ _ ∧ _ := by simpa only [Prod.mk.injEq] using r2
  have r0 := topRun_of r1
  have e0 : (SharedT.abs ⟨T₀ w.params, n₁, l₀ w.params, gs, d, k, os⟩) = ⟨H₀ w.params, gs, d, k, os⟩ := by unfold SharedT.abs; rw [hT]
  rw [e0] at r0
  have r := topRun_mono (N - M) _ _ _ _ r0
  rw [show M + (N - M) = N by have := Nat.le_of_ble_eq_true le; omega] at r
  have t : topFrom treeTable p w N ⟨H₀ w.params, gs, d, k, os⟩ = some s₁.abs := by
    unfold topFrom
    dsimp only
    rw [z1, z2, z3, r]
    show (match staticsOk (importedModules p.main.body) (H₀ w.params) s₁.abs.heap && namesBound p s₁.abs.heap && gensDone s₁.abs && laidKept (H₀ w.params) s₁.abs.heap with | true => _ | false => _) = _
    rw [l1]
  unfold openEnds
  rw [e]
  show (topFrom treeTable p w N _).map _ = _
  rw [t]
  exact congrArg some (Prod.ext l2 l3)
def PW : Program := PySem.Challenge.pw_pb0165_01
def qv : Program := { PW with main := { PW.main with body := [stAt 24] } }
def loo : List Str := ["ALL_INFOS", "feature_at", "required_feature", "feature_indexes", "offered_tags", "add_lookups", "gather", "all_langsys", "asked_lookups", "LangSys", "Script", "Feature", "Layout", "_law_pen", "_law_draw", "_law_pick", "_law_numbers", "_law_langsys", "_law_layout", "_law_gathered", "_law_rows_hold"]
theorem open0 : ∀ w : World, (fencedOpening treeTable PySem.Challenge.pw_pb0165_01 w 4000).map (fun s => (s.heap, s.gens, s.drawn, s.toks)) = some (boot_heap w.params, Array.mk [], boot_drawn, boot_toks) :=
  boot_open (by kernel_rfl) (by decide) (fun s => by kernel_rfl)
theorem size0 : ∀ w : World, ((boot_heap w.params).isNs mainGlobals && (Array.mk [] : Array GenState).size == 0, (boot_heap w.params).objs.size, (boot_heap w.params).nsMap mainGlobals "__annotations__") = (true, 11, some (.ref 6)) := fun w => by kernel_rfl
end Mine
end
section
open PySem PySem.W PyProof.Rows PySem.SeqAt PySem.Spec
set_option maxHeartbeats 8000000
namespace Mine
def argsOf : Stmt → Arguments
  | .FunctionDef _ a .. => a
  | _ => default
abbrev Info := Arguments × FuncBody × Scope × Addr × List (Str × Addr) × Value × Value × Addr × Bool
def infoAt (K : Frag) (a : Addr) : Option Info := match K.lookup a with
  | some ⟨_, _, .func fd, _⟩ => some (fd.params, fd.body, fd.scope, fd.globals, fd.closure, fd.defaults, fd.kwdefaults, fd.builtins, codeIn K fd.code fd.qualname)
  | _ => none
def ofStmt (s : Stmt) (d : Value) : Info := (argsOf s, .stmts (bodyOf s), scopeOf s, mainGlobals, [], d, .none, builtinsNs, true)
def ofF (i : Nat) (d : Value) : Info := ofStmt (stAt i) d
def ofM (i j : Nat) : Info := ofStmt (mStmt i j) .none
def clsOk (K : Frag) (c i : Addr) (names : List Str) : Bool :=
  keepIn K (.ref c) && (makesIn K c && (findIn K (.ref c) "__init__" == some (some (.ref i)) && (typeIn K (.ref i) == some (.type "function") && (findIn K (.ref c) "__setattr__" == some (some (.builtin "object.__setattr__")) && (plainOver K c && (hasDictIn K c &&
    names.all fun x => takerIn K c x == some none && (plainGet K c x && findIn K (.ref c) x == some none)))))))
def toldOk (K : Frag) : Bool := plainGet K 91 "told" && (findIn K (.ref 91) "told" == some (some (.ref 88)) && isFn K (.ref 88))
def seqOf (K : Frag) (a : Addr) : Option (List Value × Nat) := match K.lookup a with
  | some ⟨_, _, .seq xs n, _⟩ => some (xs.toList, n)
  | _ => none
def nms : List Str := ["ALL_INFOS", "feature_at", "required_feature", "feature_indexes", "offered_tags", "add_lookups", "gather", "all_langsys", "asked_lookups", "_law_pen", "_law_draw", "_law_pick", "_law_numbers", "_law_langsys", "_law_layout", "_law_gathered", "_law_rows_hold", "LangSys", "Script", "Feature", "Layout", "len", "sorted", "abs", "int", "range", "list", "tuple", "set", "dict"]
def nexp : List (Option (Option Value)) := [some (some (.int 1 189)), some (some (.ref 21)), some (some (.ref 28)), some (some (.ref 35)), some (some (.ref 42)), some (some (.ref 49)), some (some (.ref 55)), some (some (.ref 62)), some (some (.ref 67)), some (some (.ref 180)), some (some (.ref 187)), some (some (.ref 194)), some (some (.ref 199)), some (some (.ref 206)), some (some (.ref 211)), some (some (.ref 216)), some (some (.ref 221)), some (some (.ref 91)), some (some (.ref 117)), some (some (.ref 145)), some (some (.ref 171)), some none, some none, some none, some none, some none, some none, some none, some none, some none]
def fads : List Addr := [21, 28, 35, 42, 49, 55, 62, 67, 180, 187, 194, 199, 206, 211, 216, 221, 81, 109, 135, 163, 88]
def fexp : List (Option Info) := [some (ofF 2 .none), some (ofF 3 .none), some (ofF 4 .none), some (ofF 5 .none), some (ofF 6 .none), some (ofF 7 (.ref 50)), some (ofF 8 .none), some (ofF 9 .none), some (ofF 16 .none), some (ofF 17 .none), some (ofF 18 .none), some (ofF 19 .none), some (ofF 20 .none), some (ofF 21 .none), some (ofF 22 .none), some (ofF 23 .none), some (ofM 11 0), some (ofM 12 0), some (ofM 13 0), some (ofM 14 0), some (ofM 11 1)]
def kads : List Addr := [2, 3, 20, 21, 27, 28, 34, 35, 41, 42, 48, 49, 50, 54, 55, 61, 62, 66, 67, 80, 81, 87, 88, 90, 91, 108, 109, 116, 117, 134, 135, 144, 145, 162, 163, 170, 171, 179, 180, 186, 187, 193, 194, 198, 199, 205, 206, 210, 211, 215, 216, 220, 221]
def clss : List (Addr × Addr × List Str) := [(91, 81, ["required", "features"]), (117, 109, ["tag", "default", "languages"]), (145, 135, ["tag", "lookups"]), (171, 163, ["scripts", "features", "lookups"])]
abbrev Seen := List (Option (Option Value)) × List (Option Info) × List Bool × Bool × Option (List Value × Nat)
def seenOf (K : Frag) : Seen := (nms.map (nsIn K mainGlobals), fads.map (infoAt K), clss.map (fun c => clsOk K c.1 c.2.1 c.2.2), toldOk K, seqOf K 50)
def seenExp : Seen := (nexp, fexp, [true, true, true, true], true, some ([.bool true], 0))
structure Facts (K : Frag) : Prop where
  nms' : nms.map (nsIn K mainGlobals) = nexp
  fns' : fads.map (infoAt K) = fexp
  cls' : clss.map (fun c => clsOk K c.1 c.2.1 c.2.2) = [true, true, true, true]
  tl : toldOk K = true
  t50 : seqOf K 50 = some ([.bool true], 0)
theorem Facts.of {K : Frag} (h : seenOf K = seenExp) : Facts K :=
  ⟨congrArg Prod.fst h, congrArg (fun x => x.2.1) h, congrArg (fun x => x.2.2.1) h, congrArg (fun x => x.2.2.2.1) h, congrArg (fun x => x.2.2.2.2) h⟩
theorem Facts.nm {K : Frag} (Y : Facts K) {i : Nat} {x : Str} {r : Option (Option Value)} (h1 : nms[i]? = some x) (h2 : nexp[i]? = some r) : nsIn K mainGlobals x = r := by
  have h := congrArg (fun l => l[i]?) Y.nms'
  simp only [List.getElem?_map, h1, h2, Option.map_some] at h
  exact Option.some.inj h
theorem Facts.fn {K : Frag} (Y : Facts K) {i : Nat} {x : Addr} {r : Info} (h1 : fads[i]? = some x) (h2 : fexp[i]? = some (some r)) : infoAt K x = some r := by
  have h := congrArg (fun l => l[i]?) Y.fns'
  simp only [List.getElem?_map, h1, h2, Option.map_some] at h
  exact Option.some.inj h
theorem Facts.cl {K : Frag} (Y : Facts K) {i : Nat} {c j : Addr} {l : List Str} (h1 : clss[i]? = some (c, j, l)) : clsOk K c j l = true := by
  have h := congrArg (fun l => l[i]?) Y.cls'
  simp only [List.getElem?_map, h1, Option.map_some] at h
  have hi : i < 4 := by
    by_cases q : i < 4
    · exact q
    · rw [List.getElem?_eq_none (by show 4 ≤ i; omega)] at h; cases h
  match i, hi with
  | 0, _ | 1, _ | 2, _ | 3, _ => exact Option.some.inj h
theorem Facts.get50 {K : Frag} (Y : Facts K) : ∃ o, K.lookup 50 = some o ∧ o.data = .seq #[.bool true] 0 := by
  have h := Y.t50
  unfold seqOf at h
  split at h
  · rename_i c d xs n sl e
    injection h with h
    injection h with h1 h2
    obtain ⟨xs⟩ := xs
    dsimp only at h1
    subst h1; subst h2
    exact ⟨_, e, rfl⟩
  · cases h
theorem binds_gather {fd : FuncData} {s : Shared} {vs : List Value} {T : Addr} {o : Obj} {n : Nat} (hp : fd.params = argsOf (stAt 7)) (hd : fd.defaults = .ref T) (ho : s.heap.get? T = some o) (hs : o.data = .seq #[.bool true] n)
    (hl : vs.length + [Value.bool true].length = (["layout", "langsys", "wishes", "is_required"] : List Str).length) : BindsTo s fd ⟨vs, []⟩ ((["layout", "langsys", "wishes", "is_required"] : List Str).zip (vs ++ [.bool true])) := by
  match vs, hl with
  | [a, b, c], _ =>
    obtain ⟨f1, f2, f3, f4, f5, f6, f7, f8⟩ := fd
    dsimp only at hp hd
    subst hp; subst hd
    exact BindsTo.of_defaults rfl ho hs rfl rfl
def cxOf (w : World) (s : Shared) (mg mb : Str → Option Value) : Cx := ⟨PySem.Challenge.pw_pb0165_01, w, fun b => s.heap.get? b, mg, mb⟩
section
variable {C : Cx} {K : Frag}
theorem fn_of_info {a : Addr} {st : Stmt} {d : Value} {params : List Str} {dv : List Value} (hH : ∀ h, C.H.In h → K.In h) (hK : ∀ b o, K.lookup b = some o → C.H b = some o) (hi : infoAt K a = some (ofStmt st d))
    (h9 : ∀ fd : FuncData, fd.params = argsOf st → fd.defaults = d → fd.kwdefaults = .none → ∀ vs s, vs.length + dv.length = params.length → C.H.In s.heap → BindsTo s fd ⟨vs, []⟩ (params.zip (vs ++ dv))) : FnAt C a params (bodyOf st) (scopeOf st) dv := by
  unfold infoAt at hi
  split at hi
  · rename_i c od fd sl e
    have hi := Option.some.inj hi
    unfold ofStmt at hi
    simp only [Prod.mk.injEq] at hi
    obtain ⟨e1, e2, e3, e4, e5, e6, e7, e8, e9⟩ := hi
    exact fn_of (hK _ _ e) rfl e2 e3 e4 e5 e8 (fun h hIn => codeRec_of (hH h hIn) e9) (h9 fd e1 e6 e7)
  · cases hi
theorem cls_parts {c i : Addr} {names : List Str} (h : clsOk K c i names = true) : keepIn K (.ref c) = true ∧ makesIn K c = true ∧ findIn K (.ref c) "__init__" = some (some (.ref i)) ∧ typeIn K (.ref i) = some (.type "function") ∧
    findIn K (.ref c) "__setattr__" = some (some (.builtin "object.__setattr__")) ∧ plainOver K c = true ∧ hasDictIn K c = true ∧ ∀ x ∈ names, takerIn K c x = some none ∧ plainGet K c x = true ∧ findIn K (.ref c) x = some none := by
  unfold clsOk at h
  obtain ⟨h1, h⟩ := Bool.and_eq_true_iff.mp h
  obtain ⟨h2, h⟩ := Bool.and_eq_true_iff.mp h
  obtain ⟨h3, h⟩ := Bool.and_eq_true_iff.mp h
  obtain ⟨h4, h⟩ := Bool.and_eq_true_iff.mp h
  obtain ⟨h5, h⟩ := Bool.and_eq_true_iff.mp h
  obtain ⟨h6, h⟩ := Bool.and_eq_true_iff.mp h
  obtain ⟨h7, h⟩ := Bool.and_eq_true_iff.mp h
  refine ⟨h1, h2, beq_iff_eq.mp h3, beq_iff_eq.mp h4, beq_iff_eq.mp h5, h6, h7, fun x hx => ?_⟩
  obtain ⟨q1, q⟩ := Bool.and_eq_true_iff.mp (List.all_eq_true.mp h x hx)
  obtain ⟨q2, q3⟩ := Bool.and_eq_true_iff.mp q
  exact ⟨beq_iff_eq.mp q1, q2, beq_iff_eq.mp q3⟩
theorem cls_call {c i : Addr} {names : List Str} (hH : ∀ h, C.H.In h → K.In h) (h : clsOk K c i names = true) : Callable C (.ref c) := call_cls hH (cls_parts h).1
theorem cls_mk {c i : Addr} {names : List Str} (hH : ∀ h, C.H.In h → K.In h) (h : clsOk K c i names = true) : MkOk C c i := let p := cls_parts h; mk_of_K hH p.2.1 p.2.2.1 p.2.2.2.1
theorem cls_set {c i : Addr} {names : List Str} {x : Str} (hH : ∀ h, C.H.In h → K.In h) (h : clsOk K c i names = true) (hx : x ∈ names) : SetOk C c x := let p := cls_parts h; set_of_K hH p.2.2.2.2.1 p.2.2.2.2.2.1 (p.2.2.2.2.2.2.2 x hx).1 p.2.2.2.2.2.2.1
theorem cls_attr {c i : Addr} {names : List Str} {x : Str} (hH : ∀ h, C.H.In h → K.In h) (h : clsOk K c i names = true) (hx : x ∈ names) : AttrOk C c x := let p := cls_parts h; attr_of_K (attr := none) hH (p.2.2.2.2.2.2.2 x hx).2.1 p.2.2.2.2.2.2.1 (p.2.2.2.2.2.2.2 x hx).2.2 rfl
theorem meth_told (hH : ∀ h, C.H.In h → K.In h) (h : toldOk K = true) : MethOk C 91 "told" 88 := by
  unfold toldOk at h
  obtain ⟨h1, h⟩ := Bool.and_eq_true_iff.mp h
  obtain ⟨h2, h3⟩ := Bool.and_eq_true_iff.mp h
  exact meth_of_K hH h1 (beq_iff_eq.mp h2) h3
end
def adK : Ad := { cL := 91, cS := 117, cF := 145, cY := 171, iL := 81, iS := 109, iF := 135, iY := 163, told := 88, f24 := 0, f2 := 21, f3 := 28, f4 := 35, f5 := 42, f6 := 49, f7 := 55, f8 := 62, f9 := 67, f16 := 180, f17 := 187, f18 := 194, f19 := 199, f20 := 206, f21 := 211, f22 := 216, f23 := 221 }
section
variable {C : Cx} {K : Frag}
theorem kg2 (Y : Facts K) {h : Heap} (KX : K.In h) (g : h.Ns mainGlobals C.mg) : Glob C "feature_at" (.ref 21) := ⟨mg_of KX g (Y.nm (i := 1) rfl rfl)⟩
theorem kF2 (Y : Facts K) (hH : ∀ h, C.H.In h → K.In h) (hK : ∀ b o, K.lookup b = some o → C.H b = some o) : FnAt C 21 (["layout", "number"] : List Str) (fB 2) (fS 2) [] := fn_of_info hH hK (Y.fn (i := 0) rfl rfl) (fun fd hp hd hk vs s hl _ => binds2 (fun a b => by obtain ⟨f1, f2, f3, f4, f5, f6, f7, f8, f9⟩ := fd; dsimp only at hp hd hk; subst hp; subst hd; subst hk; kernel_rfl) hl)
theorem kg3 (Y : Facts K) {h : Heap} (KX : K.In h) (g : h.Ns mainGlobals C.mg) : Glob C "required_feature" (.ref 28) := ⟨mg_of KX g (Y.nm (i := 2) rfl rfl)⟩
theorem kF3 (Y : Facts K) (hH : ∀ h, C.H.In h → K.In h) (hK : ∀ b o, K.lookup b = some o → C.H b = some o) : FnAt C 28 (["layout", "langsys"] : List Str) (fB 3) (fS 3) [] := fn_of_info hH hK (Y.fn (i := 1) rfl rfl) (fun fd hp hd hk vs s hl _ => binds2 (fun a b => by obtain ⟨f1, f2, f3, f4, f5, f6, f7, f8, f9⟩ := fd; dsimp only at hp hd hk; subst hp; subst hd; subst hk; kernel_rfl) hl)
theorem kg4 (Y : Facts K) {h : Heap} (KX : K.In h) (g : h.Ns mainGlobals C.mg) : Glob C "feature_indexes" (.ref 35) := ⟨mg_of KX g (Y.nm (i := 3) rfl rfl)⟩
theorem kF4 (Y : Facts K) (hH : ∀ h, C.H.In h → K.In h) (hK : ∀ b o, K.lookup b = some o → C.H b = some o) : FnAt C 35 (["layout", "langsys", "tag"] : List Str) (fB 4) (fS 4) [] := fn_of_info hH hK (Y.fn (i := 2) rfl rfl) (fun fd hp hd hk vs s hl _ => binds3 (fun a b c => by obtain ⟨f1, f2, f3, f4, f5, f6, f7, f8, f9⟩ := fd; dsimp only at hp hd hk; subst hp; subst hd; subst hk; kernel_rfl) hl)
theorem kg5 (Y : Facts K) {h : Heap} (KX : K.In h) (g : h.Ns mainGlobals C.mg) : Glob C "offered_tags" (.ref 42) := ⟨mg_of KX g (Y.nm (i := 4) rfl rfl)⟩
theorem kF5 (Y : Facts K) (hH : ∀ h, C.H.In h → K.In h) (hK : ∀ b o, K.lookup b = some o → C.H b = some o) : FnAt C 42 (["layout", "langsys"] : List Str) (fB 5) (fS 5) [] := fn_of_info hH hK (Y.fn (i := 3) rfl rfl) (fun fd hp hd hk vs s hl _ => binds2 (fun a b => by obtain ⟨f1, f2, f3, f4, f5, f6, f7, f8, f9⟩ := fd; dsimp only at hp hd hk; subst hp; subst hd; subst hk; kernel_rfl) hl)
theorem kg6 (Y : Facts K) {h : Heap} (KX : K.In h) (g : h.Ns mainGlobals C.mg) : Glob C "add_lookups" (.ref 49) := ⟨mg_of KX g (Y.nm (i := 5) rfl rfl)⟩
theorem kF6 (Y : Facts K) (hH : ∀ h, C.H.In h → K.In h) (hK : ∀ b o, K.lookup b = some o → C.H b = some o) : FnAt C 49 (["masks", "layout", "feature", "mask"] : List Str) (fB 6) (fS 6) [] := fn_of_info hH hK (Y.fn (i := 4) rfl rfl) (fun fd hp hd hk vs s hl _ => binds4 (fun a b c d => by obtain ⟨f1, f2, f3, f4, f5, f6, f7, f8, f9⟩ := fd; dsimp only at hp hd hk; subst hp; subst hd; subst hk; kernel_rfl) hl)
theorem kg7 (Y : Facts K) {h : Heap} (KX : K.In h) (g : h.Ns mainGlobals C.mg) : Glob C "gather" (.ref 55) := ⟨mg_of KX g (Y.nm (i := 6) rfl rfl)⟩
theorem kF7 (Y : Facts K) (hH : ∀ h, C.H.In h → K.In h) (hK : ∀ b o, K.lookup b = some o → C.H b = some o) : FnAt C 55 (["layout", "langsys", "wishes", "is_required"] : List Str) (fB 7) (fS 7) [.bool true] := fn_of_info hH hK (Y.fn (i := 5) rfl rfl) (fun fd hp hd hk vs s hl hIn => Y.get50.elim fun o ho => binds_gather hp hd (hH _ hIn _ _ ho.1) ho.2 hl)
theorem kg8 (Y : Facts K) {h : Heap} (KX : K.In h) (g : h.Ns mainGlobals C.mg) : Glob C "all_langsys" (.ref 62) := ⟨mg_of KX g (Y.nm (i := 7) rfl rfl)⟩
theorem kF8 (Y : Facts K) (hH : ∀ h, C.H.In h → K.In h) (hK : ∀ b o, K.lookup b = some o → C.H b = some o) : FnAt C 62 (["layout"] : List Str) (fB 8) (fS 8) [] := fn_of_info hH hK (Y.fn (i := 6) rfl rfl) (fun fd hp hd hk vs s hl _ => binds1 (fun a => by obtain ⟨f1, f2, f3, f4, f5, f6, f7, f8, f9⟩ := fd; dsimp only at hp hd hk; subst hp; subst hd; subst hk; kernel_rfl) hl)
theorem kg9 (Y : Facts K) {h : Heap} (KX : K.In h) (g : h.Ns mainGlobals C.mg) : Glob C "asked_lookups" (.ref 67) := ⟨mg_of KX g (Y.nm (i := 8) rfl rfl)⟩
theorem kF9 (Y : Facts K) (hH : ∀ h, C.H.In h → K.In h) (hK : ∀ b o, K.lookup b = some o → C.H b = some o) : FnAt C 67 (["layout"] : List Str) (fB 9) (fS 9) [] := fn_of_info hH hK (Y.fn (i := 7) rfl rfl) (fun fd hp hd hk vs s hl _ => binds1 (fun a => by obtain ⟨f1, f2, f3, f4, f5, f6, f7, f8, f9⟩ := fd; dsimp only at hp hd hk; subst hp; subst hd; subst hk; kernel_rfl) hl)
theorem kg16 (Y : Facts K) {h : Heap} (KX : K.In h) (g : h.Ns mainGlobals C.mg) : Glob C "_law_pen" (.ref 180) := ⟨mg_of KX g (Y.nm (i := 9) rfl rfl)⟩
theorem kF16 (Y : Facts K) (hH : ∀ h, C.H.In h → K.In h) (hK : ∀ b o, K.lookup b = some o → C.H b = some o) : FnAt C 180 (["script"] : List Str) (fB 16) (fS 16) [] := fn_of_info hH hK (Y.fn (i := 8) rfl rfl) (fun fd hp hd hk vs s hl _ => binds1 (fun a => by obtain ⟨f1, f2, f3, f4, f5, f6, f7, f8, f9⟩ := fd; dsimp only at hp hd hk; subst hp; subst hd; subst hk; kernel_rfl) hl)
theorem kg17 (Y : Facts K) {h : Heap} (KX : K.In h) (g : h.Ns mainGlobals C.mg) : Glob C "_law_draw" (.ref 187) := ⟨mg_of KX g (Y.nm (i := 10) rfl rfl)⟩
theorem kF17 (Y : Facts K) (hH : ∀ h, C.H.In h → K.In h) (hK : ∀ b o, K.lookup b = some o → C.H b = some o) : FnAt C 187 (["pen", "many"] : List Str) (fB 17) (fS 17) [] := fn_of_info hH hK (Y.fn (i := 9) rfl rfl) (fun fd hp hd hk vs s hl _ => binds2 (fun a b => by obtain ⟨f1, f2, f3, f4, f5, f6, f7, f8, f9⟩ := fd; dsimp only at hp hd hk; subst hp; subst hd; subst hk; kernel_rfl) hl)
theorem kg18 (Y : Facts K) {h : Heap} (KX : K.In h) (g : h.Ns mainGlobals C.mg) : Glob C "_law_pick" (.ref 194) := ⟨mg_of KX g (Y.nm (i := 11) rfl rfl)⟩
theorem kF18 (Y : Facts K) (hH : ∀ h, C.H.In h → K.In h) (hK : ∀ b o, K.lookup b = some o → C.H b = some o) : FnAt C 194 (["pen", "some"] : List Str) (fB 18) (fS 18) [] := fn_of_info hH hK (Y.fn (i := 10) rfl rfl) (fun fd hp hd hk vs s hl _ => binds2 (fun a b => by obtain ⟨f1, f2, f3, f4, f5, f6, f7, f8, f9⟩ := fd; dsimp only at hp hd hk; subst hp; subst hd; subst hk; kernel_rfl) hl)
theorem kg19 (Y : Facts K) {h : Heap} (KX : K.In h) (g : h.Ns mainGlobals C.mg) : Glob C "_law_numbers" (.ref 199) := ⟨mg_of KX g (Y.nm (i := 12) rfl rfl)⟩
theorem kF19 (Y : Facts K) (hH : ∀ h, C.H.In h → K.In h) (hK : ∀ b o, K.lookup b = some o → C.H b = some o) : FnAt C 199 (["pen", "most"] : List Str) (fB 19) (fS 19) [] := fn_of_info hH hK (Y.fn (i := 11) rfl rfl) (fun fd hp hd hk vs s hl _ => binds2 (fun a b => by obtain ⟨f1, f2, f3, f4, f5, f6, f7, f8, f9⟩ := fd; dsimp only at hp hd hk; subst hp; subst hd; subst hk; kernel_rfl) hl)
theorem kg20 (Y : Facts K) {h : Heap} (KX : K.In h) (g : h.Ns mainGlobals C.mg) : Glob C "_law_langsys" (.ref 206) := ⟨mg_of KX g (Y.nm (i := 13) rfl rfl)⟩
theorem kF20 (Y : Facts K) (hH : ∀ h, C.H.In h → K.In h) (hK : ∀ b o, K.lookup b = some o → C.H b = some o) : FnAt C 206 (["pen"] : List Str) (fB 20) (fS 20) [] := fn_of_info hH hK (Y.fn (i := 12) rfl rfl) (fun fd hp hd hk vs s hl _ => binds1 (fun a => by obtain ⟨f1, f2, f3, f4, f5, f6, f7, f8, f9⟩ := fd; dsimp only at hp hd hk; subst hp; subst hd; subst hk; kernel_rfl) hl)
theorem kg21 (Y : Facts K) {h : Heap} (KX : K.In h) (g : h.Ns mainGlobals C.mg) : Glob C "_law_layout" (.ref 211) := ⟨mg_of KX g (Y.nm (i := 14) rfl rfl)⟩
theorem kF21 (Y : Facts K) (hH : ∀ h, C.H.In h → K.In h) (hK : ∀ b o, K.lookup b = some o → C.H b = some o) : FnAt C 211 (["pen"] : List Str) (fB 21) (fS 21) [] := fn_of_info hH hK (Y.fn (i := 13) rfl rfl) (fun fd hp hd hk vs s hl _ => binds1 (fun a => by obtain ⟨f1, f2, f3, f4, f5, f6, f7, f8, f9⟩ := fd; dsimp only at hp hd hk; subst hp; subst hd; subst hk; kernel_rfl) hl)
theorem kg22 (Y : Facts K) {h : Heap} (KX : K.In h) (g : h.Ns mainGlobals C.mg) : Glob C "_law_gathered" (.ref 216) := ⟨mg_of KX g (Y.nm (i := 15) rfl rfl)⟩
theorem kF22 (Y : Facts K) (hH : ∀ h, C.H.In h → K.In h) (hK : ∀ b o, K.lookup b = some o → C.H b = some o) : FnAt C 216 (["layout", "rows"] : List Str) (fB 22) (fS 22) [] := fn_of_info hH hK (Y.fn (i := 14) rfl rfl) (fun fd hp hd hk vs s hl _ => binds2 (fun a b => by obtain ⟨f1, f2, f3, f4, f5, f6, f7, f8, f9⟩ := fd; dsimp only at hp hd hk; subst hp; subst hd; subst hk; kernel_rfl) hl)
theorem kg23 (Y : Facts K) {h : Heap} (KX : K.In h) (g : h.Ns mainGlobals C.mg) : Glob C "_law_rows_hold" (.ref 221) := ⟨mg_of KX g (Y.nm (i := 16) rfl rfl)⟩
theorem kF23 (Y : Facts K) (hH : ∀ h, C.H.In h → K.In h) (hK : ∀ b o, K.lookup b = some o → C.H b = some o) : FnAt C 221 (["layout"] : List Str) (fB 23) (fS 23) [] := fn_of_info hH hK (Y.fn (i := 15) rfl rfl) (fun fd hp hd hk vs s hl _ => binds1 (fun a => by obtain ⟨f1, f2, f3, f4, f5, f6, f7, f8, f9⟩ := fd; dsimp only at hp hd hk; subst hp; subst hd; subst hk; kernel_rfl) hl)
theorem kgcL (Y : Facts K) {h : Heap} (KX : K.In h) (g : h.Ns mainGlobals C.mg) : Glob C "LangSys" (.ref 91) := ⟨mg_of KX g (Y.nm (i := 17) rfl rfl)⟩
theorem kcL (Y : Facts K) : clsOk K 91 81 ["required", "features"] = true := Y.cl (i := 0) rfl
theorem kFcL (Y : Facts K) (hH : ∀ h, C.H.In h → K.In h) (hK : ∀ b o, K.lookup b = some o → C.H b = some o) : FnAt C 81 (["self", "required", "features"] : List Str) (mB 11 0) (mS 11 0) [] := fn_of_info hH hK (Y.fn (i := 16) rfl rfl) (fun fd hp hd hk vs s hl _ => binds3 (fun a b c => by obtain ⟨f1, f2, f3, f4, f5, f6, f7, f8, f9⟩ := fd; dsimp only at hp hd hk; subst hp; subst hd; subst hk; kernel_rfl) hl)
theorem kgcS (Y : Facts K) {h : Heap} (KX : K.In h) (g : h.Ns mainGlobals C.mg) : Glob C "Script" (.ref 117) := ⟨mg_of KX g (Y.nm (i := 18) rfl rfl)⟩
theorem kcS (Y : Facts K) : clsOk K 117 109 ["tag", "default", "languages"] = true := Y.cl (i := 1) rfl
theorem kFcS (Y : Facts K) (hH : ∀ h, C.H.In h → K.In h) (hK : ∀ b o, K.lookup b = some o → C.H b = some o) : FnAt C 109 (["self", "tag", "default", "languages"] : List Str) (mB 12 0) (mS 12 0) [] := fn_of_info hH hK (Y.fn (i := 17) rfl rfl) (fun fd hp hd hk vs s hl _ => binds4 (fun a b c d => by obtain ⟨f1, f2, f3, f4, f5, f6, f7, f8, f9⟩ := fd; dsimp only at hp hd hk; subst hp; subst hd; subst hk; kernel_rfl) hl)
theorem kgcF (Y : Facts K) {h : Heap} (KX : K.In h) (g : h.Ns mainGlobals C.mg) : Glob C "Feature" (.ref 145) := ⟨mg_of KX g (Y.nm (i := 19) rfl rfl)⟩
theorem kcF (Y : Facts K) : clsOk K 145 135 ["tag", "lookups"] = true := Y.cl (i := 2) rfl
theorem kFcF (Y : Facts K) (hH : ∀ h, C.H.In h → K.In h) (hK : ∀ b o, K.lookup b = some o → C.H b = some o) : FnAt C 135 (["self", "tag", "lookups"] : List Str) (mB 13 0) (mS 13 0) [] := fn_of_info hH hK (Y.fn (i := 18) rfl rfl) (fun fd hp hd hk vs s hl _ => binds3 (fun a b c => by obtain ⟨f1, f2, f3, f4, f5, f6, f7, f8, f9⟩ := fd; dsimp only at hp hd hk; subst hp; subst hd; subst hk; kernel_rfl) hl)
theorem kgcY (Y : Facts K) {h : Heap} (KX : K.In h) (g : h.Ns mainGlobals C.mg) : Glob C "Layout" (.ref 171) := ⟨mg_of KX g (Y.nm (i := 20) rfl rfl)⟩
theorem kcY (Y : Facts K) : clsOk K 171 163 ["scripts", "features", "lookups"] = true := Y.cl (i := 3) rfl
theorem kFcY (Y : Facts K) (hH : ∀ h, C.H.In h → K.In h) (hK : ∀ b o, K.lookup b = some o → C.H b = some o) : FnAt C 163 (["self", "scripts", "features", "lookups"] : List Str) (mB 14 0) (mS 14 0) [] := fn_of_info hH hK (Y.fn (i := 19) rfl rfl) (fun fd hp hd hk vs s hl _ => binds4 (fun a b c d => by obtain ⟨f1, f2, f3, f4, f5, f6, f7, f8, f9⟩ := fd; dsimp only at hp hd hk; subst hp; subst hd; subst hk; kernel_rfl) hl)
theorem kFt (Y : Facts K) (hH : ∀ h, C.H.In h → K.In h) (hK : ∀ b o, K.lookup b = some o → C.H b = some o) : FnAt C 88 (["self"] : List Str) (mB 11 1) (mS 11 1) [] := fn_of_info hH hK (Y.fn (i := 20) rfl rfl) (fun fd hp hd hk vs s hl _ => binds1 (fun a => by obtain ⟨f1, f2, f3, f4, f5, f6, f7, f8, f9⟩ := fd; dsimp only at hp hd hk; subst hp; subst hd; subst hk; kernel_rfl) hl)
theorem kb_len (Y : Facts K) {h : Heap} (KX : K.In h) (g : h.Ns mainGlobals C.mg) : Blt C "len" (.builtin "len") := ⟨mg_none_of KX g (Y.nm (i := 21) rfl rfl), by decide +kernel, by decide +kernel⟩
theorem kb_sorted (Y : Facts K) {h : Heap} (KX : K.In h) (g : h.Ns mainGlobals C.mg) : Blt C "sorted" (.builtin "sorted") := ⟨mg_none_of KX g (Y.nm (i := 22) rfl rfl), by decide +kernel, by decide +kernel⟩
theorem kb_abs (Y : Facts K) {h : Heap} (KX : K.In h) (g : h.Ns mainGlobals C.mg) : Blt C "abs" (.builtin "abs") := ⟨mg_none_of KX g (Y.nm (i := 23) rfl rfl), by decide +kernel, by decide +kernel⟩
theorem kb_int (Y : Facts K) {h : Heap} (KX : K.In h) (g : h.Ns mainGlobals C.mg) : Blt C "int" (.type "int") := ⟨mg_none_of KX g (Y.nm (i := 24) rfl rfl), by decide +kernel, by decide +kernel⟩
theorem kb_range (Y : Facts K) {h : Heap} (KX : K.In h) (g : h.Ns mainGlobals C.mg) : Blt C "range" (.type "range") := ⟨mg_none_of KX g (Y.nm (i := 25) rfl rfl), by decide +kernel, by decide +kernel⟩
theorem kb_list (Y : Facts K) {h : Heap} (KX : K.In h) (g : h.Ns mainGlobals C.mg) : Blt C "list" (.type "list") := ⟨mg_none_of KX g (Y.nm (i := 26) rfl rfl), by decide +kernel, by decide +kernel⟩
theorem kb_tuple (Y : Facts K) {h : Heap} (KX : K.In h) (g : h.Ns mainGlobals C.mg) : Blt C "tuple" (.type "tuple") := ⟨mg_none_of KX g (Y.nm (i := 27) rfl rfl), by decide +kernel, by decide +kernel⟩
theorem kb_set (Y : Facts K) {h : Heap} (KX : K.In h) (g : h.Ns mainGlobals C.mg) : Blt C "set" (.type "set") := ⟨mg_none_of KX g (Y.nm (i := 28) rfl rfl), by decide +kernel, by decide +kernel⟩
theorem kb_dict (Y : Facts K) {h : Heap} (KX : K.In h) (g : h.Ns mainGlobals C.mg) : Blt C "dict" (.type "dict") := ⟨mg_none_of KX g (Y.nm (i := 29) rfl rfl), by decide +kernel, by decide +kernel⟩
theorem kinfo (Y : Facts K) {h : Heap} (KX : K.In h) (g : h.Ns mainGlobals C.mg) : GlobI C "ALL_INFOS" 1 := ⟨189, mg_of KX g (Y.nm (i := 0) rfl rfl)⟩
end
theorem pr_of {w : World} {s₁ : Shared} {mg mb : Str → Option Value} {K : Frag} (Y : Facts K) (KX : K.In s₁.heap) (g : s₁.heap.Ns mainGlobals mg) (b : s₁.heap.Ns builtinsNs mb) (lim : s₁.heap.NoLimit) (blt : ∀ x : Str, x ≠ "__name__" → mb x = bootBuiltins x) :
    Pr (cxOf w s₁ mg mb) adK := by
  generalize hC : cxOf w s₁ mg mb = C
  have hHk : ∀ b o, s₁.heap.get? b = some o → C.H b = some o := fun b o e => by rw [← hC]; exact e
  have hIn0 : ∀ h, C.H.In h → ∀ b o, s₁.heap.get? b = some o → h.get? b = some o := fun h hIn b o e => hIn b o (hHk b o e)
  have hmg : C.mg = mg := by rw [← hC]; rfl
  have hmb : C.mb = mb := by rw [← hC]; rfl
  have OK : C.Ok := ⟨fun h hIn => by rw [hmg]; exact g.at' fun o e => hIn0 h hIn _ _ e, fun h hIn => by rw [hmb]; exact b.at' fun o e => hIn0 h hIn _ _ e, fun h hIn => lim.keeps (hIn0 h hIn), fun x hx => by rw [hmb]; exact blt x hx, fun h hIn => modules_low (lim.keeps (hIn0 h hIn))⟩
  have hH : ∀ h, C.H.In h → K.In h := fun h hIn b o e => hIn0 h hIn _ _ (KX b o e)
  have hK : ∀ b o, K.lookup b = some o → C.H b = some o := fun b o e => hHk _ _ (KX b o e)
  rw [← hmg] at g
  exact ⟨OK, ⟨kb_len Y KX g, kb_sorted Y KX g, kb_abs Y KX g, kb_int Y KX g, kb_range Y KX g, kb_list Y KX g, kb_tuple Y KX g, kb_set Y KX g, kb_dict Y KX g⟩, ⟨cls_attr hH (kcL Y) (.head _), cls_attr hH (kcL Y) (.tail _ (.head _)), cls_attr hH (kcS Y) (.head _), cls_attr hH (kcS Y) (.tail _ (.head _)), cls_attr hH (kcS Y) (.tail _ (.tail _ (.head _))), cls_attr hH (kcF Y) (.head _), cls_attr hH (kcF Y) (.tail _ (.head _)), cls_attr hH (kcY Y) (.head _), cls_attr hH (kcY Y) (.tail _ (.head _)), cls_attr hH (kcY Y) (.tail _ (.tail _ (.head _)))⟩, kinfo Y KX g, kg2 Y KX g, kF2 Y hH hK, kg3 Y KX g, kF3 Y hH hK, kg4 Y KX g, kF4 Y hH hK, kg5 Y KX g, kF5 Y hH hK, kg6 Y KX g, kF6 Y hH hK, kg7 Y KX g, kF7 Y hH hK, kg8 Y KX g, kF8 Y hH hK, kg9 Y KX g, kF9 Y hH hK, kg16 Y KX g, kF16 Y hH hK, kg17 Y KX g, kF17 Y hH hK, kg18 Y KX g, kF18 Y hH hK, kg19 Y KX g, kF19 Y hH hK, kg20 Y KX g, kF20 Y hH hK, kg21 Y KX g, kF21 Y hH hK, kg22 Y KX g, kF22 Y hH hK, kg23 Y KX g, kF23 Y hH hK, kgcL Y KX g, cls_call hH (kcL Y), cls_mk hH (kcL Y), kFcL Y hH hK, cls_set hH (kcL Y) (.head _), cls_set hH (kcL Y) (.tail _ (.head _)), kgcS Y KX g, cls_call hH (kcS Y), cls_mk hH (kcS Y), kFcS Y hH hK, cls_set hH (kcS Y) (.head _), cls_set hH (kcS Y) (.tail _ (.head _)), cls_set hH (kcS Y) (.tail _ (.tail _ (.head _))), kgcF Y KX g, cls_call hH (kcF Y), cls_mk hH (kcF Y), kFcF Y hH hK, cls_set hH (kcF Y) (.head _), cls_set hH (kcF Y) (.tail _ (.head _)), kgcY Y KX g, cls_call hH (kcY Y), cls_mk hH (kcY Y), kFcY Y hH hK, cls_set hH (kcY Y) (.head _), cls_set hH (kcY Y) (.tail _ (.head _)), cls_set hH (kcY Y) (.tail _ (.tail _ (.head _))), meth_told hH Y.tl, kFt Y hH hK⟩
/-- the fragment that is read: the objects at the places of kads -/
noncomputable def fragAt (h : Heap) : List Addr → Frag
  | [] => []
  | a :: r => match h.get? a with
    | some o => (a, o) :: fragAt h r
    | none => fragAt h r
theorem fragAt_in (h : Heap) : ∀ as, (fragAt h as).In h
  | [], a, o, e => by cases e
  | x :: r, a, o, e => by
    unfold fragAt at e
    split at e
    · rename_i ox hx
      rw [List.lookup_cons] at e
      split at e
      · rename_i q; cases e; rw [beq_iff_eq.mp q]; exact hx
      · exact fragAt_in h r a o e
    · exact fragAt_in h r a o e
def saysK (_ : World) (h : Heap) : Prop := ∃ K : Frag, K.In h ∧ Facts K
theorem left1 : LeftO PySem.Challenge.pw_pb0165_01 qv loo (fun s => xlAt qv [] s && recOk (RowW.records PySem.Challenge.rw_pb0165_01.row.toRowW) s) (fun s => seenOf (fragAt s.heap kads)) (fun _ => seenExp) 4000 :=
  left_of open0 size0 s0_ok (M := 2000) (fun w os => by kernel_rfl) (by decide)
end Mine
end
section
open PySem PySem.W PyProof.Rows
set_option maxHeartbeats 8000000
namespace Mine
theorem said_row : OpenRow.wellSaid PySem.Challenge.rw_pb0165_01.row = true := by
  unfold OpenRow.wellSaid OpenRow.partSaid looksOpen
  repeat' (with_reducible refine look_both ?_ ?_)
  all_goals (as_aux_lemma => kernel_rfl)
theorem said0 : OpenLaw.wellSaid PySem.Challenge.rw_pb0165_01 = true := by
  unfold OpenLaw.wellSaid
  repeat' (with_reducible refine look_both ?_ ?_)
  · exact said_row
  all_goals (as_aux_lemma => kernel_rfl)
theorem end_law {w : World} {s₁ : Shared} {mg mb : Str → Option Value} (P : Pr (cxOf w s₁ mg mb) adK) {fa l : Addr} {vs : List Value} {ns : List Int} (F24 : FnAt (cxOf w s₁ mg mb) fa ["script"] (fB 24) (fS 24) []) (hL : s₁.heap.IsList l vs.toArray) (hI : IntsAre vs ns) (hz : ns.length ≤ 63)
    {Q : Value → Shared → Prop} (h : ∀ h' t', (∀ b o, s₁.heap.get? b = some o → h'.get? b = some o) → Q (.bool true) { s₁ with heap := h', toks := t' }) :
    wpAny (model PySem.Challenge.pw_pb0165_01 w) callerA (call (.ref fa) [.ref l]) Q (fun _ _ => False) s₁ := by
  have S0 : St PySem.Challenge.pw_pb0165_01 w (cxOf w s₁ mg mb).H [] s₁.heap := ⟨fun b o e => e, fun a ha => by simp [Mu.ads] at ha, List.nodup_nil, fun p hp => nomatch hp⟩
  have hr : Reps PySem.Challenge.pw_pb0165_01 w (cxOf w s₁ mg mb).H [.ref l] [.llist (intsA ns)] := by
    obtain ⟨ol, hol, hcl, n, hdl⟩ := hL
    exact .cons (.llist (n := n) hol hcl hdl (reps_ints hI)) .nil
  have hA : Room 6 callerA := ⟨rfl, by rw [depth_caller]; decide, by rw [units_caller]; decide⟩
  have key := (ct_law (n := 0) P F24 hz (Q := fun β _ => β = .bool true) rfl).call [.ref l] callerA (cxOf w s₁ mg mb).H s₁ hA FH.le.rfl hr S0
  refine wpAny_mono key (fun v s' hh => ?_) fun _ _ e => e.elim
  obtain ⟨g', mu', α, r1, e1, rfl⟩ := hh
  cases r1
  obtain ⟨h', t', rfl⟩ := e1.same
  exact h h' t' fun b o e => e1.st.sub b o (e1.le b o e)
theorem fn_law {w : World} {s₁ : Shared} {mg mb : Str → Option Value} {fa : Addr} {o : Obj} {fd : FuncData} (h1 : s₁.heap.get? fa = some o) (h2 : o.data = .func fd) (h3 : fd.body = .stmts (fB 24)) (h4 : fd.scope = fS 24) (h5 : fd.globals = mainGlobals) (h6 : fd.closure = []) (h7 : fd.builtins = builtinsNs)
    (h8 : s₁.heap.CodeRec fd.code fd.qualname) (h9 : ∀ a, bindArgs fd ⟨[a], []⟩ = pure [(("script" : Str), a)]) : FnAt (cxOf w s₁ mg mb) fa ["script"] (fB 24) (fS 24) [] :=
  fn_of (C := cxOf w s₁ mg mb) h1 h2 h3 h4 h5 h6 h7 (fun h hIn => h8.keeps hIn) (fun vs s hl _ => binds1 h9 hl)
end Mine
end
open PySem PySem.W PyProof.Rows Mine
set_option maxHeartbeats 8000000 in
theorem PySem.Challenge.cw_pb0165_01_holds : PySem.Challenge.rw_pb0165_01.Holds := by
  w_on
  refine holds_law said0 fun said => ?_
  refine holds_open (q := qv) (loose := loo) (Xt := fun s => xlAt qv [] s && recOk (RowW.records PySem.Challenge.rw_pb0165_01.row.toRowW) s) (XP := XL qv []) (Yf := fun s => seenOf (fragAt s.heap kads)) (Ya := fun _ => seenExp) (YP := saysK) (N := 4000) left1
    (fun w s e => ⟨_, fragAt_in _ _, Facts.of e⟩) (fun w h h' x k => x.elim fun K y => ⟨K, y.1.keeps k, y.2⟩)
    (fun s e => xl_of s (Bool.and_eq_true_iff.mp e).1) XL.keeps (by rfl) (by rfl) (by rfl) (fun s e => recFacts_of (Bool.and_eq_true_iff.mp e).2) rfl said (by decide +kernel) ⟨rfl, rfl, rfl, rfl, rfl, by decide +kernel⟩ ?hw ?hc
  case hw => w_witness2
  case hc =>
    intro w s₀ s₁ mg mb G Y fa o pm cd doc dV kV ho hdt hcd hD hmg hg args vals as hpre hlay hrd hwl hlo
    obtain ⟨K, KX, Y⟩ := Y
    refine Ground.open G ?_
    intro T B D TE TW
    wrow_args hpre hlay hrd hwl hlo
    rename_i ns hs hlay0 hL1 hr1 hl2 wa wb l vs wc hL ra ww r0 hI hrr hc1 hc2
    have P := pr_of (w := w) Y KX T.g T.b T.nolimit T.builtins
    have hdV : dV = .none := by
      rcases hD.pos with h | h
      · exact h.2
      · exact absurd rfl h.1
    subst hdV
    have F24 := fn_law (w := w) (mg := mg) (mb := mb) ho hdt rfl rfl rfl rfl rfl hcd (fun a => rfl)
    refine wpAny_mono (end_law P F24 hL hI (by omega) (Q := fun v s' => GoodWG PySem.Challenge.rw_pb0165_01.row.claim (classAt s₀.heap) (ExcName.means s₀.heap) [ofPy (PyData.list (List.map PyData.int ns))] s₁ (Except.ok (Flow.ret v)) s') fun h' t' hk => ?_) (fun _ _ x => x) fun _ _ e => e.elim
    exact GoodW.toG ⟨.inl ⟨.bool true, .bool true, [], rfl, fun _ => rfl, .bool true, by kernel_rfl!, unshared_nil⟩, hk, rfl, hg⟩
