import PyProof.Rows.All
import Wide.All
import OpenK.AllK
import Wide.FinOn
import HandS.ForMost
import HandS.Exc
import HandS.More
import HandS.TupAny
import HandS.IsInst
import HandS.SortInts
import HandS.Conv
import HandS.Wide
import HandS.TryOnly
import HandS.Defaults
import HandS.WordsExc
import KE.KSortedM
import HandS.Text
import HandS.Replace
import KE.KExcSuper
import HandS.ExcSuper
import HandS.ExcInit
import HandS.ExcIs
import HandS.ExcField
import HandS.TryMany
import HandS.Nested
import KE.KExcIs
import HandS.Head0
import HandS.Head1
import HandS.Head2
import HandS.HeadEnd
import HandS.HeadHook1
import HandS.HeadHook2
import HandS.HeadHook3
import HandS.MakeKwOnly
import KE.KIntText
import HandS.DictComp
import HandS.Small
import HandS.MakeKw
import HandS.Property
import PyProof.P3Eq
import OpenK.KMeth
import Wide.Once
import PySem.Challenge.RW_stamprules_k08_meet_of_two_books
set_option Elab.async false
set_option linter.all false
set_option maxRecDepth 100000
set_option maxHeartbeats 4000000
/-! Mi0: plain values D, cells, a mirror heap, and how they stand for the values and the abstract heap of the hand layer. -/
namespace Mi
open PySem PySem.Spec PyProof.Rows L2

/-- a value as a tree; cel n: the n-th cell of the mirror heap -/
inductive D where
  | non | bl (b : Bool) | int (i : Int) | str (x : Str) | ty (n : String) | gl (x : Str)
  | tup (xs : List D) | lst (xs : List D) | scr (xs : List D) | dct (kvs : List (Key × D)) | dck (kvs : List (Str × D)) | ins (c : Str) (fs : List (Str × D)) | cel (n : Nat) | exc (c : Str) (fs : List (Str × D))
inductive Ob where
  | lst (xs : List D) | dct (kvs : List (Key × D)) | ins (c : Str) (fs : List (Str × D)) | frz (d : D) | lck (kvs : List (Key × D))
abbrev Gp := List Ob
abbrev Ev := List (Option D)
inductive Out (α : Type) where
  | ok (a : α) (g : Gp) | exc (c : Str) (fs : List (Str × D)) (g : Gp) | bad
inductive Res where
  | nx (e : Ev) (g : Gp) | rt (d : D) (g : Gp) | bk (e : Ev) (g : Gp) | ct (e : Ev) (g : Gp) | exc (c : Str) (fs : List (Str × D)) (e : Ev) (g : Gp) | bad
abbrev Ex := Ev → Gp → Out D
abbrev Tx := Ev → Gp → Out Bool
abbrev Ax := Ev → Gp → Out (List D)
abbrev Sx := Ev → Gp → Res
abbrev Fm := List D → Gp → Out D

/-- what the text has left: the written part, the module's names, the world -/
structure Ct where
  K : PySem.W.Frag
  mg : Str → Option Value
  w : World
  ex : Option (Nat × Addr × Obj)
section
variable (Z : Ct) (F : Hp) (ro : List Addr)
mutual
inductive Rep : D → V → Prop
  | non : Rep .non .non
  | bl (b : Bool) : Rep (.bl b) (.bl b)
  | int (i : Int) : Rep (.int i) (.int i)
  | str (x : Str) : Rep (.str x) (.str x)
  | ty (n : String) : Rep (.ty n) (.ty n)
  | gl {x : Str} {a : Addr} : Z.mg x = some (.ref a) → Rep (.gl x) (.ref a)
  | tup {a : Addr} {vs : List V} {ds : List D} : SqT Z.K F a vs → Reps ds vs → Rep (.tup ds) (.ref a)
  | lst {a : Addr} {vs : List V} {ds : List D} : F a = some (.lst vs) → Reps ds vs → Rep (.lst ds) (.ref a)
  | scr {a : Addr} {vs : List V} {ds : List D} : SqL Z.K F a vs → Reps ds vs → Rep (.scr ds) (.ref a)
  | dct {a : Addr} {o : Obj} {ws : List (Key × V)} {kvs : List (Key × D)} : F a = some (.frz o (.dK ws)) → RepK kvs ws → Rep (.dct kvs) (.ref a)
  | dck {a : Addr} {es : Array DictEntry} {n : Nat} {kvs : List (Str × D)} : KDict Z.K Z.w a es n → RepN a kvs → (∀ x, kvs.lookup x = none → PySem.W.nsIn Z.K a x = some none) → Rep (.dck kvs) (.ref a)
  | ins {a C dx : Addr} {ws : List (Str × V)} {c : Str} {fs : List (Str × D)} : Z.mg c = some (.ref C) → F a = some (.ins C dx ws) → RepF fs ws → Rep (.ins c fs) (.ref a)
  | cel {n : Nat} {a : Addr} : ro[n]? = some a → Rep (.cel n) (.ref a)
inductive Reps : List D → List V → Prop
  | nil : Reps [] []
  | cons {d : D} {v : V} {ds : List D} {vs : List V} : Rep d v → Reps ds vs → Reps (d :: ds) (v :: vs)
inductive RepK : List (Key × D) → List (Key × V) → Prop
  | nil : RepK [] []
  | cons {k : Key} {d : D} {v : V} {ds : List (Key × D)} {vs : List (Key × V)} : Rep d v → RepK ds vs → RepK ((k, d) :: ds) ((k, v) :: vs)
/-- the values of a dict of the module -/
inductive RepN : Addr → List (Str × D) → Prop
  | nil {a : Addr} : RepN a []
  | cons {a : Addr} {x : Str} {d : D} {u : Value} {v : V} {ds : List (Str × D)} : PySem.W.nsIn Z.K a x = some (some u) → RelV v u → Rep d v → RepN a ds → RepN a ((x, d) :: ds)
inductive RepF : List (Str × D) → List (Str × V) → Prop
  | nil : RepF [] []
  | cons {k : Str} {d : D} {v : V} {ds : List (Str × D)} {vs : List (Str × V)} : Rep d v → RepF ds vs → RepF ((k, d) :: ds) ((k, v) :: vs)
end
/-- what a cell is -/
inductive CellIs : Ob → Option HO → Prop
  | lst {ds : List D} {vs : List V} : Reps Z F ro ds vs → CellIs (.lst ds) (some (.lst vs))
  | dct {ds : List (Key × D)} {vs : List (Key × V)} : RepK Z F ro ds vs → CellIs (.dct ds) (some (.dK vs))
  | lck {ds : List (Key × D)} {o : Obj} {vs : List (Key × V)} : RepK Z F ro ds vs → CellIs (.lck ds) (some (.frz o (.dK vs)))
  | ins {c : Str} {C dx : Addr} {ds : List (Str × D)} {vs : List (Str × V)} : Z.mg c = some (.ref C) → RepF Z F ro ds vs → CellIs (.ins c ds) (some (.ins C dx vs))
structure Ok (H : Hp) (G : Gp) : Prop where
  sub : Same F H
  len : ro.length = G.length
  nd : ro.Nodup
  cell : ∀ (n : Nat) (ob : Ob) (a : Addr), G[n]? = some ob → ro[n]? = some a → (∃ d, ob = .frz d ∧ Rep Z F [] d (.ref a) ∧ ∃ u, F a = some u ∧ ∀ ws, u ≠ .dK ws) ∨ (F a = none ∧ CellIs Z F ro ob (H a))
/-- a caught exception: oe its object -/
def ExcR (oe : Obj) (c : Str) (fs : List (Str × D)) : Prop := ∃ (C dd : Addr) (ws : List (Str × V)), oe.cls = .ref C ∧ oe.dict = some dd ∧ Z.mg c = some (.ref C) ∧ F dd = some (.xd ws) ∧ RepF Z F ro fs ws
def Evs (env : Ev) (σ : L2.St) : Prop := env.length = σ.length ∧ (∀ (i : Nat) (d : D), env[i]? = some (some d) → (∀ x, Z.ex = some x → x.1 ≠ i) → ∃ v, σ[i]? = some (some v) ∧ Rep Z F ro d v) ∧
  ∀ (x : Nat × Addr × Obj) (c : Str) (fs : List (Str × D)), Z.ex = some x → env[x.1]? = some (some (.exc c fs)) → σ[x.1]? = some (some (.ref x.2.1)) ∧ ExcR Z F ro x.2.2 c fs
structure Nx (H F' : Hp) (ro' : List Addr) (H' : Hp) : Prop where
  sub : Same F F'
  up : Same F' H'
  pre : ∃ r, ro' = ro ++ r
  new : ∀ p ∈ ro', p ∈ ro ∨ H p = none
  out : ∀ p o, H p = some o → F p = none → p ∉ ro → H' p = some o ∧ F' p = none
  frz : ∀ p o u, H p = some (.frz o u) → H' p = some (.frz o u)
end

section
variable {K : PySem.W.Frag} {Z : Ct} {F F' F2 H H' H2 : Hp} {ro ro' ro2 : List Addr} {G G' : Gp}

theorem SqT.same {a : Addr} {vs : List V} (e : Same F F') (h : SqT K F a vs) : SqT K F' a vs := by
  rcases h with (h | ⟨o, h⟩) | h
  · exact .inl (.inl (e _ _ h))
  · exact .inl (.inr ⟨o, e _ _ h⟩)
  · exact .inr h

mutual
theorem Rep.mono (e : Same F F') (p : ∀ (n : Nat) (a : Addr), ro[n]? = some a → ro'[n]? = some a) : ∀ {d : D} {v : V}, Rep Z F ro d v → Rep Z F' ro' d v
  | _, _, .non => .non
  | _, _, .bl b => .bl b
  | _, _, .int i => .int i
  | _, _, .str x => .str x
  | _, _, .ty n => .ty n
  | _, _, .gl h => .gl h
  | _, _, .tup h r => .tup (Mi.SqT.same e h) (Reps.mono e p r)
  | _, _, .lst h r => .lst (e _ _ h) (Reps.mono e p r)
  | _, _, .scr h r => .scr (e.seq h) (Reps.mono e p r)
  | _, _, .dct h r => .dct (e _ _ h) (RepK.mono e p r)
  | _, _, .dck h r m => .dck h (RepN.mono e p r) m
  | _, _, .ins c h r => .ins c (e _ _ h) (RepF.mono e p r)
  | _, _, .cel h => .cel (p _ _ h)
theorem Reps.mono (e : Same F F') (p : ∀ (n : Nat) (a : Addr), ro[n]? = some a → ro'[n]? = some a) : ∀ {d : List D} {v : List V}, Reps Z F ro d v → Reps Z F' ro' d v
  | _, _, .nil => .nil
  | _, _, .cons h r => .cons (Rep.mono e p h) (Reps.mono e p r)
theorem RepK.mono (e : Same F F') (p : ∀ (n : Nat) (a : Addr), ro[n]? = some a → ro'[n]? = some a) : ∀ {d : List (Key × D)} {v : List (Key × V)}, RepK Z F ro d v → RepK Z F' ro' d v
  | _, _, .nil => .nil
  | _, _, .cons h r => .cons (Rep.mono e p h) (RepK.mono e p r)
theorem RepN.mono (e : Same F F') (p : ∀ (n : Nat) (a : Addr), ro[n]? = some a → ro'[n]? = some a) : ∀ {a : Addr} {d : List (Str × D)}, RepN Z F ro a d → RepN Z F' ro' a d
  | _, _, .nil => .nil
  | _, _, .cons h1 h2 h r => .cons h1 h2 (Rep.mono e p h) (RepN.mono e p r)
theorem RepF.mono (e : Same F F') (p : ∀ (n : Nat) (a : Addr), ro[n]? = some a → ro'[n]? = some a) : ∀ {d : List (Str × D)} {v : List (Str × V)}, RepF Z F ro d v → RepF Z F' ro' d v
  | _, _, .nil => .nil
  | _, _, .cons h r => .cons (Rep.mono e p h) (RepF.mono e p r)
end

theorem pre_get {ro ro' : List Addr} (h : ∃ r, ro' = ro ++ r) : ∀ (n : Nat) (a : Addr), ro[n]? = some a → ro'[n]? = some a := by
  obtain ⟨r, rfl⟩ := h
  intro n a e
  rw [List.getElem?_append_left (List.getElem?_eq_some_iff.mp e).1]
  exact e
theorem Nx.get (x : Nx F ro H F' ro' H') : ∀ (n : Nat) (a : Addr), ro[n]? = some a → ro'[n]? = some a := pre_get x.pre
theorem Rep.nx (x : Nx F ro H F' ro' H') {d : D} {v : V} (r : Rep Z F ro d v) : Rep Z F' ro' d v := r.mono x.sub x.get
theorem Reps.nx (x : Nx F ro H F' ro' H') {d : List D} {v : List V} (r : Reps Z F ro d v) : Reps Z F' ro' d v := r.mono x.sub x.get
theorem Evs.nx (x : Nx F ro H F' ro' H') {env : Ev} {σ : L2.St} (r : Evs Z F ro env σ) : Evs Z F' ro' env σ :=
  ⟨r.1, fun i d e n => let ⟨v, h1, h2⟩ := r.2.1 i d e n; ⟨v, h1, h2.nx x⟩, fun y c fs e1 e2 => let ⟨h, C, dd, ws, a1, a2, a3, a4, a5⟩ := r.2.2 y c fs e1 e2; ⟨h, C, dd, ws, a1, a2, a3, x.sub _ _ a4, a5.mono x.sub x.get⟩⟩
theorem Nx.refl (h : Same F H) : Nx F ro H F ro H := ⟨fun _ _ h => h, h, ⟨[], by simp⟩, fun p h => .inl h, fun p o h1 h2 _ => ⟨h1, h2⟩, fun _ _ _ h => h⟩
theorem Nx.trans (x : Nx F ro H F' ro' H') (y : Nx F' ro' H' F2 ro2 H2) : Nx F ro H F2 ro2 H2 := by
  obtain ⟨r1, rfl⟩ := x.pre
  obtain ⟨r2, rfl⟩ := y.pre
  have key : ∀ p o, H p = some o → F p = none → p ∉ ro → H' p = some o ∧ F' p = none ∧ p ∉ ro ++ r1 := fun p o h1 h2 h3 => by
    obtain ⟨a, b⟩ := x.out p o h1 h2 h3
    refine ⟨a, b, fun z => ?_⟩
    rcases x.new p z with z | z
    · exact h3 z
    · rw [h1] at z; cases z
  refine ⟨fun a o h => y.sub _ _ (x.sub _ _ h), y.up, ⟨r1 ++ r2, by simp⟩, fun p hp => ?_, fun p o h1 h2 h3 => ?_, fun p o u h => y.frz p o u (x.frz p o u h)⟩
  · rcases y.new p hp with z | z
    · exact x.new p z
    · by_cases hr : p ∈ ro
      · exact .inl hr
      · cases q : H p with
        | none => exact .inr rfl
        | some o =>
          cases qf : F p with
          | none =>
            obtain ⟨a, _⟩ := x.out p o q qf hr
            rw [z] at a; cases a
          | some u =>
            have := x.up _ _ (x.sub _ _ qf)
            rw [z] at this; cases this
  · obtain ⟨a, b, c⟩ := key p o h1 h2 h3
    exact y.out p o a b c
theorem Ok.cell_in (ok : Ok Z F ro H G) {n : Nat} {a : Addr} (h : ro[n]? = some a) : ∃ ob, G[n]? = some ob := by
  have hl := (List.getElem?_eq_some_iff.mp h).1
  rw [ok.len] at hl
  exact ⟨_, List.getElem?_eq_getElem hl⟩
theorem Ok.cell_ad (ok : Ok Z F ro H G) {n : Nat} {ob : Ob} (h : G[n]? = some ob) : ∃ a, ro[n]? = some a := by
  have hl := (List.getElem?_eq_some_iff.mp h).1
  rw [← ok.len] at hl
  exact ⟨_, List.getElem?_eq_getElem hl⟩
theorem Ok.there (ok : Ok Z F ro H G) {p : Addr} (h : p ∈ ro) : H p ≠ none := by
  obtain ⟨n, hn⟩ := List.mem_iff_getElem?.mp h
  obtain ⟨ob, ho⟩ := ok.cell_in hn
  intro z
  rcases ok.cell n ob p ho hn with ⟨d, _, _, q⟩ | ⟨_, c⟩
  · obtain ⟨u, e, _⟩ := q
    have := ok.sub _ _ e
    rw [z] at this; cases this
  · rw [z] at c; cases c
theorem Ok.free (ok : Ok Z F ro H G) {p : Addr} (h : H p = none) : F p = none ∧ p ∉ ro := by
  refine ⟨?_, fun z => ok.there z h⟩
  cases e : F p with
  | none => rfl
  | some u =>
    have := ok.sub _ _ e
    rw [h] at this; cases this
theorem same_upd {p : Addr} {o : HO} (h : F p = none) : Same F (upd F p o) := fun b u e => by
  rw [upd_ne (ne_of_none e h)]; exact e
theorem same_upd2 {p : Addr} {o : HO} (s : Same F H) : Same (upd F p o) (upd H p o) := fun b u e => by
  by_cases hb : b = p
  · subst hb; rw [upd_same] at e ⊢; exact e
  · rw [upd_ne hb] at e ⊢; exact s _ _ e
theorem CellIs.mono (e : Same F F') (p : ∀ (n : Nat) (a : Addr), ro[n]? = some a → ro'[n]? = some a) {ob : Ob} {o : Option HO} (c : CellIs Z F ro ob o) : CellIs Z F' ro' ob o := by
  cases c with
  | lst r => exact .lst (r.mono e p)
  | dct r => exact .dct (r.mono e p)
  | lck r => exact .lck (r.mono e p)
  | ins c r => exact .ins c (r.mono e p)
/-- a new thing that never changes -/
theorem Ok.newF (ok : Ok Z F ro H G) {p : Addr} (o : HO) (h : H p = none) : Ok Z (upd F p o) ro (upd H p o) G ∧ Nx F ro H (upd F p o) ro (upd H p o) := by
  obtain ⟨hf, hr⟩ := ok.free h
  refine ⟨⟨same_upd2 ok.sub, ok.len, ok.nd, fun n ob a h1 h2 => ?_⟩, ⟨same_upd hf, same_upd2 ok.sub, ⟨[], by simp⟩, fun q z => .inl z, fun q u e1 e2 e3 => ?_, fun q o u e => by rw [upd_ne (ne_of_none e h)]; exact e⟩⟩
  · have ne : a ≠ p := fun z => hr (z ▸ List.mem_iff_getElem?.mpr ⟨n, h2⟩)
    rcases ok.cell n ob a h1 h2 with ⟨d, e, r, q⟩ | ⟨q, c⟩
    · exact .inl ⟨d, e, r.mono (same_upd hf) (fun _ _ z => z), by rw [upd_ne ne]; exact q⟩
    · exact .inr ⟨by rw [upd_ne ne]; exact q, by rw [upd_ne ne]; exact c.mono (same_upd hf) (fun _ _ z => z)⟩
  · have ne : q ≠ p := ne_of_none e1 h
    exact ⟨by rw [upd_ne ne]; exact e1, by rw [upd_ne ne]; exact e2⟩
/-- a new cell -/
theorem Ok.newC (ok : Ok Z F ro H G) {p : Addr} {ob : Ob} {o : HO} (h : H p = none) (c : CellIs Z F ro ob (some o)) : Ok Z F (ro ++ [p]) (upd H p o) (G ++ [ob]) ∧ Nx F ro H F (ro ++ [p]) (upd H p o) := by
  obtain ⟨hf, hr⟩ := ok.free h
  have pg : ∀ (n : Nat) (a : Addr), ro[n]? = some a → (ro ++ [p])[n]? = some a := pre_get ⟨[p], rfl⟩
  have sH : Same F (upd H p o) := fun b u e => by rw [upd_ne (ne_of_none e hf)]; exact ok.sub _ _ e
  refine ⟨⟨sH, by simp [ok.len], ?_, fun n ob' a h1 h2 => ?_⟩, ⟨fun _ _ z => z, sH, ⟨[p], rfl⟩, fun q z => ?_, fun q u e1 e2 e3 => ?_, fun q o u e => by rw [upd_ne (ne_of_none e h)]; exact e⟩⟩
  · rw [List.nodup_append]
    exact ⟨ok.nd, by simp, fun a ha b hb z => by simp at hb; subst hb; exact hr (z ▸ ha)⟩
  · by_cases hn : n < ro.length
    · have h2' : ro[n]? = some a := by rw [List.getElem?_append_left hn] at h2; exact h2
      have h1' : G[n]? = some ob' := by rw [List.getElem?_append_left (by rw [← ok.len]; exact hn)] at h1; exact h1
      have ne : a ≠ p := fun z => hr (z ▸ List.mem_iff_getElem?.mpr ⟨n, h2'⟩)
      rcases ok.cell n ob' a h1' h2' with ⟨d, e, r, q⟩ | ⟨q, c⟩
      · exact .inl ⟨d, e, r, q⟩
      · exact .inr ⟨q, by rw [upd_ne ne]; exact c.mono (fun _ _ z => z) pg⟩
    · have hn' : ro.length ≤ n := Nat.le_of_not_lt hn
      rw [List.getElem?_append_right hn'] at h2
      rw [List.getElem?_append_right (by rw [← ok.len]; exact hn')] at h1
      have e0 : n - ro.length = 0 := by
        have := (List.getElem?_eq_some_iff.mp h2).1
        simp at this; omega
      rw [e0] at h2
      rw [← ok.len, e0] at h1
      simp at h1 h2
      subst h1 h2
      exact .inr ⟨hf, by rw [upd_same]; exact c.mono (fun _ _ z => z) pg⟩
  · rcases List.mem_append.mp z with z | z
    · exact .inl z
    · simp at z; subst z; exact .inr h
  · have ne : q ≠ p := ne_of_none e1 h
    exact ⟨by rw [upd_ne ne]; exact e1, e2⟩
theorem nodup_at {l : List Addr} (nd : l.Nodup) {i j : Nat} {a : Addr} (h1 : l[i]? = some a) (h2 : l[j]? = some a) : i = j := by
  obtain ⟨l1, e1⟩ := List.getElem?_eq_some_iff.mp h1
  obtain ⟨l2, e2⟩ := List.getElem?_eq_some_iff.mp h2
  exact (List.getElem_inj nd).mp (e1.trans e2.symm)
/-- a cell is written -/
theorem Ok.write (ok : Ok Z F ro H G) {n : Nat} {a : Addr} {ob' : Ob} {o : HO} (h2 : ro[n]? = some a) (hf : F a = none) (c : CellIs Z F ro ob' (some o)) (hw : ∀ o u, H a ≠ some (.frz o u)) : Ok Z F ro (upd H a o) (G.set n ob') ∧ Nx F ro H F ro (upd H a o) := by
  have sH : Same F (upd H a o) := fun b u e => by rw [upd_ne (ne_of_none e hf)]; exact ok.sub _ _ e
  refine ⟨⟨sH, by simp [ok.len], ok.nd, fun m ob b h3 h4 => ?_⟩, ⟨fun _ _ z => z, sH, ⟨[], by simp⟩, fun q z => .inl z, fun q u e1 e2 e3 => ?_, fun q o u e => by
    have ne : q ≠ a := fun z => hw o u (by rw [← z]; exact e)
    rw [upd_ne ne]; exact e⟩⟩
  · by_cases hm : m = n
    · subst hm
      rw [h2] at h4
      cases h4
      have hl := (List.getElem?_eq_some_iff.mp h2).1
      rw [List.getElem?_set_self (by rw [← ok.len]; exact hl)] at h3
      cases h3
      exact .inr ⟨hf, by rw [upd_same]; exact c⟩
    · rw [List.getElem?_set_ne (Ne.symm hm)] at h3
      have ne : b ≠ a := fun z => hm (nodup_at ok.nd (z ▸ h4) h2)
      rcases ok.cell m ob b h3 h4 with ⟨d, e, r, q⟩ | ⟨q, c⟩
      · exact .inl ⟨d, e, r, q⟩
      · exact .inr ⟨q, by rw [upd_ne ne]; exact c⟩
  · have ne : q ≠ a := fun z => e3 (z ▸ List.mem_iff_getElem?.mpr ⟨n, h2⟩)
    exact ⟨by rw [upd_ne ne]; exact e1, e2⟩
end
end Mi

set_option maxHeartbeats 4000000
/-! Mi1: readings of mirrors; expressions: names, constants, operators, tests. -/
namespace Mi
open PySem PySem.Spec PyProof.Rows L2

def Out.bind {α β : Type} : Out α → (α → Gp → Out β) → Out β
  | .ok a g, k => k a g
  | .exc c fs g, _ => .exc c fs g
  | .bad, _ => .bad
@[simp] theorem Out.bind_ok {α β : Type} (a : α) (g : Gp) (k : α → Gp → Out β) : (Out.ok a g).bind k = k a g := (rfl)
@[simp] theorem Out.bind_exc {α β : Type} (c : Str) (fs : List (Str × D)) (g : Gp) (k : α → Gp → Out β) : (Out.exc c fs g : Out α).bind k = .exc c fs g := (rfl)
@[simp] theorem Out.bind_bad {α β : Type} (k : α → Gp → Out β) : (Out.bad : Out α).bind k = .bad := (rfl)

section
variable (Z : Ct) (W : WX)
abbrev RD (F : Hp) (ro : List Addr) (d : D) (v : V) : Prop := Rep Z F ro d v
abbrev RB (_ : Hp) (_ : List Addr) (b c : Bool) : Prop := b = c
abbrev RA (F : Hp) (ro : List Addr) (d : List D) (v : List V) : Prop := Reps Z F ro d v
def Post {α β : Type} (R : Hp → List Addr → α → β → Prop) (F : Hp) (ro : List Addr) (H : Hp) (σ : L2.St) (Q : β → Hp → Prop) : Out α → Prop
  | .ok d G' => ∀ F' ro' H' v, Nx F ro H F' ro' H' → Ok Z F' ro' H' G' → R F' ro' d v → Q v H'
  | .exc c fs G' => ∀ F' ro' H' C dd ws, Nx F ro H F' ro' H' → Ok Z F' ro' H' G' → Z.mg c = some (.ref C) → F' dd = some (.xd ws) → RepF Z F' ro' fs ws → W (.ref C) (some dd) σ H'
  | .bad => False
def TG {α β : Type} (R : Hp → List Addr → α → β → Prop) (m : Ev → Gp → Out α) (σ : L2.St) (H : Hp) (Q : β → Hp → Prop) : Prop :=
  ∃ F ro G env, Ok Z F ro H G ∧ Evs Z F ro env σ ∧ Post Z W R F ro H σ Q (m env G)
abbrev T (m : Ex) : TE := TG Z W (RD Z) m
abbrev TT (m : Tx) : TT := TG Z W RB m
abbrev TA (m : Ax) : TA := TG Z W (RA Z) m
end

section
variable {Z : Ct} {W : WX} {F F' F2 H H' H2 : Hp} {ro ro' ro2 : List Addr} {G G' : Gp} {α β γ δ : Type} {R : Hp → List Addr → α → β → Prop} {R2 : Hp → List Addr → γ → δ → Prop} {σ : L2.St}
theorem Post.nx (n : Nx F ro H F' ro' H') {Q : β → Hp → Prop} : ∀ {r : Out α}, Post Z W R F ro H σ Q r → Post Z W R F' ro' H' σ Q r
  | .ok d G', h => fun F2 ro2 H2 v n2 ok r => h F2 ro2 H2 v (n.trans n2) ok r
  | .exc c fs G', h => fun F2 ro2 H2 C dd ws n2 ok a b r => h F2 ro2 H2 C dd ws (n.trans n2) ok a b r
  | .bad, h => h
theorem Post.imp {Q Q' : β → Hp → Prop} : ∀ {r : Out α}, Post Z W R F ro H σ Q r → (∀ v H', Q v H' → Q' v H') → Post Z W R F ro H σ Q' r
  | .ok d G', h, k => fun F2 ro2 H2 v n2 ok r => k _ _ (h F2 ro2 H2 v n2 ok r)
  | .exc c fs G', h, _ => h
  | .bad, h, _ => h
theorem PostB {Q : δ → Hp → Prop} {k : α → Gp → Out γ} : ∀ {r : Out α}, Post Z W R2 F ro H σ Q (r.bind k) →
    Post Z W R F ro H σ (fun v H1 => ∃ F1 ro1 d G1, Nx F ro H F1 ro1 H1 ∧ Ok Z F1 ro1 H1 G1 ∧ R F1 ro1 d v ∧ Post Z W R2 F1 ro1 H1 σ Q (k d G1)) r
  | .ok d G', h => fun F2 ro2 H2 v n2 ok r => ⟨F2, ro2, d, G', n2, ok, r, Post.nx n2 h⟩
  | .exc c fs G', h => h
  | .bad, h => h
theorem Post.ok {Q : β → Hp → Prop} {d : α} {v : β} (ok : Ok Z F ro H G) (h : Post Z W R F ro H σ Q (.ok d G)) (r : R F ro d v) : Q v H :=
  h F ro H v (Nx.refl ok.sub) ok r
end

/-- the exception that a suite holds -/
abbrev exA (X : Cx) : Option (Nat × Addr × Obj) := bif X.calm then none else X.pn.head?.map fun p => (X.N.idxOf ("e" : Str), p)
/-- slot i is not the caught exception's -/
def exNo (X : Cx) (i : Nat) : Prop := (exA X).all (fun x => x.1 != i) = true
theorem exNo.ne {X : Cx} {i : Nat} (h : exNo X i) : ∀ x, exA X = some x → x.1 ≠ i := fun x e => by
  unfold exNo at h
  rw [e] at h
  simpa using h
abbrev ct (X : Cx) : Ct := ⟨X.K, X.mg, X.w, exA X⟩
theorem exA_calm {X : Cx} (h : X.calm = true) : exA X = none := by unfold exA; rw [h]; rfl
section
variable {X : Cx} {W : WX}
theorem PE.imp {e : Expr} {t t' : TE} (h : PE X e t) (k : ∀ σ H Q, t' σ H Q → t σ H Q) : PE X e t' := ⟨fun pins s σ H Q I q => h.run pins s σ H Q I (k σ H Q q)⟩
theorem PT.imp {e : Expr} {t t' : L2.TT} (h : PT X e t) (k : ∀ σ H Q, t' σ H Q → t σ H Q) : PT X e t' := ⟨fun pins s σ H Q I q => h.run pins s σ H Q I (k σ H Q q)⟩
theorem PW.imp {e : Expr} {t t' : L2.TT} (h : PW X e t) (k : ∀ σ H Q, t' σ H Q → t σ H Q) : PW X e t' := ⟨fun whole pins s σ H Q I q => h.run whole pins s σ H Q I (k σ H Q q)⟩
theorem PA.imp {es : List Expr} {t t' : L2.TA} (h : PA X es t) (k : ∀ σ H Q, t' σ H Q → t σ H Q) : PA X es t' := ⟨fun pos pins s σ H Q I q => h.run pos pins s σ H Q I (k σ H Q q)⟩
theorem PS.imp {st : Stmt} {t t' : TS} (h : PS X st t) (k : ∀ D σ H, t' D σ H → t D σ H) : PS X st t' := ⟨fun pins s σ H D I q => h.run pins s σ H D I (k D σ H q)⟩
theorem PSs.imp {st : List Stmt} {t t' : TS} (h : PSs X st t) (k : ∀ D σ H, t' D σ H → t D σ H) : PSs X st t' := ⟨fun pins s σ H D I q => h.run pins s σ H D I (k D σ H q)⟩
variable (X W) in
abbrev PEm (e : Expr) (m : Ex) : Prop := PE X e (T (ct X) W m)
variable (X W) in
abbrev PTm (e : Expr) (m : Tx) : Prop := PT X e (TT (ct X) W m)
variable (X W) in
abbrev PWm (e : Expr) (m : Tx) : Prop := PW X e (TT (ct X) W m)
variable (X W) in
abbrev PAm (es : List Expr) (m : Ax) : Prop := PA X es (TA (ct X) W m)

/-! ### names, constants -/
def mV (i : Nat) : Ex := fun env G => match env[i]? with
  | some (some d) => .ok d G
  | _ => .bad
def mC (d : D) : Ex := fun _ G => .ok d G
theorem em_v (i : Nat) {x : Str} {pos : Pos} (hN : X.N[i]? = some x := by rfl) (hv : Vis X.env.scope x := by first | exact Or.inl rfl | exact Or.inr (Or.inl rfl) | exact Or.inr (Or.inr rfl)) (hd : (x == ("__debug__" : Str)) = false := by decide)
    (hcd : (x == ("__classdict__" : Str)) = false := by decide) (hx : exNo X i := by rfl) : PEm X W (.Name x pos) (mV i) := PE.imp (pv i hN hv hd hcd) fun σ H Q ⟨F, ro, G, env, ok, ev, h⟩ => by
  unfold mV at h
  cases e : env[i]? with
  | none => rw [e] at h; exact h.elim
  | some o =>
    cases o with
    | none => rw [e] at h; exact h.elim
    | some d =>
      rw [e] at h
      obtain ⟨v, hs, r⟩ := ev.2.1 i d e hx.ne
      exact ⟨v, hs, h.ok ok r⟩
theorem em_c {e : Expr} {d : D} {v : V} (h : PE X e (tC v)) (r : ∀ F ro, Rep (ct X) F ro d v) : PEm X W e (mC d) := PE.imp h fun σ H Q ⟨F, ro, G, env, ok, ev, h⟩ => Post.ok ok h (r F ro)
theorem em_int {i j pos} : PEm X W (.Constant (.int i) j pos) (mC (.int i)) := em_c pe_int fun _ _ => .int i
theorem em_bl {b j pos} : PEm X W (.Constant (.bool b) j pos) (mC (.bl b)) := em_c pe_bl fun _ _ => .bl b
theorem em_non {j pos} : PEm X W (.Constant .none j pos) (mC .non) := em_c pe_non fun _ _ => .non
theorem em_str {x j pos} : PEm X W (.Constant (.str x) j pos) (mC (.str x)) := em_c pe_str fun _ _ => .str x
/-- a global that holds a tree -/
theorem em_gl {x : Str} {d : D} {v : V} {u : Value} {pos : Pos} (hm : X.mg x = some u) (r : RelV v u) (rd : ∀ F ro, Rep (ct X) F ro d v) (hg : Gl X x := by rfl) (hd : (x == ("__debug__" : Str)) = false := by decide) : PEm X W (.Name x pos) (mC d) :=
  em_c (pe_glob hg hm r hd) rd

/-! ### operators on two values -/
def m2 (f : D → D → Gp → Out D) (a b : Ex) : Ex := fun env G => (a env G).bind fun x G1 => (b env G1).bind fun y G2 => f x y G2
def m1 (f : D → Gp → Out D) (a : Ex) : Ex := fun env G => (a env G).bind f
variable (X) in
/-- a reading by values is told by f -/
def R2Ok (r : L2.R2) (f : D → D → Gp → Out D) : Prop := ∀ (W : WX) (F : Hp) (ro : List Addr) (H : Hp) (G : Gp) (x y : D) (vx vy : V) (σ : L2.St) (Q : VK), Ok (ct X) F ro H G → Rep (ct X) F ro x vx → Rep (ct X) F ro y vy →
  Post (ct X) W (RD (ct X)) F ro H σ Q (f x y G) → r vx vy H Q
theorem t2 {r : L2.R2} {f : D → D → Gp → Out D} (hr : R2Ok X r f) {ma mb : Ex} (σ : L2.St) (H : Hp) (Q : VK) (h : T (ct X) W (m2 f ma mb) σ H Q) : tOp r (T (ct X) W ma) (T (ct X) W mb) σ H Q := by
  obtain ⟨F, ro, G, env, ok, ev, h⟩ := h
  refine ⟨F, ro, G, env, ok, ev, (PostB (R := RD (ct X)) h).imp fun v H1 ⟨F1, ro1, d1, G1, n1, ok1, r1, h1⟩ => ?_⟩
  refine ⟨F1, ro1, G1, env, ok1, ev.nx n1, (PostB (R := RD (ct X)) h1).imp fun v2 H2 ⟨F2, ro2, d2, G2, n2, ok2, r2, h2⟩ => ?_⟩
  exact hr W F2 ro2 H2 G2 d1 d2 v v2 σ Q ok2 (r1.nx n2) r2 h2
theorem em_op {op : Operator} {r : L2.R2} {f : D → D → Gp → Out D} {a b : Expr} {ma mb : Ex} {pos : Pos} (ho : OpR X (binaryOp op) r) (hr : R2Ok X r f) (ha : PEm X W a ma) (hb : PEm X W b mb) : PEm X W (.BinOp a op b pos) (m2 f ma mb) :=
  PE.imp (pe_op ho ha hb) (t2 hr)
theorem em_cmp {op : CmpOp} {r : L2.R2} {f : D → D → Gp → Out D} {a b : Expr} {ma mb : Ex} {pos : Pos} (ho : OpR X (compareOp op) r) (hr : R2Ok X r f) (ha : PEm X W a ma) (hb : PEm X W b mb) (hm : behindInMarks op b = false) : PEm X W (.Compare a [op] [b] pos) (m2 f ma mb) :=
  PE.imp (pe_cmpR ho ha hb hm) (t2 hr)
/-- a value that is a bool, as a test -/
def mB (a : Ex) : Tx := fun env G => (a env G).bind fun d G1 => match d with
  | .bl b => .ok b G1
  | _ => .bad
theorem tB_ok {ma : Ex} (σ : L2.St) (H : Hp) (Q : Bool → Hp → Prop) (h : TT (ct X) W (mB ma) σ H Q) : tTest (T (ct X) W ma) σ H Q := by
  obtain ⟨F, ro, G, env, ok, ev, h⟩ := h
  refine ⟨F, ro, G, env, ok, ev, (PostB (R := RD (ct X)) h).imp fun v H1 ⟨F1, ro1, d1, G1, n1, ok1, r1, h1⟩ => ?_⟩
  cases r1 with
  | bl b => exact ⟨b, rfl, h1.ok ok1 rfl⟩
  | _ => exact h1.elim
theorem tTest_imp {t t' : TE} (h : ∀ σ H Q, t' σ H Q → t σ H Q) (σ : L2.St) (H : Hp) (Q : Bool → Hp → Prop) (q : tTest t' σ H Q) : tTest t σ H Q := h σ H _ q
theorem tm_cmp {op : CmpOp} {r : L2.R2} {f : D → D → Gp → Out D} {a b : Expr} {ma mb : Ex} {pos : Pos} (ho : OpR X (compareOp op) r) (hr : R2Ok X r f) (ha : PEm X W a ma) (hb : PEm X W b mb) (hm : behindInMarks op b = false) : PTm X W (.Compare a [op] [b] pos) (mB (m2 f ma mb)) :=
  PT.imp (pt_cmpR ho ha hb hm) fun σ H Q h => tTest_imp (t2 hr) σ H Q (tB_ok σ H Q h)

/-! ### truth -/
def lstOf (G : Gp) : D → Option (List D)
  | .lst xs => some xs
  | .cel n => (match G[n]? with
    | some (.lst xs) => some xs
    | some (.frz (.lst xs)) => some xs
    | _ => none)
  | _ => none
def dctOf (G : Gp) : D → Option (List (Key × D))
  | .dct xs => some xs
  | .cel n => (match G[n]? with
    | some (.dct xs) => some xs
    | some (.frz (.dct xs)) => some xs
    | some (.lck xs) => some xs
    | _ => none)
  | _ => none
def insOf (G : Gp) : D → Option (Str × List (Str × D))
  | .ins c fs => some (c, fs)
  | .cel n => (match G[n]? with
    | some (.ins c fs) => some (c, fs)
    | some (.frz (.ins c fs)) => some (c, fs)
    | _ => none)
  | _ => none
theorem lstOf_ok {Z : Ct} {F H : Hp} {ro : List Addr} {G : Gp} (ok : Ok Z F ro H G) {d : D} {v : V} {xs : List D} (r : Rep Z F ro d v) (h : lstOf G d = some xs) : ∃ a vs, v = .ref a ∧ H a = some (.lst vs) ∧ Reps Z F ro xs vs := by
  cases r with
  | lst e q => simp only [lstOf] at h; cases h; exact ⟨_, _, rfl, ok.sub _ _ e, q⟩
  | @cel n a e =>
    simp only [lstOf] at h
    obtain ⟨ob, ho⟩ := ok.cell_in e
    rw [ho] at h
    rcases ok.cell n ob a ho e with ⟨d, rfl, rd, q⟩ | ⟨q, c⟩
    · cases d <;> simp at h
      subst h
      cases rd with
      | lst e q => exact ⟨_, _, rfl, ok.sub _ _ e, q.mono (fun _ _ z => z) (by simp)⟩
    · generalize eH : H a = oh at c
      cases c <;> simp at h
      subst h
      exact ⟨_, _, rfl, eH, by assumption⟩
  | _ => simp [lstOf] at h
theorem dctOf_ok {Z : Ct} {F H : Hp} {ro : List Addr} {G : Gp} (ok : Ok Z F ro H G) {d : D} {v : V} {xs : List (Key × D)} (r : Rep Z F ro d v) (h : dctOf G d = some xs) : ∃ a vs, v = .ref a ∧ Rd H a (.dK vs) ∧ RepK Z F ro xs vs := by
  cases r with
  | dct e q => simp only [dctOf] at h; cases h; exact ⟨_, _, rfl, .inr ⟨_, ok.sub _ _ e⟩, q⟩
  | @cel n a e =>
    simp only [dctOf] at h
    obtain ⟨ob, ho⟩ := ok.cell_in e
    rw [ho] at h
    rcases ok.cell n ob a ho e with ⟨d, rfl, rd, q⟩ | ⟨q, c⟩
    · cases d <;> simp at h
      subst h
      cases rd with
      | dct e q => exact ⟨_, _, rfl, .inr ⟨_, ok.sub _ _ e⟩, q.mono (fun _ _ z => z) (by simp)⟩
    · generalize eH : H a = oh at c
      cases c <;> simp at h <;> subst h
      · exact ⟨_, _, rfl, .inl eH, by assumption⟩
      · exact ⟨_, _, rfl, .inr ⟨_, eH⟩, by assumption⟩
  | _ => simp [dctOf] at h
theorem insOf_ok {Z : Ct} {F H : Hp} {ro : List Addr} {G : Gp} (ok : Ok Z F ro H G) {d : D} {v : V} {c : Str} {fs : List (Str × D)} (r : Rep Z F ro d v) (h : insOf G d = some (c, fs)) :
    ∃ a C dx vs, v = .ref a ∧ Z.mg c = some (.ref C) ∧ H a = some (.ins C dx vs) ∧ RepF Z F ro fs vs := by
  cases r with
  | ins e1 e2 q => simp only [insOf] at h; cases h; exact ⟨_, _, _, _, rfl, e1, ok.sub _ _ e2, q⟩
  | @cel n a e =>
    simp only [insOf] at h
    obtain ⟨ob, ho⟩ := ok.cell_in e
    rw [ho] at h
    rcases ok.cell n ob a ho e with ⟨d, rfl, rd, q⟩ | ⟨q, c⟩
    · cases d <;> simp at h
      obtain ⟨rfl, rfl⟩ := h
      cases rd with
      | ins e1 e2 q => exact ⟨_, _, _, _, rfl, e1, ok.sub _ _ e2, q.mono (fun _ _ z => z) (by simp)⟩
    · generalize eH : H a = oh at c
      cases c <;> simp at h
      obtain ⟨rfl, rfl⟩ := h
      exact ⟨_, _, _, _, rfl, by assumption, eH, by assumption⟩
  | _ => simp [insOf] at h
/-- truth, a locked dict's too -/
def TruW (K : PySem.W.Frag) (x : V) (H : Hp) (k : Bool) : Prop := TruV K x H k ∨ ∃ p kvs, x = .ref p ∧ Rd H p (.dK kvs) ∧ k = !kvs.isEmpty
theorem truW_ok : TruR X (fun x H Q => ∃ k, TruW X.K x H k ∧ Q k H) := by
  intro pins s σ H x v Q I r h
  obtain ⟨k, t | ⟨p, kvs, rfl, e, rfl⟩, q⟩ := h
  · exact tru_ok pins s σ H x v Q I r ⟨k, t, q⟩
  · cases r
    exact d_truth I e fun s' I' => ⟨H, I', q⟩
theorem pt_truthW {a : Expr} {ta : TE} (ha : PE X a ta) (he : ∀ whole, isTrue a X.env whole = (do let v ← whole; standAt a.pos; holding [v] (truthy v))) :
    PT X a (fun σ H Q => ta σ H fun x H' => ∃ k, TruW X.K x H' k ∧ Q k H') := by
  refine ⟨fun pins s σ H Q I h => ?_⟩
  rw [he]
  refine wpAny_bind (thn (ha.run pins s σ H _ I h) fun v s1 ⟨x, H1, I1, r, q⟩ => ?_)
  exact wpAny_bind (wpAny_standAt (wpAny_holding (truW_ok pins s1 σ H1 x v Q I1 r q)))
/-- a value's truth -/
def dTru (G : Gp) : D → Option Bool
  | .non => some false
  | .bl b => some b
  | .int i => some (i != 0)
  | .str y => if y.length ≤ sizeLine then some ((y.length : Int) != 0) else none
  | .tup xs => some (!xs.isEmpty)
  | d => match lstOf G d with
    | some xs => some (!xs.isEmpty)
    | none => (dctOf G d).map fun xs => !xs.isEmpty
def mTru (a : Ex) : Tx := fun env G => (a env G).bind fun d G1 => match dTru G1 d with
  | some b => .ok b G1
  | none => .bad
theorem Reps.isEmpty {Z : Ct} {F : Hp} {ro : List Addr} {xs : List D} {vs : List V} (r : Reps Z F ro xs vs) : (!xs.isEmpty) = !vs.isEmpty := by cases r <;> rfl
theorem RepK.isEmpty {Z : Ct} {F : Hp} {ro : List Addr} {xs : List (Key × D)} {vs : List (Key × V)} (r : RepK Z F ro xs vs) : (!xs.isEmpty) = !vs.isEmpty := by cases r <;> rfl
theorem dTru_ref {Z : Ct} {F H : Hp} {ro : List Addr} {G : Gp} (ok : Ok Z F ro H G) {d : D} {v : V} {b : Bool} (r : Rep Z F ro d v)
    (h : (match lstOf G d with | some xs => some (!xs.isEmpty) | none => (dctOf G d).map fun xs => !xs.isEmpty) = some b) : TruW Z.K v H b := by
  cases e : lstOf G d with
  | some xs =>
    rw [e] at h
    obtain ⟨a, vs, rfl, hv, q⟩ := lstOf_ok ok r e
    exact .inl (.inl ⟨vs, SqL.of hv, by rw [← q.isEmpty]; exact (Option.some.inj h).symm⟩)
  | none =>
    rw [e] at h
    cases e2 : dctOf G d with
    | none => rw [e2] at h; cases h
    | some xs =>
      rw [e2] at h
      obtain ⟨a, vs, rfl, hv, q⟩ := dctOf_ok ok r e2
      exact .inr ⟨a, vs, rfl, hv, by rw [← q.isEmpty]; exact (Option.some.inj h).symm⟩
theorem SqT.up {K : PySem.W.Frag} {F H : Hp} {a : Addr} {vs : List V} (s : Same F H) (h : SqT K F a vs) : SqT K H a vs := Mi.SqT.same s h
theorem dTru_ok {Z : Ct} {F H : Hp} {ro : List Addr} {G : Gp} (ok : Ok Z F ro H G) {d : D} {v : V} {b : Bool} (r : Rep Z F ro d v) (h : dTru G d = some b) : TruW Z.K v H b := by
  have r' := r
  cases r with
  | non => exact .inl (Option.some.inj h).symm
  | bl b => exact .inl (Option.some.inj h).symm
  | int i => exact .inl (Option.some.inj h).symm
  | str x =>
    simp only [dTru] at h
    split at h
    · exact .inl ⟨by assumption, (Option.some.inj h).symm⟩
    · cases h
  | tup e q => exact .inl (.inr (.inl ⟨_, SqT.up ok.sub e, by rw [← q.isEmpty]; exact (Option.some.inj h).symm⟩))
  | _ => exact dTru_ref ok r' h
theorem tm_tru {a : Expr} {ma : Ex} (ha : PEm X W a ma) (he : ∀ whole, isTrue a X.env whole = (do let v ← whole; standAt a.pos; holding [v] (truthy v)) := by intro _; rfl) : PTm X W a (mTru ma) :=
  PT.imp (pt_truthW ha he) fun σ H Q ⟨F, ro, G, env, ok, ev, h⟩ => by
    refine ⟨F, ro, G, env, ok, ev, (PostB (R := RD (ct X)) h).imp fun v H1 ⟨F1, ro1, d1, G1, n1, ok1, r1, h1⟩ => ?_⟩
    cases e : dTru G1 d1 with
    | none => rw [e] at h1; exact h1.elim
    | some b => rw [e] at h1; exact ⟨b, dTru_ok ok1 r1 e, h1.ok ok1 rfl⟩

/-! ### and, or, not, if -/
def mAnd (a b : Tx) : Tx := fun env G => (a env G).bind fun c G1 => if c then b env G1 else .ok false G1
def mOr (a b : Tx) : Tx := fun env G => (a env G).bind fun c G1 => if c then .ok true G1 else b env G1
def mNot (a : Tx) : Tx := fun env G => (a env G).bind fun c G1 => .ok (!c) G1
variable {a b : Expr} {rest : List Expr} {ta tb : Tx} {ma mb : Ex} {pos : Pos}
theorem wm_1 {op} (h : PTm X W a ta) (e : ∀ {t}, PT X a t → PW X (.BoolOp op [a] pos) t) : PWm X W (.BoolOp op [a] pos) ta := e h
theorem wm_and1 (h : PTm X W a ta) : PWm X W (.BoolOp .And [a] pos) ta := pw_and1 h
theorem wm_or1 (h : PTm X W a ta) : PWm X W (.BoolOp .Or [a] pos) ta := pw_or1 h
theorem wm_and (ha : PTm X W a ta) (hb : PWm X W (.BoolOp .And (b :: rest) pos) tb) : PWm X W (.BoolOp .And (a :: b :: rest) pos) (mAnd ta tb) :=
  PW.imp (pw_and ha hb) fun σ H Q ⟨F, ro, G, env, ok, ev, h⟩ => by
    refine ⟨F, ro, G, env, ok, ev, (PostB (R := RB) h).imp fun c H1 ⟨F1, ro1, d1, G1, n1, ok1, r1, h1⟩ => ?_⟩
    cases r1
    cases c
    · exact iteF (h1.ok ok1 rfl)
    · exact iteT ⟨F1, ro1, G1, env, ok1, ev.nx n1, h1⟩
theorem wm_or (ha : PTm X W a ta) (hb : PWm X W (.BoolOp .Or (b :: rest) pos) tb) : PWm X W (.BoolOp .Or (a :: b :: rest) pos) (mOr ta tb) :=
  PW.imp (pw_or ha hb) fun σ H Q ⟨F, ro, G, env, ok, ev, h⟩ => by
    refine ⟨F, ro, G, env, ok, ev, (PostB (R := RB) h).imp fun c H1 ⟨F1, ro1, d1, G1, n1, ok1, r1, h1⟩ => ?_⟩
    cases r1
    cases c
    · exact iteF ⟨F1, ro1, G1, env, ok1, ev.nx n1, h1⟩
    · exact iteT (h1.ok ok1 rfl)
theorem tm_w (h : PWm X W a ta) : PTm X W a ta := h.pt
theorem tm_not (ha : PTm X W a ta) : PTm X W (.UnaryOp .Not a pos) (mNot ta) :=
  PT.imp (pt_not ha) fun σ H Q ⟨F, ro, G, env, ok, ev, h⟩ => by
    refine ⟨F, ro, G, env, ok, ev, (PostB (R := RB) h).imp fun c H1 ⟨F1, ro1, d1, G1, n1, ok1, r1, h1⟩ => ?_⟩
    cases r1
    exact h1.ok ok1 rfl
def mIf (t : Tx) (a b : Ex) : Ex := fun env G => (t env G).bind fun c G1 => if c then a env G1 else b env G1
theorem em_if {c : Expr} {tc : Tx} (hc : PTm X W c tc) (ha : PEm X W a ma) (hb : PEm X W b mb) : PEm X W (.IfExp c a b pos) (mIf tc ma mb) :=
  PE.imp (pe_ifExp hc ha hb) fun σ H Q ⟨F, ro, G, env, ok, ev, h⟩ => by
    refine ⟨F, ro, G, env, ok, ev, (PostB (R := RB) h).imp fun c H1 ⟨F1, ro1, d1, G1, n1, ok1, r1, h1⟩ => ?_⟩
    cases r1
    cases c
    · exact iteF ⟨F1, ro1, G1, env, ok1, ev.nx n1, h1⟩
    · exact iteT ⟨F1, ro1, G1, env, ok1, ev.nx n1, h1⟩
/-- and, or, not as values -/
def mAndV (a b : Ex) : Ex := fun env G => (a env G).bind fun d G1 => match d with
  | .bl true => b env G1
  | .bl false => .ok (.bl false) G1
  | _ => .bad
def mOrV (a b : Ex) : Ex := fun env G => (a env G).bind fun d G1 => match d with
  | .bl true => .ok (.bl true) G1
  | .bl false => b env G1
  | _ => .bad
def mNotV (a : Ex) : Ex := fun env G => (a env G).bind fun d G1 => match d with
  | .bl b => .ok (.bl (!b)) G1
  | _ => .bad
theorem em_one {op} (h : PEm X W a ma) : PEm X W (.BoolOp op [a] pos) ma := pe_one h
theorem em_and (ha : PEm X W a ma) (hb : PEm X W (.BoolOp .And (b :: rest) pos) mb) : PEm X W (.BoolOp .And (a :: b :: rest) pos) (mAndV ma mb) :=
  PE.imp (pe_and ha hb) fun σ H Q ⟨F, ro, G, env, ok, ev, h⟩ => by
    refine ⟨F, ro, G, env, ok, ev, (PostB (R := RD (ct X)) h).imp fun c H1 ⟨F1, ro1, d1, G1, n1, ok1, r1, h1⟩ => ?_⟩
    cases r1 with
    | bl b =>
      cases b
      · exact ⟨false, rfl, iteF (h1.ok ok1 (.bl _))⟩
      · exact ⟨true, rfl, iteT ⟨F1, ro1, G1, env, ok1, ev.nx n1, h1⟩⟩
    | _ => exact h1.elim
theorem em_or (ha : PEm X W a ma) (hb : PEm X W (.BoolOp .Or (b :: rest) pos) mb) : PEm X W (.BoolOp .Or (a :: b :: rest) pos) (mOrV ma mb) :=
  PE.imp (pe_or ha hb) fun σ H Q ⟨F, ro, G, env, ok, ev, h⟩ => by
    refine ⟨F, ro, G, env, ok, ev, (PostB (R := RD (ct X)) h).imp fun c H1 ⟨F1, ro1, d1, G1, n1, ok1, r1, h1⟩ => ?_⟩
    cases r1 with
    | bl b =>
      cases b
      · exact ⟨false, rfl, iteF ⟨F1, ro1, G1, env, ok1, ev.nx n1, h1⟩⟩
      · exact ⟨true, rfl, iteT (h1.ok ok1 (.bl _))⟩
    | _ => exact h1.elim
theorem em_not (ha : PEm X W a ma) : PEm X W (.UnaryOp .Not a pos) (mNotV ma) :=
  PE.imp (pe_not ha) fun σ H Q ⟨F, ro, G, env, ok, ev, h⟩ => by
    refine ⟨F, ro, G, env, ok, ev, (PostB (R := RD (ct X)) h).imp fun c H1 ⟨F1, ro1, d1, G1, n1, ok1, r1, h1⟩ => ?_⟩
    cases r1 with
    | bl b => exact ⟨b, rfl, h1.ok ok1 (.bl _)⟩
    | _ => exact h1.elim

/-! ### arguments, displays -/
def mNil : Ax := fun _ G => .ok [] G
def mCons (a : Ex) (r : Ax) : Ax := fun env G => (a env G).bind fun d G1 => (r env G1).bind fun ds G2 => .ok (d :: ds) G2
theorem am_nil : PAm X W [] mNil := PA.imp pa_nil fun σ H Q ⟨F, ro, G, env, ok, ev, h⟩ => Post.ok (v := []) ok h .nil
theorem am_cons {e : Expr} {es : List Expr} {me : Ex} {mr : Ax} (ha : PEm X W e me) (hr : PAm X W es mr) (hs : starEach (e :: es) X.env = (false, eval e X.env) :: starEach es X.env := by rfl) : PAm X W (e :: es) (mCons me mr) :=
  PA.imp (pa_cons ha hr hs) fun σ H Q ⟨F, ro, G, env, ok, ev, h⟩ => by
    refine ⟨F, ro, G, env, ok, ev, (PostB (R := RD (ct X)) h).imp fun v H1 ⟨F1, ro1, d1, G1, n1, ok1, r1, h1⟩ => ?_⟩
    refine ⟨F1, ro1, G1, env, ok1, ev.nx n1, (PostB (R := RA (ct X)) h1).imp fun v2 H2 ⟨F2, ro2, d2, G2, n2, ok2, r2, h2⟩ => ?_⟩
    exact h2.ok ok2 (.cons (r1.nx n2) r2)
def mTup (a : Ax) : Ex := fun env G => (a env G).bind fun ds G1 => if ds.length ≤ sizeLine then .ok (.tup ds) G1 else .bad
/-- a list display as a tree that never changes; as a cell -/
def mLstF (a : Ax) : Ex := fun env G => (a env G).bind fun ds G1 => if ds.length ≤ sizeLine then .ok (.lst ds) G1 else .bad
def mLstC (a : Ax) : Ex := fun env G => (a env G).bind fun ds G1 => if ds.length ≤ sizeLine then .ok (.cel G1.length) (G1 ++ [.lst ds]) else .bad
theorem Reps.length {Z : Ct} {F : Hp} {ro : List Addr} : ∀ {xs : List D} {vs : List V}, Reps Z F ro xs vs → xs.length = vs.length
  | _, _, .nil => rfl
  | _, _, .cons _ r => by simp [Reps.length r]
theorem post_newF {R : Hp → List Addr → D → V → Prop} {Z : Ct} {F H : Hp} {ro : List Addr} {G : Gp} {σ : L2.St} {Q : VK} {d : D} {o : HO} {p : Addr} (ok : Ok Z F ro H G) (h : Post Z W R F ro H σ Q (.ok d G)) (hp : H p = none)
    (r : R (upd F p o) ro d (.ref p)) : Q (.ref p) (upd H p o) := let ⟨a, b⟩ := ok.newF o hp; h _ _ _ _ b a r
theorem post_newC {R : Hp → List Addr → D → V → Prop} {Z : Ct} {F H : Hp} {ro : List Addr} {G : Gp} {σ : L2.St} {Q : VK} {d : D} {ob : Ob} {o : HO} {p : Addr} (ok : Ok Z F ro H G) (h : Post Z W R F ro H σ Q (.ok d (G ++ [ob]))) (hp : H p = none)
    (c : CellIs Z F ro ob (some o)) (r : R F (ro ++ [p]) d (.ref p)) : Q (.ref p) (upd H p o) := let ⟨a, b⟩ := ok.newC hp c; h _ _ _ _ b a r
theorem Ok.last {Z : Ct} {F H : Hp} {ro : List Addr} {G : Gp} (ok : Ok Z F ro H G) (p : Addr) : (ro ++ [p])[G.length]? = some p := by rw [← ok.len]; simp
theorem tup_new {Z : Ct} {F H : Hp} {ro : List Addr} {G : Gp} (ok : Ok Z F ro H G) {p : Addr} (hp : H p = none) {ds : List D} {vs : List V} (r : Reps Z F ro ds vs) : Rep Z (upd F p (.tup vs)) ro (.tup ds) (.ref p) :=
  .tup (SqT.of upd_same) (r.mono (same_upd (ok.free hp).1) fun _ _ z => z)
theorem lst_new {Z : Ct} {F H : Hp} {ro : List Addr} {G : Gp} (ok : Ok Z F ro H G) {p : Addr} (hp : H p = none) {ds : List D} {vs : List V} (r : Reps Z F ro ds vs) : Rep Z (upd F p (.lst vs)) ro (.lst ds) (.ref p) :=
  .lst upd_same (r.mono (same_upd (ok.free hp).1) fun _ _ z => z)
variable {es : List Expr} {mr : Ax}
theorem em_tup {x1} (h : PAm X W es mr) : PEm X W (.Tuple es x1 pos) (mTup mr) := PE.imp (pe_tup h) fun σ H Q ⟨F, ro, G, env, ok, ev, h⟩ => by
  refine ⟨F, ro, G, env, ok, ev, (PostB (R := RA (ct X)) h).imp fun v H1 ⟨F1, ro1, d1, G1, n1, ok1, r1, h1⟩ => ?_⟩
  split at h1
  · exact ⟨by rw [← Reps.length r1]; assumption, fun p hp => post_newF ok1 h1 hp (tup_new ok1 hp r1)⟩
  · exact h1.elim
theorem em_lstF (h : PAm X W es mr) : PEm X W (.List es pos) (mLstF mr) := PE.imp (pe_lst h) fun σ H Q ⟨F, ro, G, env, ok, ev, h⟩ => by
  refine ⟨F, ro, G, env, ok, ev, (PostB (R := RA (ct X)) h).imp fun v H1 ⟨F1, ro1, d1, G1, n1, ok1, r1, h1⟩ => ?_⟩
  split at h1
  · exact ⟨by rw [← Reps.length r1]; assumption, fun p hp => post_newF ok1 h1 hp (lst_new ok1 hp r1)⟩
  · exact h1.elim
theorem em_lstC (h : PAm X W es mr) : PEm X W (.List es pos) (mLstC mr) := PE.imp (pe_lst h) fun σ H Q ⟨F, ro, G, env, ok, ev, h⟩ => by
  refine ⟨F, ro, G, env, ok, ev, (PostB (R := RA (ct X)) h).imp fun v H1 ⟨F1, ro1, d1, G1, n1, ok1, r1, h1⟩ => ?_⟩
  split at h1
  · exact ⟨by rw [← Reps.length r1]; assumption, fun p hp => post_newC ok1 h1 hp (.lst r1) (.cel (ok1.last p))⟩
  · exact h1.elim
end
end Mi

set_option maxHeartbeats 4000000
/-! Mi2: operators by values: + - * // % **, order, ==, in, subscripts. -/
namespace Mi
open PySem PySem.Spec PyProof.Rows L2
section
variable {X : Cx}

/-! ### arithmetic -/
def dAdd : D → D → Gp → Out D
  | .int i, .int j, G => .ok (.int (i + j)) G
  | .str a, .str b, G => if a.length + b.length ≤ sizeLine then .ok (.str (a ++ b)) G else .bad
  | .tup xs, .tup ys, G => if xs.length + ys.length ≤ sizeLine then .ok (.tup (xs ++ ys)) G else .bad
  | x, y, G => match lstOf G x, lstOf G y with
    | some xs, some ys => if xs.length + ys.length ≤ sizeLine then .ok (.lst (xs ++ ys)) G else .bad
    | _, _ => .bad
def dSub : D → D → Gp → Out D
  | .int i, .int j, G => .ok (.int (i - j)) G
  | _, _, _ => .bad
def dMul : D → D → Gp → Out D
  | .int i, .int j, G => if (-(2 ^ 64) < i ∧ i < 2 ^ 64) ∨ (-(2 ^ 64) < j ∧ j < 2 ^ 64) then .ok (.int (i * j)) G else .bad
  | _, _, _ => .bad
def dDiv : D → D → Gp → Out D
  | .int i, .int j, G => if 0 < j ∧ j < 1073741824 then .ok (.int (i / j)) G else .bad
  | _, _, _ => .bad
def dMod : D → D → Gp → Out D
  | .int i, .int j, G => if 0 < j then .ok (.int (i % j)) G else .bad
  | _, _, _ => .bad
def dPow : D → D → Gp → Out D
  | .int i, .int j, G => if 0 ≤ j ∧ j ≤ 1000000 ∧ i.natAbs < 2 ^ 64 then .ok (.int (i ^ j.toNat)) G else .bad
  | _, _, _ => .bad
theorem Reps.append {Z : Ct} {F : Hp} {ro : List Addr} : ∀ {xs ys : List D} {vs ws : List V}, Reps Z F ro xs vs → Reps Z F ro ys ws → Reps Z F ro (xs ++ ys) (vs ++ ws)
  | _, _, _, _, .nil, s => s
  | _, _, _, _, .cons a r, s => .cons a (Reps.append r s)
theorem Reps.nil_iff {Z : Ct} {F : Hp} {ro : List Addr} {xs : List D} {vs : List V} (r : Reps Z F ro xs vs) : vs = [] ↔ xs = [] := by cases r <;> simp
abbrev rAddA (K : PySem.W.Frag) : L2.R2 := fun x y H Q => (rI0 fun i j => .int (i + j)) x y H Q ∨ (fun x y H Q => (∃ i j, x = .str i ∧ y = .str j ∧ i.length + j.length ≤ sizeLine ∧ Q (.str (i ++ j)) H) ∨ (fun x y H Q => rCatA K x y H Q ∨ rCat x y H Q) x y H Q) x y H Q
theorem op_addA : OpR X (binaryOp .Add) (rAddA X.K) := op_add.or (op_add_str.or (op_catA.or op_cat))
theorem ok_add : R2Ok X (rAddA X.K) dAdd := by
  intro W F ro H G x y vx vy σ Q ok rx ry h
  have lists : (match lstOf G x, lstOf G y with
      | some xs, some ys => if xs.length + ys.length ≤ sizeLine then Out.ok (D.lst (xs ++ ys)) G else Out.bad
      | _, _ => Out.bad) = dAdd x y G → rAddA X.K vx vy H Q := by
    intro e
    rw [← e] at h
    cases e1 : lstOf G x with
    | none => rw [e1] at h; exact h.elim
    | some xs =>
      cases e2 : lstOf G y with
      | none => rw [e1, e2] at h; exact h.elim
      | some ys =>
        rw [e1, e2] at h
        simp only at h
        split at h
        · obtain ⟨a, vs, rfl, ha, q1⟩ := lstOf_ok ok rx e1
          obtain ⟨b, ws, rfl, hb, q2⟩ := lstOf_ok ok ry e2
          exact .inr (.inr (.inr ⟨a, b, vs, ws, rfl, rfl, ha, hb, by rw [← Reps.length q1, ← Reps.length q2]; assumption, fun p hp => post_newF ok h hp (lst_new ok hp (q1.append q2))⟩))
        · exact h.elim
  have rx' := rx
  have ry' := ry
  cases rx with
  | int i =>
    cases ry with
    | int j => exact .inl ⟨i, j, rfl, rfl, h.ok ok (.int _)⟩
    | _ => first | exact h.elim | exact lists rfl
  | str a =>
    cases ry with
    | str b =>
      simp only [dAdd] at h
      split at h
      · exact .inr (.inl ⟨a, b, rfl, rfl, by assumption, h.ok ok (.str _)⟩)
      · exact h.elim
    | _ => first | exact h.elim | exact lists rfl
  | tup e1 q1 =>
    cases ry with
    | tup e2 q2 =>
      rename_i a vs ds b ws es
      simp only [dAdd] at h
      split at h
      · refine .inr (.inr (.inl ⟨a, b, vs, ws, rfl, rfl, SqT.up ok.sub e1, SqT.up ok.sub e2, by rw [← Reps.length q1, ← Reps.length q2]; assumption, fun z => ?_, fun _ z => ?_, fun _ _ p hp => ?_⟩))
        · have z' := q1.nil_iff.mp z
          subst z'
          exact h.ok ok ry'
        · have z' := q2.nil_iff.mp z
          subst z'
          rw [List.append_nil] at h
          exact h.ok ok rx'
        · exact post_newF ok h hp (tup_new ok hp (q1.append q2))
      · exact h.elim
    | _ => first | exact h.elim | exact lists rfl
  | _ => cases ry <;> first | exact h.elim | exact lists rfl
theorem ok_int {f : D → D → Gp → Out D} {C : Int → Int → Prop} {g : Int → Int → V} {g' : Int → Int → D} [∀ i j, Decidable (C i j)] (hg : ∀ (Z : Ct) F ro i j, Rep Z F ro (g' i j) (g i j)) (hf : ∀ i j G, f (.int i) (.int j) G = if C i j then .ok (g' i j) G else .bad)
    (h0 : ∀ x y G, (∀ i j, ¬ (x = .int i ∧ y = .int j)) → f x y G = .bad) : R2Ok X (rI C g) f := by
  intro W F ro H G x y vx vy σ Q ok rx ry h
  by_cases c : ∃ i j, x = D.int i ∧ y = D.int j
  · obtain ⟨i, j, rfl, rfl⟩ := c
    cases rx
    cases ry
    rw [hf] at h
    split at h
    · exact ⟨i, j, rfl, rfl, by assumption, h.ok ok (hg _ _ _ i j)⟩
    · exact h.elim
  · rw [h0 x y G fun i j z => c ⟨i, j, z⟩] at h
    exact h.elim
theorem ok_int0 {f : D → D → Gp → Out D} {g : Int → Int → V} {g' : Int → Int → D} (hg : ∀ (Z : Ct) F ro i j, Rep Z F ro (g' i j) (g i j)) (hf : ∀ i j G, f (.int i) (.int j) G = .ok (g' i j) G)
    (h0 : ∀ x y G, (∀ i j, ¬ (x = .int i ∧ y = .int j)) → f x y G = .bad) : R2Ok X (rI0 g) f := by
  intro W F ro H G x y vx vy σ Q ok rx ry h
  by_cases c : ∃ i j, x = D.int i ∧ y = D.int j
  · obtain ⟨i, j, rfl, rfl⟩ := c
    cases rx
    cases ry
    rw [hf] at h
    exact ⟨i, j, rfl, rfl, h.ok ok (hg _ _ _ i j)⟩
  · rw [h0 x y G fun i j z => c ⟨i, j, z⟩] at h
    exact h.elim
theorem ok_sub : R2Ok X (rI0 fun i j => .int (i - j)) dSub := ok_int0 (fun _ _ _ _ _ => .int _) (fun _ _ _ => rfl) fun x y G h => by
  cases x <;> cases y <;> first | rfl | exact absurd ⟨rfl, rfl⟩ (h _ _)
theorem ok_mul : R2Ok X (rI CMul fun i j => .int (i * j)) dMul := by
  haveI : ∀ i j, Decidable (CMul i j) := fun i j => by unfold CMul; infer_instance
  refine ok_int (fun _ _ _ _ _ => .int _) (fun i j G => ?_) fun x y G h => ?_
  · show (if _ then _ else _) = _
    unfold CMul
    congr
  · cases x <;> cases y <;> first | rfl | exact absurd ⟨rfl, rfl⟩ (h _ _)
theorem ok_div : R2Ok X (rI CDiv fun i j => .int (i / j)) dDiv := by
  haveI : ∀ i j, Decidable (CDiv i j) := fun i j => by unfold CDiv; infer_instance
  refine ok_int (fun _ _ _ _ _ => .int _) (fun i j G => ?_) fun x y G h => ?_
  · show (if _ then _ else _) = _
    unfold CDiv
    congr
  · cases x <;> cases y <;> first | rfl | exact absurd ⟨rfl, rfl⟩ (h _ _)
theorem ok_mod : R2Ok X (rI (fun _ j => 0 < j) fun i j => .int (i % j)) dMod := by
  refine ok_int (fun _ _ _ _ _ => .int _) (fun i j G => rfl) fun x y G h => ?_
  cases x <;> cases y <;> first | rfl | exact absurd ⟨rfl, rfl⟩ (h _ _)
theorem ok_pow : R2Ok X (rI CPow fun i j => .int (i ^ j.toNat)) dPow := by
  haveI : ∀ i j, Decidable (CPow i j) := fun i j => by unfold CPow; infer_instance
  refine ok_int (fun _ _ _ _ _ => .int _) (fun i j G => ?_) fun x y G h => ?_
  · show (if _ then _ else _) = _
    unfold CPow
    congr
  · cases x <;> cases y <;> first | rfl | exact absurd ⟨rfl, rfl⟩ (h _ _)

/-! ### order of ints -/
def dLt : D → D → Gp → Out D
  | .int i, .int j, G => .ok (.bl (decide (i < j))) G
  | _, _, _ => .bad
def dLe : D → D → Gp → Out D
  | .int i, .int j, G => .ok (.bl (decide (i ≤ j))) G
  | _, _, _ => .bad
def dGt : D → D → Gp → Out D
  | .int i, .int j, G => .ok (.bl (decide (j < i))) G
  | _, _, _ => .bad
def dGe : D → D → Gp → Out D
  | .int i, .int j, G => .ok (.bl (decide (j ≤ i))) G
  | _, _, _ => .bad
theorem ok_lt : R2Ok X (rI0 fun i j => .bl (decide (i < j))) dLt := ok_int0 (fun _ _ _ _ _ => .bl _) (fun _ _ _ => rfl) fun x y G h => by
  cases x <;> cases y <;> first | rfl | exact absurd ⟨rfl, rfl⟩ (h _ _)
theorem ok_le : R2Ok X (rI0 fun i j => .bl (decide (i ≤ j))) dLe := ok_int0 (fun _ _ _ _ _ => .bl _) (fun _ _ _ => rfl) fun x y G h => by
  cases x <;> cases y <;> first | rfl | exact absurd ⟨rfl, rfl⟩ (h _ _)
theorem ok_gt : R2Ok X (rI0 fun i j => .bl (decide (j < i))) dGt := ok_int0 (fun _ _ _ _ _ => .bl _) (fun _ _ _ => rfl) fun x y G h => by
  cases x <;> cases y <;> first | rfl | exact absurd ⟨rfl, rfl⟩ (h _ _)
theorem ok_ge : R2Ok X (rI0 fun i j => .bl (decide (j ≤ i))) dGe := ok_int0 (fun _ _ _ _ _ => .bl _) (fun _ _ _ => rfl) fun x y G h => by
  cases x <;> cases y <;> first | rfl | exact absurd ⟨rfl, rfl⟩ (h _ _)

/-! ### is None -/
def dIsN : D → D → Gp → Out D
  | .non, .non, G => .ok (.bl true) G
  | _, .non, G => .ok (.bl false) G
  | _, _, _ => .bad
def dNotN : D → D → Gp → Out D
  | .non, .non, G => .ok (.bl false) G
  | _, .non, G => .ok (.bl true) G
  | _, _, _ => .bad
theorem ok_isN : R2Ok X (fun x y H Q => y = .non ∧ Q (.bl (decide (x = .non))) H) dIsN := by
  intro W F ro H G x y vx vy σ Q ok rx ry h
  cases ry with
  | non => refine ⟨rfl, ?_⟩; cases rx <;> exact h.ok ok (.bl _)
  | _ => cases rx <;> exact h.elim
theorem ok_notN : R2Ok X (fun x y H Q => y = .non ∧ Q (.bl (!decide (x = .non))) H) dNotN := by
  intro W F ro H G x y vx vy σ Q ok rx ry h
  cases ry with
  | non => refine ⟨rfl, ?_⟩; cases rx <;> exact h.ok ok (.bl _)
  | _ => cases rx <;> exact h.elim

/-! ### == of data -/
mutual
/-- a tree as data -/
def pd : D → Option PyData
  | .non => some .none
  | .bl b => some (.bool b)
  | .int i => some (.int i)
  | .str x => some (.str x)
  | .tup xs => (pds xs).map .tuple
  | .lst xs => (pds xs).map .list
  | .scr xs => (pds xs).map .list
  | _ => none
def pds : List D → Option (List PyData)
  | [] => some []
  | d :: ds => match pd d, pds ds with
    | some x, some xs => some (x :: xs)
    | _, _ => none
end
/-- a cell's content -/
def res (G : Gp) : D → D
  | .cel n => (match G[n]? with
    | some (.lst xs) => .lst xs
    | some (.dct xs) => .dct xs
    | some (.ins c fs) => .ins c fs
    | some (.frz d) => d
    | some (.lck xs) => .dct xs
    | none => .cel n)
  | d => d
section
variable {Z : Ct} {F H : Hp} {ro : List Addr} {G : Gp}
mutual
theorem pd_ok (s : Same F H) : ∀ {d : D} {v : V} {p : PyData}, Rep Z F ro d v → pd d = some p → Dp Z.K H v p
  | _, _, _, .non, h => by simp only [pd] at h; cases h; exact .non
  | _, _, _, .bl b, h => by simp only [pd] at h; cases h; exact .bl b
  | _, _, _, .int b, h => by simp only [pd] at h; cases h; exact .int b
  | _, _, _, .str b, h => by simp only [pd] at h; cases h; exact .str b
  | _, _, _, .tup e r, h => by
    simp only [pd, Option.map_eq_some_iff] at h
    obtain ⟨ps, h1, rfl⟩ := h
    exact .tup (SqT.up s e) (pds_ok s r h1)
  | _, _, _, .lst e r, h => by
    simp only [pd, Option.map_eq_some_iff] at h
    obtain ⟨ps, h1, rfl⟩ := h
    exact .lst (SqL.of (s _ _ e)) (pds_ok s r h1)
  | _, _, _, .scr e r, h => by
    simp only [pd, Option.map_eq_some_iff] at h
    obtain ⟨ps, h1, rfl⟩ := h
    exact .lst (s.seq e) (pds_ok s r h1)
  | _, _, _, .ty _, h => by simp [pd] at h
  | _, _, _, .gl _, h => by simp [pd] at h
  | _, _, _, .dct _ _, h => by simp [pd] at h
  | _, _, _, .dck _ _ _, h => by simp [pd] at h
  | _, _, _, .ins _ _ _, h => by simp [pd] at h
  | _, _, _, .cel _, h => by simp [pd] at h
theorem pds_ok (s : Same F H) : ∀ {d : List D} {v : List V} {p : List PyData}, Reps Z F ro d v → pds d = some p → DpAll Z.K H v p
  | _, _, _, .nil, h => by simp only [pds] at h; cases h; exact .nil
  | _, _, _, .cons (d := d) (ds := ds) r rs, h => by
    simp only [pds] at h
    cases e1 : pd d with
    | none => rw [e1] at h; cases h
    | some x =>
      cases e2 : pds ds with
      | none => rw [e1, e2] at h; cases h
      | some xs =>
        rw [e1, e2] at h
        cases h
        exact .cons (pd_ok s r e1) (pds_ok s rs e2)
end
theorem res_ok (ok : Ok Z F ro H G) {d : D} {v : V} {p : PyData} (r : Rep Z F ro d v) (h : pd (res G d) = some p) : Dp Z.K H v p := by
  have r' := r
  cases r with
  | @cel n a e =>
    obtain ⟨ob, ho⟩ := ok.cell_in e
    simp only [res, ho] at h
    rcases ok.cell n ob a ho e with ⟨d, rfl, rd, q⟩ | ⟨q, c⟩
    · exact pd_ok ok.sub rd h
    · generalize eH : H a = oh at c
      cases c with
      | lst q =>
        simp only [pd, Option.map_eq_some_iff] at h
        obtain ⟨ps, h1, rfl⟩ := h
        exact .lst (SqL.of eH) (pds_ok ok.sub q h1)
      | _ => simp [pd] at h
  | _ => exact pd_ok ok.sub r' h
end
def dScal : D → D → Option Bool
  | .non, .non => some true | .non, .int _ => some false | .int _, .non => some false | .non, .bl _ => some false | .bl _, .non => some false | .non, .str _ => some false | .str _, .non => some false
  | .int i, .int j => some (decide (i = j)) | .bl i, .bl j => some (i == j) | .str i, .str j => some (decide (i = j))
  | .int _, .str _ => some false | .str _, .int _ => some false | .bl _, .str _ => some false | .str _, .bl _ => some false
  | _, _ => none
def dEqB (G : Gp) (x y : D) : Option Bool := match dScal x y with
  | some b => some b
  | none => match pd (res G x), pd (res G y) with
    | some d, some e => if SeqAt.shaped d = true ∧ SeqAt.shaped e = true then some (PyData.eqv d e) else none
    | _, _ => none
def dEq (x y : D) (G : Gp) : Out D := match dEqB G x y with
  | some b => .ok (.bl b) G
  | none => .bad
def dNe (x y : D) (G : Gp) : Out D := match dEqB G x y with
  | some b => .ok (.bl (!b)) G
  | none => .bad
theorem dScal_ok {Z : Ct} {F : Hp} {ro : List Addr} {x y : D} {vx vy : V} {b : Bool} (rx : Rep Z F ro x vx) (ry : Rep Z F ro y vy) (h : dScal x y = some b) : scal vx vy = true ∧ decide (vx = vy) = b := by
  cases rx <;> cases ry <;> simp only [dScal, reduceCtorEq] at h <;> (have h := Option.some.inj h) <;> subst h <;> refine ⟨rfl, ?_⟩ <;> first | (simp; done) | (rename_i a b; cases a <;> cases b <;> rfl)
abbrev rEqA (K : PySem.W.Frag) : L2.R2 := fun x y H Q => rEq x y H Q ∨ rEqD K x y H Q
abbrev rNeA (K : PySem.W.Frag) : L2.R2 := fun x y H Q => rNe x y H Q ∨ rNeD K x y H Q
theorem op_eqA (hu : X.A.units + 64 < cLine) : OpR X (compareOp .Eq) (rEqA X.K) := op_eq.or (op_eqD hu)
theorem op_neA (hu : X.A.units + 64 < cLine) : OpR X (compareOp .NotEq) (rNeA X.K) := op_ne.or (op_neD hu)
theorem ok_eq : R2Ok X (rEqA X.K) dEq := by
  intro W F ro H G x y vx vy σ Q ok rx ry h
  unfold dEq dEqB at h
  cases e : dScal x y with
  | some b =>
    rw [e] at h
    obtain ⟨h1, h2⟩ := dScal_ok rx ry e
    exact .inl ⟨h1, by rw [h2]; exact h.ok ok (.bl b)⟩
  | none =>
    rw [e] at h
    cases e1 : pd (res G x) with
    | none => rw [e1] at h; exact h.elim
    | some d =>
      cases e2 : pd (res G y) with
      | none => rw [e1, e2] at h; exact h.elim
      | some d2 =>
        rw [e1, e2] at h
        simp only at h
        split at h
        · rename_i b hb
          split at hb
          · rename_i hs
            cases hb
            exact .inr ⟨d, d2, res_ok ok rx e1, res_ok ok ry e2, hs.1, hs.2, h.ok ok (.bl _)⟩
          · cases hb
        · exact h.elim
theorem ok_ne : R2Ok X (rNeA X.K) dNe := by
  intro W F ro H G x y vx vy σ Q ok rx ry h
  unfold dNe dEqB at h
  cases e : dScal x y with
  | some b =>
    rw [e] at h
    obtain ⟨h1, h2⟩ := dScal_ok rx ry e
    exact .inl ⟨h1, by rw [h2]; exact h.ok ok (.bl _)⟩
  | none =>
    rw [e] at h
    cases e1 : pd (res G x) with
    | none => rw [e1] at h; exact h.elim
    | some d =>
      cases e2 : pd (res G y) with
      | none => rw [e1, e2] at h; exact h.elim
      | some d2 =>
        rw [e1, e2] at h
        simp only at h
        split at h
        · rename_i b hb
          split at hb
          · rename_i hs
            cases hb
            exact .inr ⟨d, d2, res_ok ok rx e1, res_ok ok ry e2, hs.1, hs.2, h.ok ok (.bl _)⟩
          · cases hb
        · exact h.elim

/-! ### in -/
def seqOf (G : Gp) : D → Option (List D)
  | .tup xs => some xs
  | .scr xs => some xs
  | d => lstOf G d
theorem seqOf_ok {Z : Ct} {F H : Hp} {ro : List Addr} {G : Gp} (ok : Ok Z F ro H G) {d : D} {v : V} {xs : List D} (r : Rep Z F ro d v) (h : seqOf G d = some xs) : ∃ a vs, v = .ref a ∧ (SqL Z.K H a vs ∨ SqT Z.K H a vs) ∧ Reps Z F ro xs vs := by
  have r' := r
  have other : lstOf G d = some xs → ∃ a vs, v = .ref a ∧ (SqL Z.K H a vs ∨ SqT Z.K H a vs) ∧ Reps Z F ro xs vs := fun e =>
    let ⟨a, vs, h1, h2, h3⟩ := lstOf_ok ok r' e
    ⟨a, vs, h1, .inl (SqL.of h2), h3⟩
  cases r with
  | tup e q => simp only [seqOf] at h; cases h; exact ⟨_, _, rfl, .inr (SqT.up ok.sub e), q⟩
  | scr e q => simp only [seqOf] at h; cases h; exact ⟨_, _, rfl, .inl (ok.sub.seq e), q⟩
  | _ => exact other h
def flatD : D → Bool
  | .non => true
  | .bl _ => true
  | .int _ => true
  | .str _ => true
  | _ => false
def eqF : D → D → Bool
  | .non, .non => true
  | .bl a, .bl b => a == b
  | .bl a, .int b => (if a then 1 else 0) == b
  | .int a, .bl b => a == (if b then 1 else 0)
  | .int a, .int b => a == b
  | .str a, .str b => a == b
  | _, _ => false
def inD (x : D) (xs : List D) : Bool := xs.any fun y => eqF y x
theorem flat_rep {Z : Ct} {F : Hp} {ro : List Addr} {d : D} {v : V} (r : Rep Z F ro d v) (h : flatD d = true) : flatV v = true := by cases r <;> first | rfl | exact h
theorem eqF_rep {Z : Ct} {F : Hp} {ro : List Addr} {d e : D} {v u : V} (r : Rep Z F ro d v) (q : Rep Z F ro e u) (h : flatD d = true) (h2 : flatD e = true) : eqF d e = eqV v u := by
  cases r <;> cases q <;> first | rfl | exact absurd h (by simp [flatD]) | exact absurd h2 (by simp [flatD])
theorem flats_rep {Z : Ct} {F : Hp} {ro : List Addr} : ∀ {ds : List D} {vs : List V}, Reps Z F ro ds vs → ds.all flatD = true → vs.all flatV = true
  | _, _, .nil, _ => rfl
  | _, _, .cons r rs, h => by
    simp only [List.all_cons, Bool.and_eq_true] at h ⊢
    exact ⟨flat_rep r h.1, flats_rep rs h.2⟩
theorem inD_rep {Z : Ct} {F : Hp} {ro : List Addr} {x : D} {v : V} (r : Rep Z F ro x v) (hx : flatD x = true) : ∀ {ds : List D} {vs : List V}, Reps Z F ro ds vs → ds.all flatD = true → inD x ds = inV v vs
  | _, _, .nil, _ => rfl
  | _, _, .cons q rs, h => by
    simp only [List.all_cons, Bool.and_eq_true] at h
    have ih := inD_rep r hx rs h.2
    unfold inD inV at ih ⊢
    rw [List.any_cons, List.any_cons, ih, eqF_rep q r h.1 hx]
def keyOf : D → Option Key
  | .int i => some (.inl i)
  | .str x => some (.inr x)
  | _ => none
def getK {α : Type} (kvs : List (Key × α)) (k : Key) : Option α := (kvs.find? fun kv => decide (kv.1 = k)).map (·.2)
def subStr (x y : Str) : Bool := !(Builtin.Str.occurrences y x 0 y.length 1).isEmpty
def dInB (G : Gp) (x y : D) : Option Bool := match seqOf G y with
  | some ys => if flatD x = true ∧ ys.all flatD = true then some (inD x ys) else none
  | none => match x, y with
    | .str a, .str b => some (subStr a b)
    | .str a, .dck kvs => some (kvs.lookup a).isSome
    | x, y => match keyOf x, dctOf G y with
      | some k, some kvs => some (getK kvs k).isSome
      | _, _ => none
def dIn (x y : D) (G : Gp) : Out D := match dInB G x y with
  | some b => .ok (.bl b) G
  | none => .bad
def dNin (x y : D) (G : Gp) : Out D := match dInB G x y with
  | some b => .ok (.bl (!b)) G
  | none => .bad
theorem key_rep {Z : Ct} {F : Hp} {ro : List Addr} {d : D} {v : V} {k : Key} (r : Rep Z F ro d v) (h : keyOf d = some k) : v = kV k := by
  cases r <;> simp only [keyOf, reduceCtorEq] at h <;> cases h <;> rfl
theorem getK_rep {Z : Ct} {F : Hp} {ro : List Addr} (k : Key) : ∀ {ds : List (Key × D)} {vs : List (Key × V)}, RepK Z F ro ds vs →
    (getK ds k = none ∧ valV vs k = none) ∨ ∃ d v, getK ds k = some d ∧ valV vs k = some v ∧ Rep Z F ro d v
  | _, _, .nil => .inl ⟨rfl, rfl⟩
  | _, _, .cons (k := k') r rs => by
    by_cases e : k' = k
    · subst e
      exact .inr ⟨_, _, by simp [getK], by simp [valV], r⟩
    · have ih := getK_rep k rs
      unfold getK valV at ih ⊢
      simpa [e] using ih
theorem repN_look {Z : Ct} {F : Hp} {ro : List Addr} {a : Addr} {x : Str} : ∀ {ds : List (Str × D)} {d : D}, RepN Z F ro a ds → ds.lookup x = some d → ∃ u v, PySem.W.nsIn Z.K a x = some (some u) ∧ RelV v u ∧ Rep Z F ro d v
  | _, _, .nil, h => by simp at h
  | _, _, .cons (x := y) h1 h2 h3 r, h => by
    by_cases e : x = y
    · subst e
      simp at h
      subst h
      exact ⟨_, _, h1, h2, h3⟩
    · have e' : (x == y) = false := by simpa using e
      rw [List.lookup_cons, e'] at h
      exact repN_look r h
abbrev rKd (w : World) (K : PySem.W.Frag) (neg : Bool) : L2.R2 := fun x y H Q => ∃ d es n, KDict K w d es n ∧ ∃ (z : Str) (r : Option Value), x = .str z ∧ y = .ref d ∧ PySem.W.nsIn K d z = some r ∧ Q (.bl (if neg then !r.isSome else r.isSome)) H
theorem op_in_kdA : OpR X (compareOp .In) (rKd X.w X.K false) := by
  intro pins s σ H x y v u Q I rx ry h
  obtain ⟨d, es, n, D, q⟩ := h
  exact op_in_kd D pins s σ H x y v u Q I rx ry q
theorem op_nin_kdA : OpR X (compareOp .NotIn) (rKd X.w X.K true) := by
  intro pins s σ H x y v u Q I rx ry h
  obtain ⟨d, es, n, D, q⟩ := h
  exact op_notIn_kd D pins s σ H x y v u Q I rx ry q
abbrev rDI (neg : Bool) : L2.R2 := fun y x H Q => ∃ a o, x = .ref a ∧ DGet H a y o ∧ Q (.bl (if neg then !o.isSome else o.isSome)) H
theorem op_in_dA (hu : X.A.units + 1 < cLine) : OpR X (compareOp .In) (rDI false) := by
  intro pins s σ H x y v u Q I rx ry h
  obtain ⟨a, o, rfl, g, q⟩ := h
  cases ry
  exact d_in hu I g rx fun s' I' => ⟨.bl o.isSome, H, I', rfl, q⟩
theorem op_nin_dA (hu : X.A.units + 1 < cLine) : OpR X (compareOp .NotIn) (rDI true) := by
  intro pins s σ H x y v u Q I rx ry h
  obtain ⟨a, o, rfl, g, q⟩ := h
  cases ry
  exact d_notIn hu I g rx fun s' I' => ⟨.bl (!o.isSome), H, I', rfl, q⟩
abbrev rInS (neg : Bool) : L2.R2 := fun x y H Q => ∃ i j, x = .str i ∧ y = .str j ∧ Q (.bl (if neg then !subStr i j else subStr i j)) H
abbrev rInA (w : World) (K : PySem.W.Frag) (neg : Bool) : L2.R2 := fun x y H Q => rIn K neg x y H Q ∨ (fun x y H Q => rInS neg x y H Q ∨ (fun x y H Q => rKd w K neg x y H Q ∨ rDI neg x y H Q) x y H Q) x y H Q
theorem op_inS : OpR X (compareOp .In) (rInS false) := op_in_str
theorem op_ninS : OpR X (compareOp .NotIn) (rInS true) := op_notin_str
theorem op_inA (hu : X.A.units + 1 < cLine) : OpR X (compareOp .In) (rInA X.w X.K false) := op_in_seq.or (op_inS.or (op_in_kdA.or (op_in_dA hu)))
theorem op_ninA (hu : X.A.units + 1 < cLine) : OpR X (compareOp .NotIn) (rInA X.w X.K true) := op_notIn_seq.or (op_ninS.or (op_nin_kdA.or (op_nin_dA hu)))
theorem in_core {neg : Bool} {F H : Hp} {ro : List Addr} {G : Gp} {x y : D} {vx vy : V} {b : Bool} {Q : VK} (ok : Ok (ct X) F ro H G) (rx : Rep (ct X) F ro x vx) (ry : Rep (ct X) F ro y vy) (h : dInB G x y = some b) (q : Q (.bl (if neg then !b else b)) H) : rInA X.w X.K neg vx vy H Q := by
  unfold dInB at h
  cases e : seqOf G y with
  | some ys =>
    rw [e] at h
    simp only at h
    split at h
    · rename_i hf
      cases h
      obtain ⟨a, vs, rfl, hs, r⟩ := seqOf_ok ok ry e
      exact .inl ⟨a, vs, rfl, hs, flat_rep rx hf.1, flats_rep r hf.2, by rw [← inD_rep rx hf.1 r hf.2]; exact q⟩
    · cases h
  | none =>
    rw [e] at h
    simp only at h
    have dd : ∀ k kvs, keyOf x = some k → dctOf G y = some kvs → (getK kvs k).isSome = b → rInA X.w X.K neg vx vy H Q := fun k kvs h1 h2 h3 => by
      obtain ⟨a, vs, rfl, hv, r⟩ := dctOf_ok ok ry h2
      have ek := key_rep rx h1
      subst ek
      refine .inr (.inr (.inr ⟨a, valV vs k, rfl, .inl ⟨vs, k, hv, rfl, rfl⟩, ?_⟩))
      have : (valV vs k).isSome = b := by
        rw [← h3]
        rcases getK_rep k r with ⟨a1, a2⟩ | ⟨d, v, a1, a2, _⟩ <;> rw [a1, a2] <;> rfl
      rw [this]
      exact q
    split at h
    · cases h
      cases rx
      cases ry
      exact .inr (.inl ⟨_, _, rfl, rfl, q⟩)
    · rename_i a kvs
      cases h
      cases rx
      cases ry with
      | dck D r m =>
        rename_i ad es n
        cases el : kvs.lookup a with
        | none => exact .inr (.inr (.inl ⟨ad, es, n, D, a, none, rfl, rfl, m a el, by rw [el] at q; exact q⟩))
        | some d =>
          obtain ⟨u, v, h1, h2, h3⟩ := repN_look r el
          exact .inr (.inr (.inl ⟨ad, es, n, D, a, some u, rfl, rfl, h1, by rw [el] at q; exact q⟩))
    · split at h
      · rename_i k kvs h1 h2
        cases h
        exact dd k kvs h1 h2 rfl
      · cases h
theorem ok_in : R2Ok X (rInA X.w X.K false) dIn := by
  intro W F ro H G x y vx vy σ Q ok rx ry h
  unfold dIn at h
  cases e : dInB G x y with
  | none => rw [e] at h; exact h.elim
  | some b => rw [e] at h; exact in_core ok rx ry e (h.ok ok (.bl b))
theorem ok_nin : R2Ok X (rInA X.w X.K true) dNin := by
  intro W F ro H G x y vx vy σ Q ok rx ry h
  unfold dNin at h
  cases e : dInB G x y with
  | none => rw [e] at h; exact h.elim
  | some b => rw [e] at h; exact in_core ok rx ry e (h.ok ok (.bl _))

/-! ### subscripts -/
abbrev rIxDD : L2.R2 := fun x y H Q => ∃ a v, x = .ref a ∧ DGet H a y (some v) ∧ Q v H
theorem ix_dct (hu : X.A.units + 1 < cLine) : IxR X rIxDD := by
  intro value slice pins s σ H x y v u Q I rx ry h hs
  obtain ⟨a, z, rfl, g, q⟩ := h
  cases rx
  exact tail_any (dict_typeIs I g) slot_dict_getitem.lookup (d_getItem hu I g ry fun w' s' I' r => ⟨z, H, I', r, q⟩) hs
abbrev rIxA (w : World) (K : PySem.W.Frag) : L2.R2 := fun x y H Q => rIx K x y H Q ∨ (fun x y H Q => rIxD K w x y H Q ∨ rIxDD x y H Q) x y H Q
theorem ix_all (hu : X.A.units + 1 < cLine) : IxR X (rIxA X.w X.K) := ix_seq.or (ix_kdict.or (ix_dct hu))
/-- x[y] -/
def dIx (x y : D) (G : Gp) : Out D := match seqOf G x, y with
  | some xs, .int i => (match atI xs i with
    | some d => .ok d G
    | none => .bad)
  | some _, _ => .bad
  | none, y => match x, y with
    | .str z, .int i => if z.length ≤ sizeLine then (match atI z.cps.toList i with
      | some c => .ok (.str ⟨#[c]⟩) G
      | none => .bad) else .bad
    | .dck kvs, .str z => (match kvs.lookup z with
      | some d => .ok d G
      | none => .bad)
    | x, y => match keyOf y, dctOf G x with
      | some k, some kvs => (match getK kvs k with
        | some d => .ok d G
        | none => .bad)
      | _, _ => .bad
theorem Reps.get {Z : Ct} {F : Hp} {ro : List Addr} : ∀ {xs : List D} {vs : List V} {i : Nat} {d : D}, Reps Z F ro xs vs → xs[i]? = some d → ∃ v, vs[i]? = some v ∧ Rep Z F ro d v
  | _, _, _, _, .nil, h => by simp at h
  | _, _, 0, _, .cons r _, h => by simp at h; subst h; exact ⟨_, by simp, r⟩
  | _, _, i + 1, _, .cons _ r, h => by
    obtain ⟨v, h1, h2⟩ := Reps.get (i := i) r (by simpa using h)
    exact ⟨v, by simpa using h1, h2⟩
theorem Reps.atI {Z : Ct} {F : Hp} {ro : List Addr} {xs : List D} {vs : List V} {i : Int} {d : D} (r : Reps Z F ro xs vs) (h : L2.atI xs i = some d) : ∃ v, L2.atI vs i = some v ∧ Rep Z F ro d v := by
  unfold L2.atI at h ⊢
  rw [← Reps.length r]
  cases e : ixN xs.length i with
  | none => rw [e] at h; cases h
  | some j => rw [e] at h; exact Reps.get r h
theorem ok_ix : R2Ok X (rIxA X.w X.K) dIx := by
  intro W F ro H G x y vx vy σ Q ok rx ry h
  unfold dIx at h
  cases e : seqOf G x with
  | some xs =>
    rw [e] at h
    obtain ⟨a, vs, rfl, hs, r⟩ := seqOf_ok ok rx e
    cases ry with
    | int i =>
      simp only at h
      cases e2 : L2.atI xs i with
      | none => rw [e2] at h; exact h.elim
      | some d =>
        rw [e2] at h
        obtain ⟨v, hv, rd⟩ := r.atI e2
        rcases hs with hs | hs
        · exact .inl (.inl ⟨a, vs, i, v, rfl, rfl, hs, hv, h.ok ok rd⟩)
        · exact .inl (.inr (.inl ⟨a, vs, i, v, rfl, rfl, hs, hv, h.ok ok rd⟩))
    | _ => exact h.elim
  | none =>
    rw [e] at h
    simp only at h
    split at h
    · cases rx
      cases ry
      split at h
      · split at h
        · rename_i c hc
          exact .inl (.inr (.inr ⟨_, _, c, rfl, rfl, by assumption, hc, h.ok ok (.str _)⟩))
        · exact h.elim
      · exact h.elim
    · rename_i kvs z
      cases ry
      cases rx with
      | dck D r m =>
        split at h
        · rename_i d el
          obtain ⟨u, v, h1, h2, h3⟩ := repN_look r el
          exact .inr (.inl ⟨_, z, v, rfl, rfl, ⟨_, _, u, D.at_, D.lit, h1, h2⟩, h.ok ok h3⟩)
        · exact h.elim
    · split at h
      · rename_i k kvs h1 h2
        split at h
        · rename_i d hd
          obtain ⟨a, vs, rfl, hv, r⟩ := dctOf_ok ok rx h2
          have ek := key_rep ry h1
          subst ek
          rcases getK_rep k r with ⟨a1, a2⟩ | ⟨d', v, a1, a2, rd⟩
          · rw [a1] at hd; cases hd
          · rw [a1] at hd
            cases hd
            exact .inr (.inr ⟨a, v, rfl, by rw [← a2]; exact .inl ⟨vs, k, hv, rfl, rfl⟩, h.ok ok rd⟩)
        · exact h.elim
      · exact h.elim
theorem em_ix (hu : X.A.units + 1 < cLine) {W : WX} {a b : Expr} {ma mb : Ex} {pos : Pos} (ha : PEm X W a ma) (hb : PEm X W b mb) (hs : PlainIx b := by exact fun _ _ => rfl) : PEm X W (.Subscript a b pos) (m2 dIx ma mb) :=
  PE.imp (pe_ix (ix_all hu) ha hb hs) (t2 ok_ix)
end
end Mi

set_option maxHeartbeats 4000000
/-! Mi3: statements: blocks, stores, if, for, while. -/
namespace Mi
open PySem PySem.Spec PyProof.Rows L2

def Out.toS {α : Type} (env : Ev) (k : α → Gp → Res) : Out α → Res
  | .ok a g => k a g
  | .exc c fs g => .exc c fs env g
  | .bad => .bad
@[simp] theorem Out.toS_ok {α : Type} (env : Ev) (k : α → Gp → Res) (a : α) (g : Gp) : (Out.ok a g).toS env k = k a g := (rfl)
@[simp] theorem Out.toS_exc {α : Type} (env : Ev) (k : α → Gp → Res) (c : Str) (fs : List (Str × D)) (g : Gp) : (Out.exc c fs g : Out α).toS env k = .exc c fs env g := (rfl)
@[simp] theorem Out.toS_bad {α : Type} (env : Ev) (k : α → Gp → Res) : (Out.bad : Out α).toS env k = .bad := (rfl)
section
variable (Z : Ct) (W : WX)
def PostS (F : Hp) (ro : List Addr) (H : Hp) (D : Ends) : Res → Prop
  | .nx e G' => ∀ F' ro' H' σ', Nx F ro H F' ro' H' → Ok Z F' ro' H' G' → Evs Z F' ro' e σ' → D.nx σ' H'
  | .rt d G' => ∀ F' ro' H' v, Nx F ro H F' ro' H' → Ok Z F' ro' H' G' → Rep Z F' ro' d v → D.rt v H'
  | .bk e G' => ∀ F' ro' H' σ', Nx F ro H F' ro' H' → Ok Z F' ro' H' G' → Evs Z F' ro' e σ' → D.bk σ' H'
  | .ct e G' => ∀ F' ro' H' σ', Nx F ro H F' ro' H' → Ok Z F' ro' H' G' → Evs Z F' ro' e σ' → D.ct σ' H'
  | .exc c fs e G' => ∀ F' ro' H' σ' C dd ws, Nx F ro H F' ro' H' → Ok Z F' ro' H' G' → Evs Z F' ro' e σ' → Z.mg c = some (.ref C) → F' dd = some (.xd ws) → RepF Z F' ro' fs ws → W (.ref C) (some dd) σ' H'
  | .bad => False
def TSm (m : Sx) : TS := fun D σ H => ∃ F ro G env, Ok Z F ro H G ∧ Evs Z F ro env σ ∧ PostS Z W F ro H D (m env G)
end
section
variable {Z : Ct} {W : WX} {F F' H H' : Hp} {ro ro' : List Addr} {G : Gp} {α β : Type} {R : Hp → List Addr → α → β → Prop} {σ : L2.St} {De De' : Ends} {env : Ev}
theorem PostS.nx (n : Nx F ro H F' ro' H') : ∀ {r : Res}, PostS Z W F ro H De r → PostS Z W F' ro' H' De r
  | .nx e G', h => fun F2 ro2 H2 s n2 ok r => h F2 ro2 H2 s (n.trans n2) ok r
  | .rt e G', h => fun F2 ro2 H2 s n2 ok r => h F2 ro2 H2 s (n.trans n2) ok r
  | .bk e G', h => fun F2 ro2 H2 s n2 ok r => h F2 ro2 H2 s (n.trans n2) ok r
  | .ct e G', h => fun F2 ro2 H2 s n2 ok r => h F2 ro2 H2 s (n.trans n2) ok r
  | .exc c fs e G', h => fun F2 ro2 H2 s C dd ws n2 ok ev a b r => h F2 ro2 H2 s C dd ws (n.trans n2) ok ev a b r
  | .bad, h => h
theorem PostBS {k : α → Gp → Res} (ev : Evs Z F ro env σ) : ∀ {r : Out α}, PostS Z W F ro H De (r.toS env k) →
    Post Z W R F ro H σ (fun v H1 => ∃ F1 ro1 d G1, Nx F ro H F1 ro1 H1 ∧ Ok Z F1 ro1 H1 G1 ∧ R F1 ro1 d v ∧ PostS Z W F1 ro1 H1 De (k d G1)) r
  | .ok d G', h => fun F2 ro2 H2 v n2 ok r => ⟨F2, ro2, d, G', n2, ok, r, PostS.nx n2 h⟩
  | .exc c fs G', h => fun F2 ro2 H2 C dd ws n2 ok a b r => h F2 ro2 H2 σ C dd ws n2 ok (ev.nx n2) a b r
  | .bad, h => h
theorem PostS.done (ok : Ok Z F ro H G) (ev : Evs Z F ro env σ) (h : PostS Z W F ro H De (.nx env G)) : De.nx σ H := h F ro H σ (Nx.refl ok.sub) ok ev
theorem Evs.set (ev : Evs Z F ro env σ) {d : D} {v : V} (r : Rep Z F ro d v) (i : Nat) : Evs Z F ro (env.set i (some d)) (σ.set i (some v)) := by
  refine ⟨by simp [ev.1], fun j x e nx => ?_, fun y c fs e1 e2 => ?_⟩
  rotate_left
  · by_cases hj : y.1 = i
    · subst hj
      have hl : y.1 < env.length := by
        have := (List.getElem?_eq_some_iff.mp e2).1
        simpa using this
      rw [List.getElem?_set_self hl] at e2
      cases e2
      cases r
    · rw [List.getElem?_set_ne (Ne.symm hj)] at e2
      rw [List.getElem?_set_ne (Ne.symm hj)]
      exact ev.2.2 y c fs e1 e2
  by_cases hj : j = i
  · subst hj
    have hl : j < env.length := by
      have := (List.getElem?_eq_some_iff.mp e).1
      simpa using this
    rw [List.getElem?_set_self hl] at e
    cases e
    exact ⟨v, by rw [List.getElem?_set_self (by rw [← ev.1]; exact hl)], r⟩
  · rw [List.getElem?_set_ne (Ne.symm hj)] at e
    obtain ⟨u, h1, h2⟩ := ev.2.1 j x e nx
    exact ⟨u, by rw [List.getElem?_set_ne (Ne.symm hj)]; exact h1, h2⟩
end
section
variable {X : Cx} {W : WX} {pos : Pos}
variable (X W) in
abbrev PSm (st : Stmt) (m : Sx) : Prop := PS X st (TSm (ct X) W m)
variable (X W) in
abbrev PSsm (st : List Stmt) (m : Sx) : Prop := PSs X st (TSm (ct X) W m)

def mNop : Sx := fun env G => .nx env G
def mSeq (a b : Sx) : Sx := fun env G => match a env G with
  | .nx e G1 => b e G1
  | r => r
variable {st : Stmt} {rest : List Stmt} {m1 m2' : Sx} {e : Expr} {me : Ex}
theorem ssm_nil : PSsm X W [] mNop := PSs.imp pss_nil fun D σ H ⟨F, ro, G, env, ok, ev, h⟩ => h.done ok ev
theorem ssm_cons (h1 : PSm X W st m1) (h2 : PSsm X W rest m2') : PSsm X W (st :: rest) (mSeq m1 m2') := PSs.imp (pss_cons h1 h2) fun D σ H ⟨F, ro, G, env, ok, ev, h⟩ => by
  refine ⟨F, ro, G, env, ok, ev, ?_⟩
  unfold mSeq at h
  cases e1 : m1 env G with
  | nx e G1 => rw [e1] at h; exact fun F' ro' H' σ' n ok' ev' => ⟨F', ro', G1, e, ok', ev', PostS.nx n h⟩
  | rt d G1 => rw [e1] at h; exact h
  | bk e G1 => rw [e1] at h; exact h
  | ct e G1 => rw [e1] at h; exact h
  | exc c fs e G1 => rw [e1] at h; exact h
  | bad => rw [e1] at h; exact h
theorem ssm_one (h1 : PSm X W st m1) : PSsm X W [st] m1 := pss_one h1
theorem sm_pass : PSm X W (.Pass pos) mNop := PS.imp ps_pass fun D σ H ⟨F, ro, G, env, ok, ev, h⟩ => h.done ok ev
def mBk : Sx := fun env G => .bk env G
def mCt : Sx := fun env G => .ct env G
theorem sm_break : PSm X W (.Break pos) mBk := PS.imp ps_break fun D σ H ⟨F, ro, G, env, ok, ev, h⟩ => h F ro H σ (Nx.refl ok.sub) ok ev
theorem sm_continue : PSm X W (.Continue pos) mCt := PS.imp ps_continue fun D σ H ⟨F, ro, G, env, ok, ev, h⟩ => h F ro H σ (Nx.refl ok.sub) ok ev
def mEx (a : Ex) : Sx := fun env G => (a env G).toS env fun _ G1 => .nx env G1
theorem sm_expr (he : PEm X W e me) (hs : swapsWith e none pos.line X.env = pure false := by rfl) : PSm X W (.Expr e pos) (mEx me) := PS.imp (ps_expr he hs) fun D σ H ⟨F, ro, G, env, ok, ev, h⟩ =>
  ⟨F, ro, G, env, ok, ev, (PostBS (R := RD (ct X)) ev h).imp fun v H1 ⟨F1, ro1, d1, G1, n1, ok1, r1, h1⟩ => h1.done ok1 (ev.nx n1)⟩
def mRet (a : Ex) : Sx := fun env G => (a env G).toS env fun d G1 => .rt d G1
theorem sm_ret (he : PEm X W e me) : PSm X W (.Return (some e) pos) (mRet me) := PS.imp (ps_ret he) fun D σ H ⟨F, ro, G, env, ok, ev, h⟩ =>
  ⟨F, ro, G, env, ok, ev, (PostBS (R := RD (ct X)) ev h).imp fun v H1 ⟨F1, ro1, d1, G1, n1, ok1, r1, h1⟩ => h1 F1 ro1 H1 v (Nx.refl ok1.sub) ok1 r1⟩
def mRetN : Sx := fun _ G => .rt .non G
theorem sm_retN : PSm X W (.Return none pos) mRetN := PS.imp ps_retN fun D σ H ⟨F, ro, G, env, ok, ev, h⟩ => h F ro H .non (Nx.refl ok.sub) ok .non
def mIfS (t : Tx) (a b : Sx) : Sx := fun env G => (t env G).toS env fun c G1 => if c then a env G1 else b env G1
theorem sm_if {c : Expr} {a b : List Stmt} {tc : Tx} {ma mb : Sx} (hc : PTm X W c tc) (ha : PSsm X W a ma) (hb : PSsm X W b mb) : PSm X W (.If c a b pos) (mIfS tc ma mb) := PS.imp (ps_if hc ha hb) fun D σ H ⟨F, ro, G, env, ok, ev, h⟩ =>
  ⟨F, ro, G, env, ok, ev, (PostBS (R := RB) ev h).imp fun b H1 ⟨F1, ro1, d1, G1, n1, ok1, r1, h1⟩ => by
    cases r1
    cases b
    · exact iteF ⟨F1, ro1, G1, env, ok1, ev.nx n1, h1⟩
    · exact iteT ⟨F1, ro1, G1, env, ok1, ev.nx n1, h1⟩⟩
def mSet (i : Nat) (a : Ex) : Sx := fun env G => (a env G).toS env fun d G1 => .nx (env.set i (some d)) G1
theorem sm_set {i : Nat} {x : Str} {pos' : Pos} (hN : X.N.Nodup) (hi : X.N[i]? = some x) (hx : Loc X.env.scope x) (he : PEm X W e me) (hs : swapsWith e (some (.Name x pos')) pos.line X.env = pure false := by rfl)
    (hf : X.fn x = true ∨ X.env.scope.names.lookup x = some .local := by first | exact .inl rfl | exact .inr rfl | assumption) : PSm X W (.Assign [.Name x pos'] e pos) (mSet i me) := PS.imp (ps_set hN hi hx he hs hf) fun D σ H ⟨F, ro, G, env, ok, ev, h⟩ =>
  ⟨F, ro, G, env, ok, ev, (PostBS (R := RD (ct X)) ev h).imp fun v H1 ⟨F1, ro1, d1, G1, n1, ok1, r1, h1⟩ => h1.done ok1 ((ev.nx n1).set r1 i)⟩

/-! ### targets -/
abbrev Gx := D → Ev → Gp → Out Ev
variable (X) in
def PGm (tg : Expr) (g : Gx) : Prop := PG X tg (fun v σ H Q => ∃ F ro G env d, Ok (ct X) F ro H G ∧ Evs (ct X) F ro env σ ∧ Rep (ct X) F ro d v ∧ match g d env G with
  | .ok e' G' => ∀ F' ro' H' σ', Nx F ro H F' ro' H' → Ok (ct X) F' ro' H' G' → Evs (ct X) F' ro' e' σ' → Q σ' H'
  | _ => False)
theorem PG.imp {tg : Expr} {t t' : L2.TG} (h : PG X tg t) (k : ∀ v σ H Q, t' v σ H Q → t v σ H Q) : PG X tg t' := ⟨fun pins s σ H v u Q I r q => h.run pins s σ H v u Q I r (k v σ H Q q)⟩
def gN (i : Nat) : Gx := fun d env G => .ok (env.set i (some d)) G
theorem gm_name {i : Nat} {x : Str} (hN : X.N.Nodup) (hi : X.N[i]? = some x) (hx : Loc X.env.scope x) (hf : X.fn x = true ∨ X.env.scope.names.lookup x = some .local := by first | exact .inl rfl | exact .inr rfl | assumption) : PGm X (.Name x pos) (gN i) :=
  PG.imp (pg_name hN hi hx hf) fun v σ H Q ⟨F, ro, G, env, d, ok, ev, r, h⟩ => h F ro H _ (Nx.refl ok.sub) ok (ev.set r i)
/-- several names, from a tuple or a list -/
abbrev Gsx := List D → Ev → Gp → Out Ev
variable (X) in
def PGsm (ts : List Expr) (g : Gsx) : Prop := PGs X ts (fun vs σ H Q => ∃ F ro G env ds, Ok (ct X) F ro H G ∧ Evs (ct X) F ro env σ ∧ Reps (ct X) F ro ds vs ∧ match g ds env G with
  | .ok e' G' => ∀ F' ro' H' σ', Nx F ro H F' ro' H' → Ok (ct X) F' ro' H' G' → Evs (ct X) F' ro' e' σ' → Q σ' H'
  | _ => False)
theorem PGs.imp {ts : List Expr} {t t' : TGs} (h : PGs X ts t) (k : ∀ v σ H Q, t' v σ H Q → t v σ H Q) : PGs X ts t' := ⟨fun pins s σ H v u Q I r q => h.run pins s σ H v u Q I r (k v σ H Q q)⟩
def gsNil : Gsx := fun ds env G => match ds with
  | [] => .ok env G
  | _ => .bad
def gsCons (i : Nat) (g : Gsx) : Gsx := fun ds env G => match ds with
  | d :: r => g r (env.set i (some d)) G
  | [] => .bad
theorem gsm_nil : PGsm X [] gsNil := PGs.imp pgs_nil fun vs σ H Q ⟨F, ro, G, env, ds, ok, ev, r, h⟩ => by
  cases r with
  | nil => exact ⟨rfl, h F ro H σ (Nx.refl ok.sub) ok ev⟩
  | cons _ _ => exact h.elim
theorem gsm_cons {i : Nat} {x : Str} {p : Pos} {es : List Expr} {g : Gsx} (hN : X.N.Nodup) (hi : X.N[i]? = some x) (hx : Loc X.env.scope x) (hr : PGsm X es g)
    (hf : X.fn x = true ∨ X.env.scope.names.lookup x = some .local := by first | exact .inl rfl | exact .inr rfl | assumption)
    (hs : (assignEach (.Name x p :: es) X.env).map (·.2) = assign (.Name x p) X.env :: (assignEach es X.env).map (·.2) := by rfl) : PGsm X (.Name x p :: es) (gsCons i g) :=
  PGs.imp (pgs_cons (pg_name hN hi hx hf) hr hs) fun vs σ H Q ⟨F, ro, G, env, ds, ok, ev, r, h⟩ => by
    cases r with
    | nil => exact h.elim
    | cons r rs => exact ⟨_, _, rfl, F, ro, G, _, _, ok, ev.set r i, rs, h⟩
def gTupD (n : Nat) (g : Gsx) : Gx := fun d env G => match seqOf G d with
  | some xs => if xs.length = n then g xs env G else .bad
  | none => .bad
theorem PG.or {tg : Expr} {t u : L2.TG} (h : PG X tg t) (k : PG X tg u) : PG X tg (fun v σ H Q => t v σ H Q ∨ u v σ H Q) := ⟨fun pins s σ H v w Q I r q => q.elim (h.run pins s σ H v w Q I r) (k.run pins s σ H v w Q I r)⟩
theorem gm_tup {es : List Expr} {k : Nat} {g : Gsx} {n : Nat} (hc : X.calm = true) (h : PGsm X es g) (hn : (assignEach es X.env).length = n := by rfl) (hst : (assignEach es X.env).findIdx? (·.1) = none := by rfl) : PGm X (.Tuple es k pos) (gTupD n g) :=
  PG.imp (PG.or (pg_tup hc h hn hst) (pg_lst hc h hn hst)) fun v σ H Q ⟨F, ro, G, env, d, ok, ev, r, h⟩ => by
    cases e : seqOf G d with
    | none =>
      have hg : gTupD n g d env G = .bad := by unfold gTupD; rw [e]
      rw [hg] at h; exact h.elim
    | some xs =>
      by_cases hl : xs.length = n
      · have hg : gTupD n g d env G = g xs env G := by unfold gTupD; rw [e]; exact if_pos hl
        rw [hg] at h
        obtain ⟨a, vs, rfl, hs, q⟩ := seqOf_ok ok r e
        have hl' : vs.length = n := by rw [← Reps.length q]; exact hl
        have fin : ∃ F ro G env ds, Ok (ct X) F ro H G ∧ Evs (ct X) F ro env σ ∧ Reps (ct X) F ro ds vs ∧ (match g ds env G with
          | .ok e' G' => ∀ F' ro' H' σ', Nx F ro H F' ro' H' → Ok (ct X) F' ro' H' G' → Evs (ct X) F' ro' e' σ' → Q σ' H'
          | _ => False) := ⟨F, ro, G, env, xs, ok, ev, q, h⟩
        rcases hs with hs | hs
        · exact .inr ⟨a, vs, rfl, hs, hl', fin⟩
        · exact .inl ⟨a, vs, rfl, hs, hl', fin⟩
      · have hg : gTupD n g d env G = .bad := by unfold gTupD; rw [e]; exact if_neg hl
        rw [hg] at h; exact h.elim
def mAsg (g : Gx) (a : Ex) : Sx := fun env G => (a env G).toS env fun d G1 => match g d env G1 with
  | .ok e G2 => .nx e G2
  | _ => .bad
theorem sm_asg {tg e : Expr} {me : Ex} {g : Gx} (he : PEm X W e me) (hg : PGm X tg g) (hs : swapsWithSole [tg] e pos.line X.env = pure false := by rfl) (hw : swappedStores [tg] e X.env = pure none := by rfl)
    (h1 : (assignEach [tg] X.env).map (·.2) = [assign tg X.env] := by rfl) : PSm X W (.Assign [tg] e pos) (mAsg g me) := PS.imp (ps_asg he hg hs hw h1) fun D σ H ⟨F, ro, G, env, ok, ev, h⟩ =>
  ⟨F, ro, G, env, ok, ev, (PostBS (R := RD (ct X)) ev h).imp fun v H1 ⟨F1, ro1, d1, G1, n1, ok1, r1, h1⟩ => ⟨F1, ro1, G1, env, d1, ok1, ev.nx n1, r1, by
    revert h1
    cases g d1 env G1 <;> intro h1
    · exact h1
    · exact h1.elim
    · exact h1.elim⟩⟩

/-! ### what is walked -/
/-- the iterator yields xs, whatever else happens -/
def RI (Z : Ct) (F : Hp) (ro : List Addr) (xs : List Mi.D) (J : It) : Prop := ∀ F' ro' H', Same F F' → Same F' H' → (∃ r, ro' = ro ++ r) → ∀ i : Nat,
  (∀ d, xs[i]? = some d → J.go i H' ∧ ∀ x H'', J.yld i H' x H'' → H'' = H' ∧ Rep Z F' ro' d x) ∧ (xs.length ≤ i → J.stop i H')
abbrev Ix := Ev → Gp → Out (List Mi.D)
variable (X W) in
abbrev PIm (tg iter : Expr) (m : Ix) : Prop := PI X tg iter (Mi.TG (ct X) W (RI (ct X)) m)
theorem PI.imp {tg iter : Expr} {t t' : TI} (h : PI X tg iter t) (k : ∀ σ H R, t' σ H R → t σ H R) : PI X tg iter t' := ⟨fun pins s σ H R I q => h.run pins s σ H R I (k σ H R q)⟩
/-- a thing that never changes, as what it yields -/
def fseq (G : Gp) : Mi.D → Option (List Mi.D)
  | .tup xs => some xs
  | .lst xs => some xs
  | .scr xs => some xs
  | .cel n => (match G[n]? with
    | some (.frz (.lst xs)) => some xs
    | _ => none)
  | _ => none
def iSeq (a : Ex) : Ix := fun env G => (a env G).bind fun d G1 => match fseq G1 d with
  | some xs => .ok xs G1
  | none => .bad
theorem ri_list {Z : Ct} {F : Hp} {ro : List Addr} {a : Addr} {vs : List V} {xs : List Mi.D} (h : SqL Z.K F a vs) (r : Reps Z F ro xs vs) : RI Z F ro xs (Itl Z.K a) := by
  intro F' ro' H' s1 s2 p i
  have hH : SqL Z.K H' a vs := s2.seq (s1.seq h)
  refine ⟨fun d e => ?_, fun hl => ⟨vs, hH, by rw [← Reps.length r]; exact hl⟩⟩
  obtain ⟨v, hv, rv⟩ := Reps.get r e
  refine ⟨⟨vs, v, hH, hv⟩, fun x H'' y => ⟨y.1, ?_⟩⟩
  have := y.2 vs hH
  rw [hv] at this
  cases this
  exact rv.mono s1 (pre_get p)
theorem ri_tup {Z : Ct} {F : Hp} {ro : List Addr} {a : Addr} {vs : List V} {xs : List Mi.D} (h : SqT Z.K F a vs) (r : Reps Z F ro xs vs) : RI Z F ro xs (Itt Z.K a) := by
  intro F' ro' H' s1 s2 p i
  have hH : SqT Z.K H' a vs := Mi.SqT.same s2 (Mi.SqT.same s1 h)
  refine ⟨fun d e => ?_, fun hl => ⟨vs, hH, by rw [← Reps.length r]; exact hl⟩⟩
  obtain ⟨v, hv, rv⟩ := Reps.get r e
  refine ⟨⟨vs, v, hH, hv⟩, fun x H'' y => ⟨y.1, ?_⟩⟩
  have := y.2 vs hH
  rw [hv] at this
  cases this
  exact rv.mono s1 (pre_get p)
theorem pi_seqA {tg l : Expr} {tl : TE} (hl : PE X l tl) : PI X tg l (fun σ H R => tl σ H fun x H1 => ∃ a, x = .ref a ∧ (((∃ xs, SqL X.K H1 a xs) ∧ R (Itl X.K a) H1) ∨ ((∃ xs, SqT X.K H1 a xs) ∧ R (Itt X.K a) H1))) := by
  refine ⟨fun pins s σ H R I h => ?_⟩
  refine thn (hl.run pins s σ H _ I h) fun v s1 ⟨x, H1, I1, r1, q1⟩ => ?_
  obtain ⟨a, e, q⟩ := q1
  subst e
  cases r1
  rcases q with ⟨⟨xs, hq⟩, q⟩ | ⟨⟨xs, hq⟩, q⟩
  · obtain ⟨its, rv, p, hz⟩ := I1.list hq
    refine wpAny_pyIter_list p.isList ?_
    refine ⟨s1.heap.objs.size, [s1.heap.objs.size], _, _, H1, rfl, I1.kept (t' := s1.toks) fun b o e => Heap.get?_push_of_some _ e, turn_list a _, ⟨_, Heap.get?_push_size _ rfl, rfl, rfl⟩, fun b hb => ?_, q⟩
    have e : b = s1.heap.objs.size := by simpa using hb
    subst e
    exact I1.fpOk (Nat.le_refl _) (I1.hok.fresh (Nat.le_refl _))
  · obtain ⟨its, rv, p, hz⟩ := I1.tuple hq
    refine wpAny_pyIter_tuple (show s1.heap.IsTuple a its.toArray from p) ?_
    refine ⟨s1.heap.objs.size, [s1.heap.objs.size], _, _, H1, rfl, I1.kept (t' := s1.toks) fun b o e => Heap.get?_push_of_some _ e, turn_tuple a _, ⟨_, Heap.get?_push_size _ rfl, rfl, rfl⟩, fun b hb => ?_, q⟩
    have e : b = s1.heap.objs.size := by simpa using hb
    subst e
    exact I1.fpOk (Nat.le_refl _) (I1.hok.fresh (Nat.le_refl _))
theorem fseq_ok {Z : Ct} {F H : Hp} {ro : List Addr} {G : Gp} (ok : Ok Z F ro H G) {d : Mi.D} {v : V} {xs : List Mi.D} (r : Rep Z F ro d v) (h : fseq G d = some xs) : ∃ a vs, v = .ref a ∧ (SqL Z.K F a vs ∨ SqT Z.K F a vs) ∧ Reps Z F ro xs vs := by
  cases r with
  | tup e q => simp only [fseq] at h; cases h; exact ⟨_, _, rfl, .inr e, q⟩
  | lst e q => simp only [fseq] at h; cases h; exact ⟨_, _, rfl, .inl (SqL.of e), q⟩
  | scr e q => simp only [fseq] at h; cases h; exact ⟨_, _, rfl, .inl e, q⟩
  | @cel n a e =>
    obtain ⟨ob, ho⟩ := ok.cell_in e
    simp only [fseq, ho] at h
    rcases ok.cell n ob a ho e with ⟨d, rfl, rd, q⟩ | ⟨q, c⟩
    · cases rd with
      | lst e q => simp at h; subst h; exact ⟨_, _, rfl, .inl (SqL.of e), q.mono (fun _ _ z => z) (by simp)⟩
      | _ => simp at h
    · generalize eH : H a = oh at c
      cases c <;> simp at h
  | _ => simp [fseq] at h
theorem im_seq {tg l : Expr} {ml : Ex} (hl : PEm X W l ml) : PIm X W tg l (iSeq ml) := PI.imp (pi_seqA hl) fun σ H R ⟨F, ro, G, env, ok, ev, h⟩ => by
  refine ⟨F, ro, G, env, ok, ev, (PostB (R := RD (ct X)) h).imp fun v H1 ⟨F1, ro1, d1, G1, n1, ok1, r1, h1⟩ => ?_⟩
  cases e : fseq G1 d1 with
  | none => rw [e] at h1; exact h1.elim
  | some xs =>
    rw [e] at h1
    obtain ⟨a, vs, rfl, hs, q⟩ := fseq_ok ok1 r1 e
    rcases hs with hs | hs
    · exact ⟨a, rfl, .inl ⟨⟨vs, ok1.sub.seq hs⟩, Post.ok (R := RI (ct X)) ok1 h1 (ri_list hs q)⟩⟩
    · exact ⟨a, rfl, .inr ⟨⟨vs, Mi.SqT.same ok1.sub hs⟩, Post.ok (R := RI (ct X)) ok1 h1 (ri_tup hs q)⟩⟩
/-! ### range, dict, text -/
def rngD (lo : Int) (n : Nat) : List Mi.D := (List.range n).map fun i => .int (lo + (i : Nat))
theorem ri_rng {Z : Ct} {F : Hp} {ro : List Addr} (lo : Int) (n : Nat) : RI Z F ro (rngD lo n) (Itr lo n) := by
  intro F' ro' H' s1 s2 p i
  refine ⟨fun d e => ?_, fun hl => by show n ≤ i; simpa [rngD] using hl⟩
  have hi : i < n := by
    have := (List.getElem?_eq_some_iff.mp e).1
    simpa [rngD] using this
  refine ⟨hi, fun x H'' y => ⟨y.1, ?_⟩⟩
  have e' : Mi.D.int (lo + (i : Nat)) = d := by
    simpa [rngD, hi] using e
  rw [← e', y.2]
  exact .int _
def iRng1m (a : Ax) : Ix := fun env G => (a env G).bind fun ds G1 => match ds with
  | [.int j] => if -(2 ^ 62) ≤ j ∧ j < 2 ^ 62 then .ok (rngD 0 j.toNat) G1 else .bad
  | _ => .bad
def iRng2m (a : Ax) : Ix := fun env G => (a env G).bind fun ds G1 => match ds with
  | [.int i, .int j] => if -(2 ^ 62) ≤ i ∧ i < 2 ^ 62 ∧ -(2 ^ 62) ≤ j ∧ j < 2 ^ 62 then .ok (rngD i (j - i).toNat) G1 else .bad
  | _ => .bad
theorem im_range1 {tg a : Expr} {ma : Ax} {p pos : Pos} (hm : X.mg "range" = none) (ha : PAm X W [a] ma) (hg : Gl X "range" := by rfl) (hs : starEach [a] X.env = [(false, eval a X.env)] := by rfl) : PIm X W tg (.Call (.Name "range" p) [a] [] pos) (iRng1m ma) :=
  PI.imp (pi_range1 hg hm ha hs) fun σ H R ⟨F, ro, G, env, ok, ev, h⟩ => by
    refine ⟨F, ro, G, env, ok, ev, (PostB (R := RA (ct X)) h).imp fun vs H1 ⟨F1, ro1, ds, G1, n1, ok1, r1, h1⟩ => ?_⟩
    split at h1
    · cases r1 with
      | cons r rs =>
        cases rs
        cases r
        split at h1
        · rename_i hj
          exact ⟨_, rfl, hj.1, hj.2, Post.ok (R := RI (ct X)) ok1 h1 (ri_rng 0 _)⟩
        · exact h1.elim
    · exact h1.elim
theorem im_range2 {tg a b : Expr} {ma : Ax} {p pos : Pos} (hm : X.mg "range" = none) (ha : PAm X W [a, b] ma) (hg : Gl X "range" := by rfl) (hs : starEach [a, b] X.env = [(false, eval a X.env), (false, eval b X.env)] := by rfl) (hs2 : starEach [b] X.env = [(false, eval b X.env)] := by rfl) :
    PIm X W tg (.Call (.Name "range" p) [a, b] [] pos) (iRng2m ma) :=
  PI.imp (pi_range2 hg hm ha hs hs2) fun σ H R ⟨F, ro, G, env, ok, ev, h⟩ => by
    refine ⟨F, ro, G, env, ok, ev, (PostB (R := RA (ct X)) h).imp fun vs H1 ⟨F1, ro1, ds, G1, n1, ok1, r1, h1⟩ => ?_⟩
    split at h1
    · cases r1 with
      | cons r rs =>
        cases rs with
        | cons r' rs =>
          cases rs
          cases r
          cases r'
          split at h1
          · rename_i hj
            exact ⟨_, _, rfl, hj, Post.ok (R := RI (ct X)) ok1 h1 (ri_rng _ _)⟩
          · exact h1.elim
    · exact h1.elim
def kD : Key → Mi.D
  | .inl i => .int i
  | .inr x => .str x
theorem kD_rep {Z : Ct} {F : Hp} {ro : List Addr} (k : Key) : Rep Z F ro (kD k) (kV k) := by
  cases k
  · exact .int _
  · exact .str _
theorem RepK.get {Z : Ct} {F : Hp} {ro : List Addr} : ∀ {xs : List (Key × Mi.D)} {vs : List (Key × V)} {i : Nat} {k : Key} {d : Mi.D}, RepK Z F ro xs vs → xs[i]? = some (k, d) → ∃ v, vs[i]? = some (k, v) ∧ Rep Z F ro d v
  | _, _, _, _, _, .nil, h => by simp at h
  | _, _, 0, _, _, .cons r _, h => by simp at h; obtain ⟨rfl, rfl⟩ := h; exact ⟨_, by simp, r⟩
  | _, _, i + 1, _, _, .cons _ r, h => by
    obtain ⟨v, h1, h2⟩ := RepK.get (i := i) r (by simpa using h)
    exact ⟨v, by simpa using h1, h2⟩
theorem RepK.length {Z : Ct} {F : Hp} {ro : List Addr} : ∀ {xs : List (Key × Mi.D)} {vs : List (Key × V)}, RepK Z F ro xs vs → xs.length = vs.length
  | _, _, .nil => rfl
  | _, _, .cons _ r => by simp [RepK.length r]
/-- the keys of a dict that never changes -/
def fdct (G : Gp) : Mi.D → Option (List (Key × Mi.D))
  | .dct xs => some xs
  | .cel n => (match G[n]? with
    | some (.frz (.dct xs)) => some xs
    | _ => none)
  | _ => none
def iKey (a : Ex) : Ix := fun env G => (a env G).bind fun d G1 => match fdct G1 d with
  | some xs => .ok (xs.map fun p => kD p.1) G1
  | none => .bad
theorem ri_key {Z : Ct} {F : Hp} {ro : List Addr} {a : Addr} {o : Obj} {ws : List (Key × V)} {xs : List (Key × Mi.D)} (h : F a = some (.frz o (.dK ws))) (r : RepK Z F ro xs ws) : RI Z F ro (xs.map fun p => kD p.1) (Itk a o ws) := by
  intro F' ro' H' s1 s2 p i
  have hH : H' a = some (.frz o (.dK ws)) := s2 _ _ (s1 _ _ h)
  refine ⟨fun d e => ?_, fun hl => ⟨hH, by rw [← RepK.length r]; simpa using hl⟩⟩
  rw [List.getElem?_map] at e
  cases ex : xs[i]? with
  | none => rw [ex] at e; cases e
  | some kd =>
    rw [ex] at e
    cases e
    obtain ⟨v, hv, rv⟩ := RepK.get (k := kd.1) (d := kd.2) r ex
    refine ⟨⟨hH, (List.getElem?_eq_some_iff.mp hv).1⟩, fun x H'' y => ⟨y.1, ?_⟩⟩
    obtain ⟨k, v', h1, h2⟩ := y.2
    rw [hv] at h1
    cases h1
    rw [h2]
    exact kD_rep _
theorem fdct_ok {Z : Ct} {F H : Hp} {ro : List Addr} {G : Gp} (ok : Ok Z F ro H G) {d : Mi.D} {v : V} {xs : List (Key × Mi.D)} (r : Rep Z F ro d v) (h : fdct G d = some xs) : ∃ a o vs, v = .ref a ∧ F a = some (.frz o (.dK vs)) ∧ RepK Z F ro xs vs := by
  cases r with
  | dct e q => simp only [fdct] at h; cases h; exact ⟨_, _, _, rfl, e, q⟩
  | @cel n a e =>
    obtain ⟨ob, ho⟩ := ok.cell_in e
    simp only [fdct, ho] at h
    rcases ok.cell n ob a ho e with ⟨d, rfl, rd, q⟩ | ⟨q, c⟩
    · cases rd with
      | dct e q => simp at h; subst h; exact ⟨_, _, _, rfl, e, q.mono (fun _ _ z => z) (by simp)⟩
      | _ => simp at h
    · generalize eH : H a = oh at c
      cases c <;> simp at h
  | _ => simp [fdct] at h
theorem im_key {tg l : Expr} {ml : Ex} (hl : PEm X W l ml) : PIm X W tg l (iKey ml) := PI.imp (pi_keys hl) fun σ H R ⟨F, ro, G, env, ok, ev, h⟩ => by
  refine ⟨F, ro, G, env, ok, ev, (PostB (R := RD (ct X)) h).imp fun v H1 ⟨F1, ro1, d1, G1, n1, ok1, r1, h1⟩ => ?_⟩
  cases e : fdct G1 d1 with
  | none => rw [e] at h1; exact h1.elim
  | some xs =>
    rw [e] at h1
    obtain ⟨a, o, vs, rfl, hs, q⟩ := fdct_ok ok1 r1 e
    exact ⟨a, o, rfl, .inl ⟨vs, ok1.sub _ _ hs, Post.ok (R := RI (ct X)) ok1 h1 (ri_key hs q)⟩⟩
/-- the signs of a text -/
def iStrm (a : Ex) : Ix := fun env G => (a env G).bind fun d G1 => match d with
  | .str x => .ok (x.cps.toList.map fun c => .str ⟨#[c]⟩) G1
  | _ => .bad
theorem im_str {tg l : Expr} {ml : Ex} (hl : PEm X W l ml) : PIm X W tg l (iStrm ml) := PI.imp (pi_str hl) fun σ H R ⟨F, ro, G, env, ok, ev, h⟩ => by
  refine ⟨F, ro, G, env, ok, ev, (PostB (R := RD (ct X)) h).imp fun v H1 ⟨F1, ro1, d1, G1, n1, ok1, r1, h1⟩ => ?_⟩
  split at h1
  · rename_i x
    cases r1
    refine ⟨x, rfl, Post.ok (R := RI (ct X)) ok1 h1 fun F' ro' H' s1 s2 p i => ⟨fun d e => ?_, fun hl => by show x.cps.size ≤ i; simpa using hl⟩⟩
    have hi : i < x.cps.size := by simpa using (List.getElem?_eq_some_iff.mp e).1
    refine ⟨hi, fun y H'' z => ⟨z.1, ?_⟩⟩
    obtain ⟨c, hc, rfl⟩ := z.2
    have : d = .str ⟨#[c]⟩ := by simpa [hc] using e.symm
    rw [this]
    exact .str _
  · exact h1.elim

/-! ### for -/
def forL (g : Gx) (b : Sx) : List Mi.D → Sx
  | [], env, G => .nx env G
  | d :: r, env, G => match g d env G with
    | .ok e1 G1 => (match b e1 G1 with
      | .nx e2 G2 => forL g b r e2 G2
      | .ct e2 G2 => forL g b r e2 G2
      | .bk e2 G2 => .nx e2 G2
      | x => x)
    | _ => .bad
def mFor (it : Ix) (g : Gx) (b : Sx) : Sx := fun env G => (it env G).toS env fun xs G1 => forL g b xs env G1
theorem sm_for {tg iter : Expr} {body : List Stmt} {mi : Ix} {g : Gx} {mb : Sx} (hp : PassesOwn (model X.prog X.w) X.A X.env X.xe) (hc : X.calm = true) (hi : PIm X W tg iter mi) (hg : PGm X tg g) (hb : PSsm X W body mb)
    (hs : ∀ x, foldedSetIterable iter X.env x = pure x := by intro _; rfl) : PSm X W (.For tg iter body [] pos) (mFor mi g mb) := PS.imp (ps_for hp hc hi hg hb hs) fun D σ H ⟨F, ro, G, env, ok, ev, h⟩ => by
  refine ⟨F, ro, G, env, ok, ev, (PostBS (R := RI (ct X)) ev h).imp fun J H1 ⟨F1, ro1, xs, G1, n1, ok1, r1, h1⟩ => ?_⟩
  refine ⟨fun i m σ H => ∃ F2 ro2 G2 env2, m = xs.length - i ∧ i ≤ xs.length ∧ Nx F1 ro1 H1 F2 ro2 H ∧ Ok (ct X) F2 ro2 H G2 ∧ Evs (ct X) F2 ro2 env2 σ ∧ PostS (ct X) W F2 ro2 H D (forL g mb (xs.drop i) env2 G2),
    ⟨xs.length, F1, ro1, G1, env, rfl, Nat.zero_le _, Nx.refl ok1.sub, ok1, ev.nx n1, h1⟩, ?_⟩
  rintro i m σ H ⟨F2, ro2, G2, env2, rfl, hle, n2, ok2, ev2, h2⟩
  obtain ⟨hgo, hst⟩ := r1 F2 ro2 H n2.sub n2.up n2.pre i
  by_cases hlt : i < xs.length
  · obtain ⟨d, hd⟩ : ∃ d, xs[i]? = some d := ⟨_, List.getElem?_eq_getElem hlt⟩
    obtain ⟨go, yl⟩ := hgo d hd
    have hdrop : xs.drop i = d :: xs.drop (i + 1) := by
      have := (List.getElem?_eq_some_iff.mp hd).2
      rw [← this]
      exact List.drop_eq_getElem_cons hlt
    rw [hdrop] at h2
    refine .inr ⟨go, fun σ' H' => ∃ F3 ro3 G3 env3, Nx F1 ro1 H1 F3 ro3 H' ∧ Ok (ct X) F3 ro3 H' G3 ∧ Evs (ct X) F3 ro3 env3 σ' ∧ PostS (ct X) W F3 ro3 H' D (forL g mb (xs.drop (i + 1)) env3 G3), fun σ' H' ⟨F3, ro3, G3, env3, n3, ok3, ev3, h3⟩ => ⟨xs.length - (i + 1), by omega, F3, ro3, G3, env3, rfl, hlt, n3, ok3, ev3, h3⟩, fun x H' y => ?_⟩
    obtain ⟨rfl, rx⟩ := yl x H' y
    refine ⟨F2, ro2, G2, env2, d, ok2, ev2, rx, ?_⟩
    unfold forL at h2
    cases eg : g d env2 G2 with
    | exc c fs G3 => rw [eg] at h2; exact h2
    | bad => rw [eg] at h2; exact h2
    | ok e3 G3 =>
      rw [eg] at h2
      simp only at h2
      intro F3 ro3 H3 σ3 n3 ok3 ev3
      refine ⟨F3, ro3, G3, e3, ok3, ev3, ?_⟩
      have h3 := PostS.nx n3 h2
      cases eb : mb e3 G3 with
      | nx e4 G4 =>
        rw [eb] at h3
        exact fun F4 ro4 H4 σ4 n4 ok4 ev4 => ⟨F4, ro4, G4, e4, (n2.trans n3).trans n4, ok4, ev4, PostS.nx n4 h3⟩
      | ct e4 G4 =>
        rw [eb] at h3
        exact fun F4 ro4 H4 σ4 n4 ok4 ev4 => ⟨F4, ro4, G4, e4, (n2.trans n3).trans n4, ok4, ev4, PostS.nx n4 h3⟩
      | bk e4 G4 => rw [eb] at h3; exact h3
      | rt d G4 => rw [eb] at h3; exact h3
      | exc c fs e G4 => rw [eb] at h3; exact h3
      | bad => rw [eb] at h3; exact h3
  · have hi : i = xs.length := by omega
    subst hi
    rw [List.drop_length] at h2
    exact .inl ⟨hst (Nat.le_refl _), h2.done ok2 ev2⟩

/-! ### while -/
def whileN (t : Tx) (b : Sx) : Nat → Sx
  | 0, _, _ => .bad
  | n + 1, env, G => (t env G).toS env fun c G1 => if c then (match b env G1 with
    | .nx e2 G2 => whileN t b n e2 G2
    | .ct e2 G2 => whileN t b n e2 G2
    | .bk e2 G2 => .nx e2 G2
    | x => x) else .nx env G1
open Classical in
noncomputable def mWhile (t : Tx) (b : Sx) : Sx := fun env G => if h : ∃ n, whileN t b n env G ≠ .bad then whileN t b h.choose env G else .bad
theorem whileN_mono (t : Tx) (b : Sx) : ∀ (n : Nat) (env : Ev) (G : Gp), whileN t b n env G ≠ .bad → whileN t b (n + 1) env G = whileN t b n env G
  | 0, env, G, h => absurd rfl h
  | n + 1, env, G, h => by
    rw [whileN] at h ⊢
    rw [whileN]
    cases et : t env G with
    | bad => rfl
    | exc c fs G1 => rfl
    | ok c G1 =>
      rw [et] at h
      simp only [Out.toS_ok] at h ⊢
      cases c
      · rfl
      · simp only [if_true] at h ⊢
        cases eb : b env G1 with
        | nx e2 G2 => rw [eb] at h; exact whileN_mono t b n e2 G2 h
        | ct e2 G2 => rw [eb] at h; exact whileN_mono t b n e2 G2 h
        | _ => rfl
theorem whileN_le (t : Tx) (b : Sx) {n m : Nat} {env : Ev} {G : Gp} (h : whileN t b n env G ≠ .bad) (l : n ≤ m) : whileN t b m env G = whileN t b n env G := by
  obtain ⟨k, rfl⟩ := Nat.exists_eq_add_of_le l
  clear l
  induction k with
  | zero => rfl
  | succ k ih => rw [← Nat.add_assoc, whileN_mono t b _ env G (by rw [ih]; exact h), ih]
theorem mWhile_of {t : Tx} {b : Sx} {n : Nat} {env : Ev} {G : Gp} {r : Res} (h : whileN t b n env G = r) (hr : r ≠ .bad) : mWhile t b env G = r := by
  have hx : ∃ n, whileN t b n env G ≠ .bad := ⟨n, by rw [h]; exact hr⟩
  unfold mWhile
  rw [dif_pos hx]
  rcases Nat.le_total n hx.choose with l | l
  · rw [whileN_le t b (by rw [h]; exact hr) l, h]
  · rw [← whileN_le t b hx.choose_spec l, h]
theorem sm_while {c : Expr} {body : List Stmt} {t : Tx} {mb : Sx} (hp : PassesOwn (model X.prog X.w) X.A X.env X.xe) (hc : PTm X W c t) (hb : PSsm X W body mb) : PSm X W (.While c body [] pos) (mWhile t mb) := PS.imp (ps_while hp hc hb) fun D σ H ⟨F, ro, G, env, ok, ev, h⟩ => by
  obtain ⟨n, hn⟩ : ∃ n, PostS (ct X) W F ro H D (whileN t mb n env G) := by
    unfold mWhile at h
    split at h
    · exact ⟨_, h⟩
    · exact h.elim
  refine ⟨fun m σ H => ∃ F2 ro2 G2 env2, Ok (ct X) F2 ro2 H G2 ∧ Evs (ct X) F2 ro2 env2 σ ∧ PostS (ct X) W F2 ro2 H D (whileN t mb m env2 G2), ⟨n, F, ro, G, env, ok, ev, hn⟩, ?_⟩
  rintro m σ H ⟨F2, ro2, G2, env2, ok2, ev2, h2⟩
  cases m with
  | zero => exact h2.elim
  | succ m =>
    rw [whileN] at h2
    refine ⟨F2, ro2, G2, env2, ok2, ev2, (PostBS (R := RB) ev2 h2).imp fun b H1 ⟨F3, ro3, d3, G3, n3, ok3, r3, h3⟩ => ?_⟩
    cases r3
    cases b
    · exact iteF (h3.done ok3 (ev2.nx n3))
    · refine iteT ⟨fun σ' H' => ∃ F4 ro4 G4 env4, Ok (ct X) F4 ro4 H' G4 ∧ Evs (ct X) F4 ro4 env4 σ' ∧ PostS (ct X) W F4 ro4 H' D (whileN t mb m env4 G4), fun σ' H' h4 => ⟨m, Nat.lt_succ_self _, h4⟩, F3, ro3, G3, env2, ok3, ev2.nx n3, ?_⟩
      simp only [if_true] at h3
      cases eb : mb env2 G3 with
      | nx e4 G4 =>
        rw [eb] at h3
        exact fun F4 ro4 H4 σ4 n4 ok4 ev4 => ⟨F4, ro4, G4, e4, ok4, ev4, PostS.nx n4 h3⟩
      | ct e4 G4 =>
        rw [eb] at h3
        exact fun F4 ro4 H4 σ4 n4 ok4 ev4 => ⟨F4, ro4, G4, e4, ok4, ev4, PostS.nx n4 h3⟩
      | bk e4 G4 => rw [eb] at h3; exact h3
      | rt d G4 => rw [eb] at h3; exact h3
      | exc c fs e G4 => rw [eb] at h3; exact h3
      | bad => rw [eb] at h3; exact h3
end
end Mi

set_option maxHeartbeats 4000000
/-! Mi4: comprehensions; defs and their calls. -/
namespace Mi
open PySem PySem.Spec PyProof.Rows L2

/-! ### comprehensions -/
def wipeE (e : Ev) : List Nat → Ev
  | [] => e
  | v :: vs => (wipeE e vs).set v none
theorem wipeE_length (e : Ev) : ∀ vs : List Nat, (wipeE e vs).length = e.length
  | [] => rfl
  | v :: vs => by simp [wipeE, wipeE_length e vs]
theorem wipeE_some {e : Ev} {i : Nat} {d : Mi.D} : ∀ {vs : List Nat}, (wipeE e vs)[i]? = some (some d) → e[i]? = some (some d) ∧ i ∉ vs
  | [], h => ⟨h, by simp⟩
  | v :: vs, h => by
    unfold wipeE at h
    by_cases hv : i = v
    · subst hv
      by_cases hl : i < (wipeE e vs).length
      · rw [List.getElem?_set_self hl] at h; cases h
      · rw [List.getElem?_eq_none (by simpa using Nat.le_of_not_lt hl)] at h; cases h
    · rw [List.getElem?_set_ne (Ne.symm hv)] at h
      obtain ⟨h1, h2⟩ := wipeE_some h
      exact ⟨h1, by simp [hv, h2]⟩
theorem Evs.wipe {Z : Ct} {F : Hp} {ro : List Addr} {env : Ev} {σ : L2.St} (ev : Evs Z F ro env σ) (vs : List Nat) : Evs Z F ro (wipeE env vs) (L2.wipe σ vs) := by
  refine ⟨by rw [wipeE_length, wipe_length]; exact ev.1, fun i d e n => ?_, fun y c fs e1 e2 => ?_⟩
  · obtain ⟨h1, h2⟩ := wipeE_some e
    obtain ⟨v, h3, h4⟩ := ev.2.1 i d h1 n
    exact ⟨v, by rw [wipe_out h2]; exact h3, h4⟩
  · obtain ⟨h1, h2⟩ := wipeE_some e2
    obtain ⟨h3, h4⟩ := ev.2.2 y c fs e1 h1
    exact ⟨by rw [wipe_out h2]; exact h3, h4⟩
theorem wipe_get {σ : L2.St} {i : Nat} : ∀ {vs : List Nat}, i ∈ vs → i < σ.length → (L2.wipe σ vs)[i]? = some none
  | v :: vs, h, hl => by
    unfold L2.wipe
    by_cases hv : i = v
    · subst hv
      rw [List.getElem?_set_self (by rw [wipe_length]; exact hl)]
    · rw [List.getElem?_set_ne (Ne.symm hv)]
      exact wipe_get (by simpa [hv] using h) hl
theorem wipe_set {σ : L2.St} {i : Nat} {v : Option V} {vs : List Nat} (h : i ∈ vs) : L2.wipe ((L2.wipe σ vs).set i v) vs = L2.wipe σ vs := by
  apply List.ext_getElem?
  intro j
  by_cases hj : j ∈ vs
  · by_cases hl : j < σ.length
    · rw [wipe_get hj (by simpa [wipe_length] using hl), wipe_get hj hl]
    · have h1 : σ.length ≤ j := Nat.le_of_not_lt hl
      rw [List.getElem?_eq_none (by rw [wipe_length, List.length_set, wipe_length]; exact h1), List.getElem?_eq_none (by rw [wipe_length]; exact h1)]
  · have ne : i ≠ j := fun z => hj (z ▸ h)
    rw [wipe_out hj, List.getElem?_set_ne ne]
def Out.nox {α : Type} : Out α → Out α
  | .ok a g => .ok a g
  | _ => .bad
def lcL (i : Nat) (t : Tx) (e : Ex) (env : Ev) : List Mi.D → List Mi.D → Gp → Out (List Mi.D)
  | [], acc, G => .ok acc G
  | d :: r, acc, G => (t (env.set i (some d)) G).nox.bind fun b G2 => if b then (e (env.set i (some d)) G2).nox.bind fun y G3 => if acc.length < sizeLine then lcL i t e env r (acc ++ [y]) G3 else .bad else lcL i t e env r acc G2
/-- [e for x in it if t]: a list that never changes | a cell -/
def mLc (i : Nat) (vs : List Nat) (it : Ix) (t : Tx) (e : Ex) : Ex := fun env G => (it env G).bind fun xs G1 => (lcL i t e (wipeE env vs) xs [] G1).bind fun acc G2 => .ok (.lst acc) G2
def mLcC (i : Nat) (vs : List Nat) (it : Ix) (t : Tx) (e : Ex) : Ex := fun env G => (it env G).bind fun xs G1 => (lcL i t e (wipeE env vs) xs [] G1).bind fun acc G2 => .ok (.cel G2.length) (G2 ++ [.lst acc])
abbrev WF : WX := fun _ _ _ _ => False
theorem post_nox {Z : Ct} {α β : Type} {R : Hp → List Addr → α → β → Prop} {F H : Hp} {ro : List Addr} {σ : L2.St} {Q : β → Hp → Prop} : ∀ {r : Out α} {γ : Type} {k : α → Gp → Out γ} {P : Out γ → Prop}, P (r.nox.bind k) → ¬ P .bad →
    (∀ d G', r = .ok d G' → P (k d G') → ∀ F' ro' H' v, Nx F ro H F' ro' H' → Ok Z F' ro' H' G' → R F' ro' d v → Q v H') → Post Z WF R F ro H σ Q r
  | .ok d G', _, _, _, h, _, k => fun F2 ro2 H2 v n2 ok r => k d G' rfl h F2 ro2 H2 v n2 ok r
  | .exc c fs G', _, _, _, h, n, _ => (n h).elim
  | .bad, _, _, _, h, n, _ => (n h).elim
section
variable {X : Cx} {W : WX} {pos : Pos}
theorem Nx.keepH {F H F' H' : Hp} {ro ro' : List Addr} (n : Nx F ro H F' ro' H') {p : Addr} {o : HO} (h : H p = some o) (hf : F p = none) (hr : p ∉ ro) : H' p = some o ∧ F' p = none ∧ p ∉ ro' := by
  obtain ⟨a, b⟩ := n.out p o h hf hr
  refine ⟨a, b, fun z => ?_⟩
  rcases n.new p z with z | z
  · exact hr z
  · rw [h] at z; cases z
/-- an object that is hidden: tracked, but neither known nor a cell -/
theorem Ok.hide {Z : Ct} {F H : Hp} {ro : List Addr} {G : Gp} (ok : Ok Z F ro H G) {p : Addr} (o : HO) (h : H p = none) : Ok Z F ro (upd H p o) G ∧ Nx F ro H F ro (upd H p o) := by
  obtain ⟨hf, hr⟩ := ok.free h
  have sH : Same F (upd H p o) := fun b u e => by rw [upd_ne (ne_of_none e hf)]; exact ok.sub _ _ e
  refine ⟨⟨sH, ok.len, ok.nd, fun n ob a h1 h2 => ?_⟩, ⟨fun _ _ z => z, sH, ⟨[], by simp⟩, fun q z => .inl z, fun q u e1 e2 e3 => ?_, fun q o u e => by rw [upd_ne (ne_of_none e h)]; exact e⟩⟩
  · have ne : a ≠ p := fun z => hr (z ▸ List.mem_iff_getElem?.mpr ⟨n, h2⟩)
    rcases ok.cell n ob a h1 h2 with q | ⟨q, c⟩
    · exact .inl q
    · exact .inr ⟨q, by rw [upd_ne ne]; exact c⟩
  · exact ⟨by rw [upd_ne (ne_of_none e1 h)]; exact e1, e2⟩
theorem Ok.hidW {Z : Ct} {F H : Hp} {ro : List Addr} {G : Gp} (ok : Ok Z F ro H G) {p : Addr} (o : HO) (hf : F p = none) (hr : p ∉ ro) : Ok Z F ro (upd H p o) G := by
  have sH : Same F (upd H p o) := fun b u e => by rw [upd_ne (ne_of_none e hf)]; exact ok.sub _ _ e
  refine ⟨sH, ok.len, ok.nd, fun n ob a h1 h2 => ?_⟩
  have ne : a ≠ p := fun z => hr (z ▸ List.mem_iff_getElem?.mpr ⟨n, h2⟩)
  rcases ok.cell n ob a h1 h2 with q | ⟨q, c⟩
  · exact .inl q
  · exact .inr ⟨q, by rw [upd_ne ne]; exact c⟩
/-- .. it was not there at the beginning -/
theorem Nx.hid {F1 H1 F H H' : Hp} {ro1 ro : List Addr} (n : Nx F1 ro1 H1 F ro H) {p : Addr} (hf : F p = none) (h1 : H1 p = none) (e : ∀ q, q ≠ p → H' q = H q) : Nx F1 ro1 H1 F ro H' :=
  ⟨n.sub, fun b u q => by rw [e b (ne_of_none q hf)]; exact n.up _ _ q, n.pre, n.new, fun q u a b c => by rw [e q (ne_of_none a h1)]; exact n.out q u a b c, fun q o u a => by rw [e q (ne_of_none a h1)]; exact n.frz q o u a⟩
/-- .. it becomes known -/
theorem Ok.show {Z : Ct} {F1 H1 F H : Hp} {ro1 ro : List Addr} {G : Gp} (n : Nx F1 ro1 H1 F ro H) (ok : Ok Z F ro H G) {p : Addr} {o : HO} (hp : H p = some o) (hf : F p = none) (hr : p ∉ ro) (h1 : H1 p = none) : Ok Z (upd F p o) ro H G ∧ Nx F1 ro1 H1 (upd F p o) ro H := by
  have sH : Same (upd F p o) H := fun b u e => by
    by_cases hb : b = p
    · subst hb; rw [upd_same] at e; rw [hp]; exact e
    · rw [upd_ne hb] at e; exact ok.sub _ _ e
  refine ⟨⟨sH, ok.len, ok.nd, fun m ob a e1 e2 => ?_⟩, ⟨fun b u e => same_upd hf _ _ (n.sub _ _ e), sH, n.pre, n.new, fun q u a b c => ?_, n.frz⟩⟩
  · have ne : a ≠ p := fun z => hr (z ▸ List.mem_iff_getElem?.mpr ⟨m, e2⟩)
    rcases ok.cell m ob a e1 e2 with ⟨d, e, r, q⟩ | ⟨q, c⟩
    · exact .inl ⟨d, e, r.mono (same_upd hf) (fun _ _ z => z), by rw [upd_ne ne]; exact q⟩
    · exact .inr ⟨by rw [upd_ne ne]; exact q, c.mono (same_upd hf) (fun _ _ z => z)⟩
  · obtain ⟨x, y⟩ := n.out q u a b c
    exact ⟨x, by rw [upd_ne (ne_of_none a h1)]; exact y⟩
/-- .. or a cell -/
theorem Ok.showC {Z : Ct} {F1 H1 F H : Hp} {ro1 ro : List Addr} {G : Gp} (n : Nx F1 ro1 H1 F ro H) (ok : Ok Z F ro H G) {p : Addr} {o : HO} {ob : Ob} (hp : H p = some o) (hf : F p = none) (hr : p ∉ ro) (h1 : H1 p = none) (c : CellIs Z F ro ob (some o)) : Ok Z F (ro ++ [p]) H (G ++ [ob]) ∧ Nx F1 ro1 H1 F (ro ++ [p]) H := by
  have pg : ∀ (n : Nat) (a : Addr), ro[n]? = some a → (ro ++ [p])[n]? = some a := pre_get ⟨[p], rfl⟩
  refine ⟨⟨ok.sub, by simp [ok.len], ?_, fun n ob' a h1 h2 => ?_⟩, ⟨n.sub, n.up, ?_, fun q z => ?_, n.out, n.frz⟩⟩
  · rw [List.nodup_append]
    exact ⟨ok.nd, by simp, fun a ha b hb z => by simp at hb; subst hb; exact hr (z ▸ ha)⟩
  · by_cases hn : n < ro.length
    · have h2' : ro[n]? = some a := by rw [List.getElem?_append_left hn] at h2; exact h2
      have h1' : G[n]? = some ob' := by rw [List.getElem?_append_left (by rw [← ok.len]; exact hn)] at h1; exact h1
      rcases ok.cell n ob' a h1' h2' with ⟨d, e, r, q⟩ | ⟨q, c⟩
      · exact .inl ⟨d, e, r, q⟩
      · exact .inr ⟨q, c.mono (fun _ _ z => z) pg⟩
    · have hn' : ro.length ≤ n := Nat.le_of_not_lt hn
      rw [List.getElem?_append_right hn'] at h2
      rw [List.getElem?_append_right (by rw [← ok.len]; exact hn')] at h1
      have e0 : n - ro.length = 0 := by
        have := (List.getElem?_eq_some_iff.mp h2).1
        simp at this; omega
      rw [e0] at h2
      rw [← ok.len, e0] at h1
      simp at h1 h2
      subst h1 h2
      exact .inr ⟨hf, by rw [hp]; exact c.mono (fun _ _ z => z) pg⟩
  · obtain ⟨r, rfl⟩ := n.pre
    exact ⟨r ++ [p], by simp⟩
  · rcases List.mem_append.mp z with z | z
    · exact n.new q z
    · simp at z; subst z; exact .inr h1
theorem lc_T {tm : Tx} {em : Ex} {i : Nat} {vs : List Nat} (hi : i ∈ vs) {mi : Ix} {fin : List Mi.D → Gp → Out Mi.D}
    (hfin : ∀ F1 ro1 H1 F ro H G p xs ds (Q : VK) (σ : L2.St), Nx F1 ro1 H1 F ro H → Ok (ct X) F ro H G → H p = some (.lst xs) → F p = none → p ∉ ro → H1 p = none → Reps (ct X) F ro ds xs → Post (ct X) W (RD (ct X)) F1 ro1 H1 σ Q (fin ds G) → Q (.ref p) H)
    (σ : L2.St) (H : Hp) (Q : VK)
    (h : T (ct X) W (fun env G => (mi env G).bind fun xs G1 => (lcL i tm em (wipeE env vs) xs [] G1).bind fin) σ H Q) :
    tLc (Mi.TG (ct X) W (RI (ct X)) mi) (gName i) (Mi.TT (ct X) WF tm) (T (ct X) WF em) vs σ H Q := by
  obtain ⟨F, ro, G, env, ok, ev, h⟩ := h
  refine ⟨F, ro, G, env, ok, ev, (PostB (R := RI (ct X)) h).imp fun J H1 ⟨F1, ro1, xs, G1, n1, ok1, r1, h1⟩ => ?_⟩
  intro p hp
  obtain ⟨okp, np⟩ := ok1.hide (HO.lst []) hp
  obtain ⟨hf0, hr0⟩ := ok1.free hp
  have ev1 := (ev.nx n1).wipe vs
  refine ⟨fun i' m H => ∃ F2 ro2 G2 acc ws, m = xs.length - i' ∧ i' ≤ xs.length ∧ Nx F1 ro1 H1 F2 ro2 H ∧ Ok (ct X) F2 ro2 H G2 ∧ H p = some (.lst ws) ∧ F2 p = none ∧ p ∉ ro2 ∧ Reps (ct X) F2 ro2 acc ws ∧
      Post (ct X) W (RD (ct X)) F1 ro1 H1 σ Q ((lcL i tm em (wipeE env vs) (xs.drop i') acc G2).bind fin),
    ⟨xs.length, F1, ro1, G1, [], [], rfl, Nat.zero_le _, np, okp, upd_same, hf0, hr0, .nil, h1⟩, ?_⟩
  rintro j m H ⟨F2, ro2, G2, acc, ws, rfl, hle, n2, ok2, hpw, hpf, hpr, ra, h2⟩
  obtain ⟨hgo, hst⟩ := r1 F2 ro2 H n2.sub n2.up n2.pre j
  by_cases hlt : j < xs.length
  · obtain ⟨d, hd⟩ : ∃ d, xs[j]? = some d := ⟨_, List.getElem?_eq_getElem hlt⟩
    obtain ⟨go, yl⟩ := hgo d hd
    have hdrop : xs.drop j = d :: xs.drop (j + 1) := by
      have := (List.getElem?_eq_some_iff.mp hd).2
      rw [← this]
      exact List.drop_eq_getElem_cons hlt
    rw [hdrop] at h2
    refine .inr ⟨go, fun H' => ∃ F3 ro3 G3 acc ws, Nx F1 ro1 H1 F3 ro3 H' ∧ Ok (ct X) F3 ro3 H' G3 ∧ H' p = some (.lst ws) ∧ F3 p = none ∧ p ∉ ro3 ∧ Reps (ct X) F3 ro3 acc ws ∧ Post (ct X) W (RD (ct X)) F1 ro1 H1 σ Q ((lcL i tm em (wipeE env vs) (xs.drop (j + 1)) acc G3).bind fin),
      fun H' ⟨F3, ro3, G3, acc, ws, n3, ok3, a1, a2, a3, r3, h3⟩ => ⟨xs.length - (j + 1), by omega, F3, ro3, G3, acc, ws, rfl, hlt, n3, ok3, a1, a2, a3, r3, h3⟩, fun x H' y => ?_⟩
    obtain ⟨rfl, rx⟩ := yl x H' y
    refine ⟨wipe_set hi, F2, ro2, G2, (wipeE env vs).set i (some d), ok2, (ev1.nx n2).set rx i, ?_⟩
    unfold lcL at h2
    refine post_nox (P := fun r => Post (ct X) W (RD (ct X)) F1 ro1 H1 σ Q (r.bind fin)) h2 (fun z => z) fun b G3 et h3 F3 ro3 H3 b' n3 ok3 rb => ?_
    cases rb
    obtain ⟨b1, b2, b3⟩ := n3.keepH hpw hpf hpr
    cases b
    · refine iteF ⟨F3, ro3, G3, acc, ws, n2.trans n3, ok3, b1, b2, b3, ra.nx n3, h3⟩
    · refine iteT ⟨F3, ro3, G3, (wipeE env vs).set i (some d), ok3, ((ev1.nx n2).set rx i).nx n3, ?_⟩
      simp only [if_true] at h3
      refine post_nox (P := fun r => Post (ct X) W (RD (ct X)) F1 ro1 H1 σ Q (r.bind fin)) h3 (fun z => z) fun y G4 ee h4 F4 ro4 H4 vy n4 ok4 ry => ?_
      obtain ⟨c1, c2, c3⟩ := n4.keepH b1 b2 b3
      by_cases hl : acc.length < sizeLine
      · rw [if_pos hl] at h4
        refine ⟨ws, c1, by rw [← Reps.length ra]; exact hl, F4, ro4, G4, acc ++ [y], ws ++ [vy], ?_, ok4.hidW _ c2 c3, upd_same, c2, c3, ((ra.nx n3).nx n4).append (.cons ry .nil), h4⟩
        exact ((n2.trans n3).trans n4).hid c2 hp fun q hq => upd_ne hq
      · rw [if_neg hl] at h4
        exact h4.elim
  · have hj : j = xs.length := by omega
    subst hj
    rw [List.drop_length] at h2
    exact .inl ⟨hst (Nat.le_refl _), hfin F1 ro1 H1 F2 ro2 H G2 p ws acc Q σ n2 ok2 hpw hpf hpr hp ra h2⟩
variable (X) in
abbrev PTsm (ifs : List Expr) (t : Tx) : Prop := PTs X ifs (Mi.TT (ct X) WF t)
def mYes : Tx := fun _ G => .ok true G
theorem PTs.imp {ifs : List Expr} {t t' : L2.TT} (h : PTs X ifs t) (k : ∀ σ H Q, t' σ H Q → t σ H Q) : PTs X ifs t' := ⟨fun pins s σ H Q I q => h.run pins s σ H Q I (k σ H Q q)⟩
theorem tsm_nil : PTsm X [] mYes := PTs.imp pts_nil fun σ H Q ⟨F, ro, G, env, ok, ev, h⟩ => Post.ok (R := RB) ok h rfl
theorem tsm_one {c : Expr} {t : Tx} (h : PTm X WF c t) : PTsm X [c] t := pts_one h
/-- what a comprehension asks of its block -/
structure LcB (X : Cx) (W : WX) (elt tg iter : Expr) (ifs : List Expr) (scope : Scope) (own : List (Str × Nat)) (i : Nat) (mi : Ix) (tm : Tx) (em : Ex) : Prop where
  hi : PIm X W tg iter mi
  ok : BlkOk X.N X.env.scope scope own
  hg : ∀ (s : Shared) (H : Hp) (C : Addr) (cl : List (Str × Addr)) (fp : List Addr), PG (X.blk s H scope (compEnvC scope cl C X.env) fp) tg (gName i)
  ht : ∀ (s : Shared) (H : Hp) (C : Addr) (cl : List (Str × Addr)) (fp : List Addr), PTs (X.blk s H scope (compEnvC scope cl C X.env) fp) ifs (Mi.TT (ct X) WF tm)
  he : ∀ (s : Shared) (H : Hp) (C : Addr) (cl : List (Str × Addr)) (fp : List Addr), PE (X.blk s H scope (compEnvC scope cl C X.env) fp) elt (T (ct X) WF em)
theorem fin_F (F1 : Hp) (ro1 : List Addr) (H1 F : Hp) (ro : List Addr) (H : Hp) (G : Gp) (p : Addr) (xs : List V) (ds : List Mi.D) (Q : VK) (σ : L2.St) (n : Nx F1 ro1 H1 F ro H) (ok : Ok (ct X) F ro H G) (hp : H p = some (.lst xs)) (hf : F p = none) (hr : p ∉ ro) (h1 : H1 p = none) (r : Reps (ct X) F ro ds xs)
    (h : Post (ct X) W (RD (ct X)) F1 ro1 H1 σ Q (.ok (.lst ds) G)) : Q (.ref p) H := by
  obtain ⟨a, b⟩ := ok.show n hp hf hr h1
  exact h _ _ _ _ b a (.lst upd_same (r.mono (same_upd hf) fun _ _ z => z))
theorem fin_C (F1 : Hp) (ro1 : List Addr) (H1 F : Hp) (ro : List Addr) (H : Hp) (G : Gp) (p : Addr) (xs : List V) (ds : List Mi.D) (Q : VK) (σ : L2.St) (n : Nx F1 ro1 H1 F ro H) (ok : Ok (ct X) F ro H G) (hp : H p = some (.lst xs)) (hf : F p = none) (hr : p ∉ ro) (h1 : H1 p = none) (r : Reps (ct X) F ro ds xs)
    (h : Post (ct X) W (RD (ct X)) F1 ro1 H1 σ Q (.ok (.cel G.length) (G ++ [.lst ds]))) : Q (.ref p) H := by
  obtain ⟨a, b⟩ := ok.showC n hp hf hr h1 (.lst r)
  exact h _ _ _ _ b a (.cel (ok.last p))
theorem em_lc {elt tg iter : Expr} {ifs : List Expr} {scope : Scope} {own : List (Str × Nat)} {i : Nat} {mi : Ix} {tm : Tx} {em : Ex} (hc : X.calm = true) (hN : X.N.Nodup) (b : LcB X W elt tg iter ifs scope own i mi tm em) (hv : i ∈ own.map (·.2) := by decide)
    (hs : ∀ x, foldedSetIterable iter X.env x = pure x := by intro _; rfl) : PEm X W (.ListComp elt [⟨tg, iter, ifs, 0⟩] scope pos) (mLc i (own.map (·.2)) mi tm em) :=
  PE.imp (pe_lc hc hN b.hi b.ok b.hg b.ht b.he hs) (lc_T hv fin_F)
theorem em_lcC {elt tg iter : Expr} {ifs : List Expr} {scope : Scope} {own : List (Str × Nat)} {i : Nat} {mi : Ix} {tm : Tx} {em : Ex} (hc : X.calm = true) (hN : X.N.Nodup) (b : LcB X W elt tg iter ifs scope own i mi tm em) (hv : i ∈ own.map (·.2) := by decide)
    (hs : ∀ x, foldedSetIterable iter X.env x = pure x := by intro _; rfl) : PEm X W (.ListComp elt [⟨tg, iter, ifs, 0⟩] scope pos) (mLcC i (own.map (·.2)) mi tm em) :=
  PE.imp (pe_lc hc hN b.hi b.ok b.hg b.ht b.he hs) (lc_T hv fin_C)
theorem lc_S {te : TE} {me : Ex} (h : ∀ (σ : L2.St) (H : Hp) (Q : VK), T (ct X) W me σ H Q → te σ H Q) (i : Nat) (D : Ends) (σ : L2.St) (H : Hp) (q : TSm (ct X) W (mSet i me) D σ H) : tAsg te (gName i) D σ H := by
  obtain ⟨F, ro, G, env, ok, ev, q⟩ := q
  exact h σ H _ ⟨F, ro, G, env, ok, ev, (PostBS (R := RD (ct X)) ev q).imp fun v H1 ⟨F1, ro1, d1, G1, n1, ok1, r1, h1⟩ => h1.done ok1 ((ev.nx n1).set r1 i)⟩
theorem sm_setLc {j : Nat} {y : Str} {py spos : Pos} {elt tg iter : Expr} {ifs : List Expr} {scope : Scope} {own : List (Str × Nat)} {i : Nat} {mi : Ix} {tm : Tx} {em : Ex} (hc : X.calm = true) (hN : X.N.Nodup) (hy : X.N[j]? = some y) (hyl : X.env.scope.names.lookup y = some .local)
    (hsw : swapsWith (.ListComp elt [⟨tg, iter, ifs, 0⟩] scope pos) (some (.Name y py)) spos.line X.env = pure true) (b : LcB X W elt tg iter ifs scope own i mi tm em) (hv : i ∈ own.map (·.2) := by decide)
    (hs : ∀ x, foldedSetIterable iter X.env x = pure x := by intro _; rfl) : PSm X W (.Assign [.Name y py] (.ListComp elt [⟨tg, iter, ifs, 0⟩] scope pos) spos) (mSet j (mLc i (own.map (·.2)) mi tm em)) :=
  PS.imp (ps_setLc hc hN hy hyl hsw b.hi b.ok b.hg b.ht b.he hs) (lc_S (lc_T hv fin_F) j)
theorem sm_setLcC {j : Nat} {y : Str} {py spos : Pos} {elt tg iter : Expr} {ifs : List Expr} {scope : Scope} {own : List (Str × Nat)} {i : Nat} {mi : Ix} {tm : Tx} {em : Ex} (hc : X.calm = true) (hN : X.N.Nodup) (hy : X.N[j]? = some y) (hyl : X.env.scope.names.lookup y = some .local)
    (hsw : swapsWith (.ListComp elt [⟨tg, iter, ifs, 0⟩] scope pos) (some (.Name y py)) spos.line X.env = pure true) (b : LcB X W elt tg iter ifs scope own i mi tm em) (hv : i ∈ own.map (·.2) := by decide)
    (hs : ∀ x, foldedSetIterable iter X.env x = pure x := by intro _; rfl) : PSm X W (.Assign [.Name y py] (.ListComp elt [⟨tg, iter, ifs, 0⟩] scope pos) spos) (mSet j (mLcC i (own.map (·.2)) mi tm em)) :=
  PS.imp (ps_setLc hc hN hy hyl hsw b.hi b.ok b.hg b.ht b.he hs) (lc_S (lc_T hv fin_C) j)
end

/-! ### trees out of cells -/
def obD : Ob → Mi.D
  | .lst xs => .lst xs
  | .dct xs => .dct xs
  | .lck xs => .dct xs
  | .ins c fs => .ins c fs
  | .frz d => d
mutual
/-- the cells' contents put in -/
def sub1 (G : Gp) : Mi.D → Mi.D
  | .tup xs => .tup (sub1s G xs)
  | .lst xs => .lst (sub1s G xs)
  | .scr xs => .scr (sub1s G xs)
  | .dct xs => .dct (sub1k G xs)
  | .dck xs => .dck (sub1f G xs)
  | .ins c fs => .ins c (sub1f G fs)
  | .cel n => (match G[n]? with
    | some o => obD o
    | none => .cel n)
  | d => d
def sub1s (G : Gp) : List Mi.D → List Mi.D
  | [] => []
  | d :: r => sub1 G d :: sub1s G r
def sub1k (G : Gp) : List (Key × Mi.D) → List (Key × Mi.D)
  | [] => []
  | (k, d) :: r => (k, sub1 G d) :: sub1k G r
def sub1f (G : Gp) : List (Str × Mi.D) → List (Str × Mi.D)
  | [] => []
  | (k, d) :: r => (k, sub1 G d) :: sub1f G r
end
mutual
/-- no cell in it -/
def noC : Mi.D → Bool
  | .tup xs => noCs xs
  | .lst xs => noCs xs
  | .scr xs => noCs xs
  | .dct xs => noCk xs
  | .dck xs => noCf xs
  | .ins _ fs => noCf fs
  | .cel _ => false
  | _ => true
def noCs : List Mi.D → Bool
  | [] => true
  | d :: r => noC d && noCs r
def noCk : List (Key × Mi.D) → Bool
  | [] => true
  | (_, d) :: r => noC d && noCk r
def noCf : List (Str × Mi.D) → Bool
  | [] => true
  | (_, d) :: r => noC d && noCf r
end
def tree (G : Gp) (d : Mi.D) : Option Mi.D := if noC (sub1 G (sub1 G (sub1 G d))) then some (sub1 G (sub1 G (sub1 G d))) else none
section
variable {Z : Ct} {F F' H : Hp} {ro ro' : List Addr} {G : Gp}
mutual
theorem Rep.sub1 (c : ∀ (n : Nat) (ob : Ob) (a : Addr), G[n]? = some ob → ro[n]? = some a → Rep Z F ro (obD ob) (.ref a)) : ∀ {d : Mi.D} {v : V}, Rep Z F ro d v → Rep Z F ro (Mi.sub1 G d) v
  | _, _, .non => by simp only [Mi.sub1]; exact .non
  | _, _, .bl b => by simp only [Mi.sub1]; exact .bl b
  | _, _, .int b => by simp only [Mi.sub1]; exact .int b
  | _, _, .str b => by simp only [Mi.sub1]; exact .str b
  | _, _, .ty b => by simp only [Mi.sub1]; exact .ty b
  | _, _, .gl b => by simp only [Mi.sub1]; exact .gl b
  | _, _, .tup h r => by simp only [Mi.sub1]; exact .tup h (Reps.sub1 c r)
  | _, _, .lst h r => by simp only [Mi.sub1]; exact .lst h (Reps.sub1 c r)
  | _, _, .scr h r => by simp only [Mi.sub1]; exact .scr h (Reps.sub1 c r)
  | _, _, .dct h r => by simp only [Mi.sub1]; exact .dct h (RepK.sub1 c r)
  | _, _, .dck (kvs := kvs) h r m => by
    simp only [Mi.sub1]
    refine .dck h (RepN.sub1 c r) fun x e => m x ?_
    clear h r m
    induction kvs with
    | nil => rfl
    | cons p kvs ih =>
      obtain ⟨y, d⟩ := p
      simp only [sub1f, List.lookup_cons] at e ⊢
      split at e
      · cases e
      · exact ih e
  | _, _, .ins h1 h2 r => by simp only [Mi.sub1]; exact .ins h1 h2 (RepF.sub1 c r)
  | _, _, .cel (n := n) h => by
    simp only [Mi.sub1]
    cases e : G[n]? with
    | none => exact .cel h
    | some ob => exact c n ob _ e h
theorem Reps.sub1 (c : ∀ (n : Nat) (ob : Ob) (a : Addr), G[n]? = some ob → ro[n]? = some a → Rep Z F ro (obD ob) (.ref a)) : ∀ {d : List Mi.D} {v : List V}, Reps Z F ro d v → Reps Z F ro (Mi.sub1s G d) v
  | _, _, .nil => .nil
  | _, _, .cons h r => .cons (Rep.sub1 c h) (Reps.sub1 c r)
theorem RepK.sub1 (c : ∀ (n : Nat) (ob : Ob) (a : Addr), G[n]? = some ob → ro[n]? = some a → Rep Z F ro (obD ob) (.ref a)) : ∀ {d : List (Key × Mi.D)} {v : List (Key × V)}, RepK Z F ro d v → RepK Z F ro (Mi.sub1k G d) v
  | _, _, .nil => .nil
  | _, _, .cons h r => .cons (Rep.sub1 c h) (RepK.sub1 c r)
theorem RepN.sub1 (c : ∀ (n : Nat) (ob : Ob) (a : Addr), G[n]? = some ob → ro[n]? = some a → Rep Z F ro (obD ob) (.ref a)) : ∀ {a : Addr} {d : List (Str × Mi.D)}, RepN Z F ro a d → RepN Z F ro a (Mi.sub1f G d)
  | _, _, .nil => .nil
  | _, _, .cons h1 h2 h r => .cons h1 h2 (Rep.sub1 c h) (RepN.sub1 c r)
theorem RepF.sub1 (c : ∀ (n : Nat) (ob : Ob) (a : Addr), G[n]? = some ob → ro[n]? = some a → Rep Z F ro (obD ob) (.ref a)) : ∀ {d : List (Str × Mi.D)} {v : List (Str × V)}, RepF Z F ro d v → RepF Z F ro (Mi.sub1f G d) v
  | _, _, .nil => .nil
  | _, _, .cons h r => .cons (Rep.sub1 c h) (RepF.sub1 c r)
end
mutual
theorem Rep.noC : ∀ {d : Mi.D} {v : V}, Rep Z F ro d v → Mi.noC d = true → Rep Z F ro' d v
  | _, _, .non, _ => .non
  | _, _, .bl b, _ => .bl b
  | _, _, .int b, _ => .int b
  | _, _, .str b, _ => .str b
  | _, _, .ty b, _ => .ty b
  | _, _, .gl b, _ => .gl b
  | _, _, .tup h r, e => .tup h (Reps.noC r (by simpa only [Mi.noC] using e))
  | _, _, .lst h r, e => .lst h (Reps.noC r (by simpa only [Mi.noC] using e))
  | _, _, .scr h r, e => .scr h (Reps.noC r (by simpa only [Mi.noC] using e))
  | _, _, .dct h r, e => .dct h (RepK.noC r (by simpa only [Mi.noC] using e))
  | _, _, .dck h r m, e => .dck h (RepN.noC r (by simpa only [Mi.noC] using e)) m
  | _, _, .ins h1 h2 r, e => .ins h1 h2 (RepF.noC r (by simpa only [Mi.noC] using e))
  | _, _, .cel h, e => by simp [Mi.noC] at e
theorem Reps.noC : ∀ {d : List Mi.D} {v : List V}, Reps Z F ro d v → Mi.noCs d = true → Reps Z F ro' d v
  | _, _, .nil, _ => .nil
  | _, _, .cons h r, e => by simp only [Mi.noCs, Bool.and_eq_true] at e; exact .cons (Rep.noC h e.1) (Reps.noC r e.2)
theorem RepK.noC : ∀ {d : List (Key × Mi.D)} {v : List (Key × V)}, RepK Z F ro d v → Mi.noCk d = true → RepK Z F ro' d v
  | _, _, .nil, _ => .nil
  | _, _, .cons h r, e => by simp only [Mi.noCk, Bool.and_eq_true] at e; exact .cons (Rep.noC h e.1) (RepK.noC r e.2)
theorem RepN.noC : ∀ {a : Addr} {d : List (Str × Mi.D)}, RepN Z F ro a d → Mi.noCf d = true → RepN Z F ro' a d
  | _, _, .nil, _ => .nil
  | _, _, .cons h1 h2 h r, e => by simp only [Mi.noCf, Bool.and_eq_true] at e; exact .cons h1 h2 (Rep.noC h e.1) (RepN.noC r e.2)
theorem RepF.noC : ∀ {d : List (Str × Mi.D)} {v : List (Str × V)}, RepF Z F ro d v → Mi.noCf d = true → RepF Z F ro' d v
  | _, _, .nil, _ => .nil
  | _, _, .cons h r, e => by simp only [Mi.noCf, Bool.and_eq_true] at e; exact .cons (Rep.noC h e.1) (RepF.noC r e.2)
end
end

/-! ### locks as ghosts -/
inductive Lk : Hp → (Hp → Prop) → Prop
  | done {H : Hp} {Q : Hp → Prop} : Q H → Lk H Q
  | step {H : Hp} {Q : Hp → Prop} {d : Addr} {u : HO} : H d = some u → Mut (some u) → (∀ od, Lk (upd H d (.frz od u)) Q) → Lk H Q
theorem Lk.run {H : Hp} {Q : Hp → Prop} (l : Lk H Q) : ∀ {X : Cx} {pins : List (Addr × Obj)} {σ : L2.St} {s : Shared}, Inv X pins σ H s → ∃ H', Inv X pins σ H' s ∧ Q H' := by
  induction l with
  | done q => exact fun I => ⟨_, I, q⟩
  | step hd mu k ih =>
    intro X pins σ s I
    obtain ⟨od, I2⟩ := I.lock hd mu
    exact ih od I2
theorem PE.lk {X : Cx} {e : Expr} {t : TE} (h : PE X e t) : PE X e (fun σ H Q => t σ H fun v H' => Lk H' (Q v)) := by
  refine ⟨fun pins s σ H Q I q => thn (h.run pins s σ H _ I q) fun v s1 ⟨x, H1, I1, r1, q1⟩ => ?_⟩
  obtain ⟨H2, I2, q2⟩ := Lk.run q1 I1
  exact ⟨x, H2, I2, r1, q2⟩
/-- all dicts of some addresses are locked -/
theorem lockAll : ∀ (as : List Addr) (H : Hp) (Q : Hp → Prop), (∀ H3 : Hp, (∀ p, H3 p = H p ∨ (p ∈ as ∧ ∃ o ws, H p = some (.dK ws) ∧ H3 p = some (.frz o (.dK ws)))) → (∀ p ∈ as, ∀ ws, H3 p ≠ some (.dK ws)) → Q H3) → Lk H Q
  | [], H, Q, h => .done (h H (fun p => .inl rfl) (by simp))
  | a :: as, H, Q, h => by
    by_cases e : ∃ ws, H a = some (.dK ws)
    · obtain ⟨ws, ea⟩ := e
      refine .step ea trivial fun od => lockAll as _ Q fun H3 h1 h2 => h H3 (fun p => ?_) fun p hp ws' => ?_
      · rcases h1 p with q | ⟨m, o, w2, q1, q2⟩
        · by_cases hp : p = a
          · subst hp
            rw [upd_same] at q
            exact .inr ⟨List.mem_cons_self .., od, ws, ea, q⟩
          · rw [upd_ne hp] at q; exact .inl q
        · by_cases hp : p = a
          · subst hp
            rw [upd_same] at q1
            cases q1
          · rw [upd_ne hp] at q1
            exact .inr ⟨List.mem_cons_of_mem _ m, o, w2, q1, q2⟩
      · by_cases hpa : p = a
        · subst hpa
          rcases h1 p with q | ⟨m, o, w2, q1, q2⟩
          · rw [q, upd_same]; intro z; cases z
          · rw [q2]; intro z; cases z
        · exact h2 p ((List.mem_cons.mp hp).resolve_left hpa) ws'
    · refine lockAll as H Q fun H3 h1 h2 => h H3 (fun p => ?_) fun p hp ws' => ?_
      · rcases h1 p with q | ⟨m, q⟩
        · exact .inl q
        · exact .inr ⟨List.mem_cons_of_mem _ m, q⟩
      · rcases List.mem_cons.mp hp with rfl | hp
        · rcases h1 p with q | ⟨m, o, w2, q1, q2⟩
          · rw [q]; exact fun z => e ⟨_, z⟩
          · rw [q2]; intro z; cases z
        · exact h2 p hp ws'
/-- all cells become trees -/
theorem Ok.freeze {Z : Ct} {F H : Hp} {ro : List Addr} {G : Gp} (ok : Ok Z F ro H G) {Q : Hp → Prop}
    (h : ∀ F3 H3 : Hp, Same F F3 → Same F3 H3 → (∀ p, p ∉ ro → F3 p = F p ∧ H3 p = H p) → (∀ p o, F3 p = some o → F p = some o ∨ p ∈ ro) → (∀ p o u, H p = some (.frz o u) → H3 p = some (.frz o u)) → (∀ (n : Nat) (ob : Ob) (a : Addr), G[n]? = some ob → ro[n]? = some a → Rep Z F3 ro (obD ob) (.ref a)) → Q H3) : Lk H Q := by
  refine lockAll ro H Q fun H3 h1 h2 => ?_
  have notK : ∀ p u, F p = some u → p ∈ ro → H3 p = some u := fun p u e hp => by
    obtain ⟨n, hn⟩ := List.mem_iff_getElem?.mp hp
    obtain ⟨ob, ho⟩ := ok.cell_in hn
    rcases h1 p with q | ⟨_, o, ws, q1, q2⟩
    · rw [q]; exact ok.sub _ _ e
    · rcases ok.cell n ob p ho hn with ⟨d, _, _, u', e', nk⟩ | ⟨q, _⟩
      · rw [ok.sub _ _ e'] at q1
        cases q1
        exact absurd rfl (nk ws)
      · rw [q] at e; cases e
  have out : ∀ p, p ∉ ro → H3 p = H p := fun p hp => by
    rcases h1 p with q | ⟨m, _⟩
    · exact q
    · exact absurd m hp
  have F3d : ∀ p, (if p ∈ ro then H3 p else F p) = if p ∈ ro then H3 p else F p := fun _ => rfl
  have sF : Same F (fun p => if p ∈ ro then H3 p else F p) := fun p u e => by
    by_cases hp : p ∈ ro
    · show (if p ∈ ro then H3 p else F p) = some u
      rw [if_pos hp]; exact notK p u e hp
    · show (if p ∈ ro then H3 p else F p) = some u
      rw [if_neg hp]; exact e
  refine h (fun p => if p ∈ ro then H3 p else F p) H3 sF (fun p u e => ?_) (fun p hp => ⟨by show (if p ∈ ro then H3 p else F p) = F p; rw [if_neg hp], out p hp⟩) (fun p u e => ?_) (fun p o u e => ?_) fun n ob a h3 h4 => ?_
  · by_cases hp : p ∈ ro
    · have e' : (if p ∈ ro then H3 p else F p) = some u := e
      rw [if_pos hp] at e'; exact e'
    · have e' : (if p ∈ ro then H3 p else F p) = some u := e
      rw [if_neg hp] at e'
      rw [out p hp]; exact ok.sub _ _ e'
  · by_cases hp : p ∈ ro
    · exact .inr hp
    · have e' : (if p ∈ ro then H3 p else F p) = some u := e
      rw [if_neg hp] at e'; exact .inl e'
  · rcases h1 p with q | ⟨_, o', ws, q1, _⟩
    · rw [q]; exact e
    · rw [e] at q1; cases q1
  · have ha : a ∈ ro := List.mem_iff_getElem?.mpr ⟨n, h4⟩
    have eF : (if a ∈ ro then H3 a else F a) = H3 a := if_pos ha
    have idg : ∀ (n : Nat) (a : Addr), ro[n]? = some a → ro[n]? = some a := fun _ _ z => z
    rcases ok.cell n ob a h3 h4 with ⟨d, rfl, r, _⟩ | ⟨q, c⟩
    · exact r.mono sF (by simp)
    · generalize eH : H a = oh at c
      cases c with
      | lst r =>
        refine .lst (?_ : (if a ∈ ro then H3 a else F a) = _) (r.mono sF idg)
        rw [eF]
        rcases h1 a with z | ⟨_, o', ws, q1, _⟩
        · rw [z]; exact eH
        · rw [eH] at q1; cases q1
      | @dct ds vs r =>
        rcases h1 a with z | ⟨_, o', ws, q1, q2⟩
        · exact absurd (z.trans eH) (h2 a ha _)
        · rw [eH] at q1
          cases q1
          exact .dct (o := o') (show (if a ∈ ro then H3 a else F a) = _ by rw [eF]; exact q2) (r.mono sF idg)
      | @lck ds o vs r =>
        refine .dct (o := o) (ws := vs) (?_ : (if a ∈ ro then H3 a else F a) = _) (r.mono sF idg)
        rw [eF]
        rcases h1 a with z | ⟨_, o', ws, q1, _⟩
        · rw [z]; exact eH
        · rw [eH] at q1; cases q1
      | @ins c C dx ds vs hc r =>
        refine .ins (dx := dx) (ws := vs) hc (?_ : (if a ∈ ro then H3 a else F a) = _) (r.mono sF idg)
        rw [eF]
        rcases h1 a with z | ⟨_, o', ws, q1, _⟩
        · rw [z]; exact eH
        · rw [eH] at q1; cases q1

/-! ### defs -/
def fnM (n : Nat) (b : Sx) : Fm := fun ds G => match b (ds.map some ++ List.replicate (n - ds.length) none) G with
  | .nx _ G' => .ok .non G'
  | .rt d G' => .ok d G'
  | .exc c fs _ G' => .exc c fs G'
  | _ => .bad
abbrev WE1 (E : XK) : WX := fun c d _ H => E c d H
/-- the promise of a def by its mirror -/
def SpF (Z : Ct) (f : Fm) (n : Nat) : Sp := fun vs H Q E => ∃ F ro G ds, Ok Z F ro H G ∧ Reps Z F ro ds vs ∧ vs.length = n ∧ Post Z (WE1 E) (RD Z) F ro H [] Q (f ds G)
theorem evs_start {Z : Ct} {F : Hp} {ro : List Addr} : ∀ {ds : List Mi.D} {vs : List V} (k : Nat), Reps Z F ro ds vs → Evs Z F ro (ds.map some ++ List.replicate k none) (vs.map some ++ List.replicate k none) := by
  intro ds vs k r
  have key : ∀ (i : Nat) (d : Mi.D), (ds.map some ++ List.replicate k none)[i]? = some (some d) → ∃ v, (vs.map some ++ List.replicate k none)[i]? = some (some v) ∧ Rep Z F ro d v := fun i d e => by
    by_cases hi : i < ds.length
    · rw [List.getElem?_append_left (by simpa using hi), List.getElem?_map] at e
      have e' : ds[i]? = some d := by
        cases q : ds[i]? with
        | none => rw [q] at e; cases e
        | some x => rw [q] at e; cases e; rfl
      obtain ⟨v, hv, rv⟩ := Reps.get r e'
      exact ⟨v, by rw [List.getElem?_append_left (by rw [List.length_map, ← Reps.length r]; exact hi), List.getElem?_map, hv]; rfl, rv⟩
    · rw [List.getElem?_append_right (by simpa using Nat.le_of_not_lt hi)] at e
      have := List.mem_of_getElem? e
      simp at this
  refine ⟨by simp [Reps.length r], fun i d e _ => key i d e, fun x c fs _ e => ?_⟩
  obtain ⟨v, _, rv⟩ := key _ _ e
  cases rv
theorem fn_ok {P : Program} {w : World} {K : PySem.W.Frag} {mg : Str → Option Value} {base : Heap} {x qual : Str} {params : Arguments} {body : List Stmt} {scope : Scope} {dvs : List V} {kws : List (Str × V)} {f : Addr} {fd : FuncData} {N ps : List Str} {k : Nat} {b : Sx}
    (F : FunD K x qual params body scope dvs kws f fd) (S : FnScope N ps scope)
    (hb : ∀ (cdv : Value) (A : Around) (outer : List Env) (s : Shared) (H : Hp) (E : XK), Room k (A.deeper (envOfC qual scope s.heap.objs.size f cdv)) → PSsm (cxOf (L2.CX P w) P w K mg base N qual scope f cdv A outer s H E) (WE1 E) body b) :
    FnOk P w K mg base (L2.CX P w) (k + 1) f fd ps (SpF ⟨K, mg, w, none⟩ (fnM N.length b) ps.length) := by
  refine F.ok S (fun vs H Q E ⟨_, _, _, _, _, _, h, _⟩ => h) fun cdv A outer s H vs Q E hr ⟨F1, ro, G, ds, ok, r, hl, h⟩ => ⟨_, hb cdv A outer s H E hr, F1, ro, G, ds.map some ++ List.replicate (N.length - ds.length) none, ok, ?_, ?_⟩
  · rw [Reps.length r]
    exact evs_start _ r
  · unfold fnM at h
    cases e : b (ds.map some ++ List.replicate (N.length - ds.length) none) G with
    | nx e1 G1 => rw [e] at h; exact fun F2 ro2 H2 σ2 n ok2 ev2 => h F2 ro2 H2 .non n ok2 .non
    | rt d G1 => rw [e] at h; exact h
    | exc c fs e1 G1 => rw [e] at h; exact fun F2 ro2 H2 σ2 C dd ws n ok2 ev2 a b c => h F2 ro2 H2 C dd ws n ok2 a b c
    | bk e1 G1 => rw [e] at h; exact h.elim
    | ct e1 G1 => rw [e] at h; exact h.elim
    | bad => rw [e] at h; exact h.elim

/-! ### calls: the callee on trees alone, its cells become trees -/
/-- a frozen cell as its tree -/
def untie (G : Gp) : Mi.D → Mi.D
  | .cel n => (match G[n]? with
    | some (.frz d) => d
    | _ => .cel n)
  | d => d
theorem untie_ok {Z : Ct} {F H : Hp} {ro : List Addr} {G : Gp} (ok : Ok Z F ro H G) {d : Mi.D} {v : V} (r : Rep Z F ro d v) : Rep Z F ro (untie G d) v := by
  have r' := r
  cases r with
  | @cel n a e =>
    obtain ⟨ob, ho⟩ := ok.cell_in e
    simp only [untie, ho]
    rcases ok.cell n ob a ho e with ⟨d, rfl, rd, q⟩ | ⟨q, c⟩
    · exact rd.mono (fun _ _ z => z) (by simp)
    · cases ob with
      | frz d => generalize H a = oh at c; cases c
      | _ => exact r'
  | _ => exact r'
theorem unties_ok {Z : Ct} {F H : Hp} {ro : List Addr} {G : Gp} (ok : Ok Z F ro H G) : ∀ {ds : List Mi.D} {vs : List V}, Reps Z F ro ds vs → Reps Z F ro (ds.map (untie G)) vs
  | _, _, .nil => .nil
  | _, _, .cons r rs => .cons (untie_ok ok r) (unties_ok ok rs)
def treeF (G : Gp) (fs : List (Str × Mi.D)) : Option (List (Str × Mi.D)) := if noCf (sub1f G (sub1f G fs)) then some (sub1f G (sub1f G fs)) else none
def callF (f : Fm) (n : Nat) (ds : List Mi.D) (G : Gp) : Out Mi.D := if ds.length = n ∧ noCs (ds.map (untie G)) = true then (match f (ds.map (untie G)) [] with
  | .ok d G2 => (match tree G2 d with
    | some t => .ok t G
    | none => .bad)
  | .exc c fs _ => if noCf fs then .exc c fs G else .bad
  | .bad => .bad) else .bad
theorem ok_none {Z : Ct} {F H : Hp} {ro : List Addr} {G : Gp} (ok : Ok Z F ro H G) : Ok Z F [] H [] := ⟨ok.sub, rfl, List.nodup_nil, fun n ob a h => by simp at h⟩
/-- behind a call on trees: the callee's cells are trees, ours are as they were -/
theorem back_F {Z : Ct} {F1 H1 F2 H2 F3 H3 : Hp} {ro1 ro2 : List Addr} {G1 : Gp} (ok1 : Ok Z F1 ro1 H1 G1) (n : Nx F1 [] H1 F2 ro2 H2)
    (a : Same F2 F3) (b : Same F3 H3) (c : ∀ p, p ∉ ro2 → F3 p = F2 p ∧ H3 p = H2 p) (d : ∀ p o u, H2 p = some (.frz o u) → H3 p = some (.frz o u)) : Ok Z F3 ro1 H3 G1 ∧ Nx F1 ro1 H1 F3 ro1 H3 := by
  have new2 : ∀ p ∈ ro2, H1 p = none := fun p hp => (n.new p hp).resolve_left (by simp)
  have s13 : Same F1 F3 := fun p u e => a _ _ (n.sub _ _ e)
  refine ⟨⟨b, ok1.len, ok1.nd, fun m ob p e1 e2 => ?_⟩, ⟨s13, b, ⟨[], by simp⟩, fun p z => .inl z, fun p o e1 e2 e3 => ?_, fun p o u e => d _ _ _ (n.frz _ _ _ e)⟩⟩
  · have hp : p ∈ ro1 := List.mem_iff_getElem?.mpr ⟨m, e2⟩
    have hp2 : p ∉ ro2 := fun z => ok1.there hp (new2 p z)
    rcases ok1.cell m ob p e1 e2 with ⟨t, q1, r, u, q2, q3⟩ | ⟨q, cc⟩
    · exact .inl ⟨t, q1, r.mono s13 (fun _ _ z => z), u, s13 _ _ q2, q3⟩
    · cases e : H1 p with
      | none => exact absurd e (ok1.there hp)
      | some o =>
        obtain ⟨x, y⟩ := n.out p o e q (by simp)
        obtain ⟨c1, c2⟩ := c p hp2
        refine .inr ⟨by rw [c1]; exact y, ?_⟩
        rw [c2, x, ← e]
        exact cc.mono s13 (fun _ _ z => z)
  · have hp2 : p ∉ ro2 := fun z => by have := new2 p z; rw [e1] at this; cases this
    obtain ⟨x, y⟩ := n.out p o e1 e2 (by simp)
    obtain ⟨c1, c2⟩ := c p hp2
    exact ⟨by rw [c2]; exact x, by rw [c1]; exact y⟩
theorem sp_callF {Z : Ct} {E : XK} {f : Fm} {n : Nat} {F H : Hp} {ro : List Addr} {G : Gp} {ds : List Mi.D} {vs : List V} {σ : L2.St} {Q : VK} (ok : Ok Z F ro H G) (r : Reps Z F ro ds vs) (h : Post Z (WE1 E) (RD Z) F ro H σ Q (callF f n ds G)) : SpF Z f n vs H (fun v H' => Lk H' (Q v)) E := by
  unfold callF at h
  split at h
  · rename_i hn
    refine ⟨F, [], [], _, ok_none ok, Reps.noC (unties_ok ok r) hn.2, by rw [← Reps.length r]; exact hn.1, ?_⟩
    cases e : f (ds.map (untie G)) [] with
    | bad => rw [e] at h; exact h
    | exc c fs G2 =>
      rw [e] at h
      simp only at h
      split at h
      · rename_i hf
        intro F2 ro2 H2 C dd ws n2 ok2 h1 h2 h3
        obtain ⟨a, b⟩ := back_F (F3 := F2) (H3 := H2) ok n2 (fun _ _ z => z) ok2.sub (fun _ _ => ⟨rfl, rfl⟩) (fun _ _ _ z => z)
        exact h F2 ro H2 C dd ws b a h1 h2 (RepF.noC h3 hf)
      · exact h.elim
    | ok d G2 =>
      rw [e] at h
      simp only at h
      cases et : tree G2 d with
      | none => rw [et] at h; exact h.elim
      | some t =>
        rw [et] at h
        intro F2 ro2 H2 v n2 ok2 rv
        refine ok2.freeze fun F3 H3 s1 s2 s3 s4 s5 cells => ?_
        obtain ⟨a, b⟩ := back_F ok n2 s1 s2 s3 s5
        unfold tree at et
        split at et
        · rename_i hc
          cases et
          exact h F3 ro H3 v b a (Rep.noC (Rep.sub1 cells (Rep.sub1 cells (Rep.sub1 cells (rv.mono s1 fun _ _ z => z)))) hc)
        · cases et
  · exact h.elim
/-- f(e, ..) -/
def mCall (f : Fm) (n : Nat) (dfl : List Mi.D) (a : Ax) : Ex := fun env G => (a env G).bind fun ds G1 => callF f n (ds ++ dfl) G1
abbrev Pc (X : Cx) (E : XK) : Prop := Passes (L2.CX X.prog X.w) X E
section
variable {X : Cx} {pos : Pos} {E : XK} {k n : Nat} {f : Addr} {fd : FuncData} {ps : List Str} {fm : Fm} {dvs : List V} {dfl : List Mi.D} {ds : List Value} {x : Str} {p : Pos} {e : Expr} {es : List Expr} {ma : Ax}
theorem t_callF (hdf : ∀ F ro, Reps (ct X) F ro dfl dvs) (σ : L2.St) (H : Hp) (Q : VK) (h : T (ct X) (WE1 E) (mCall fm n dfl ma) σ H Q) : tCall (SpF (ct X) fm n) dvs E (Mi.TA (ct X) (WE1 E) ma) σ H (fun v H' => Lk H' (Q v)) := by
  obtain ⟨F, ro, G, env, ok, ev, h⟩ := h
  refine ⟨F, ro, G, env, ok, ev, (PostB (R := RA (ct X)) h).imp fun vs H1 ⟨F1, ro1, d1, G1, n1, ok1, r1, h1⟩ => ?_⟩
  exact sp_callF (σ := σ) ok1 (r1.append (hdf F1 ro1)) h1
theorem em_call (F : FnOk X.prog X.w X.K X.mg X.base (L2.CX X.prog X.w) k f fd ps (SpF (ct X) fm n)) (hr : Room k X.A) (hm : X.mg x = some (.ref f)) (hk : PySem.W.keepIn X.K (.ref f) = true) (hb : Binds X.K fd ps ds) (hd : Vals dvs ds) (hx : Pc X E)
    (hdf : ∀ F ro, Reps (ct X) F ro dfl dvs) (ha : PAm X (WE1 E) (e :: es) ma) (hg : Gl X x := by rfl) (hdb : (x == ("__debug__" : Str)) = false := by decide)
    (he : starEach (e :: es) X.env = (false, eval e X.env) :: starEach es X.env := by rfl) (hpl : (backTo pos (starEach es X.env)).any (·.1) = false := by rfl) : PEm X (WE1 E) (.Call (.Name x p) (e :: es) [] pos) (mCall fm n dfl ma) :=
  PE.imp (PE.lk (pe_call F hr hg hm hk hb hd hx ha hdb he hpl)) (t_callF hdf)
theorem em_call0 (F : FnOk X.prog X.w X.K X.mg X.base (L2.CX X.prog X.w) k f fd ps (SpF (ct X) fm n)) (hr : Room k X.A) (hm : X.mg x = some (.ref f)) (hk : PySem.W.keepIn X.K (.ref f) = true) (hb : Binds X.K fd ps ds) (hd : Vals dvs ds) (hx : Pc X E)
    (hdf : ∀ F ro, Reps (ct X) F ro dfl dvs) (hg : Gl X x := by rfl) (hdb : (x == ("__debug__" : Str)) = false := by decide) : PEm X (WE1 E) (.Call (.Name x p) [] [] pos) (mCall fm n dfl mNil) :=
  PE.imp (PE.lk (pe_call0 F hr hg hm hk hb hd hx hdb)) fun σ H Q h => by
    obtain ⟨F, ro, G, env, ok, ev, h⟩ := h
    exact sp_callF (σ := σ) ok (hdf F ro) h
end
end Mi

set_option maxHeartbeats 4000000
/-! Mi5: built-in functions and methods, stores, slices, attributes. -/
namespace Mi
open PySem PySem.Spec PyProof.Rows L2

section
variable {X : Cx} {W : WX} {pos : Pos}
/-! ### built-ins by values -/
variable (X) in
def CROk (r : List V → Hp → VK → Prop) (f : List Mi.D → Gp → Out Mi.D) : Prop := ∀ (W : WX) (F : Hp) (ro : List Addr) (H : Hp) (G : Gp) (ds : List Mi.D) (vs : List V) (σ : L2.St) (Q : VK), Ok (ct X) F ro H G → Reps (ct X) F ro ds vs →
  Post (ct X) W (RD (ct X)) F ro H σ Q (f ds G) → r vs H (fun v H' => Lk H' (Q v))
def mCB (f : List Mi.D → Gp → Out Mi.D) (a : Ax) : Ex := fun env G => (a env G).bind f
theorem t_cb {r : List V → Hp → VK → Prop} {f : List Mi.D → Gp → Out Mi.D} {ma : Ax} (hr : CROk X r f) (σ : L2.St) (H : Hp) (Q : VK) (h : T (ct X) W (mCB f ma) σ H Q) : tCB r (Mi.TA (ct X) W ma) σ H (fun v H' => Lk H' (Q v)) := by
  obtain ⟨F, ro, G, env, ok, ev, h⟩ := h
  exact ⟨F, ro, G, env, ok, ev, (PostB (R := RA (ct X)) h).imp fun vs H1 ⟨F1, ro1, d1, G1, n1, ok1, r1, h1⟩ => hr W F1 ro1 H1 G1 d1 vs σ Q ok1 r1 h1⟩
variable {x : Str} {p : Pos} {e : Expr} {es : List Expr} {ma : Ax} {id T' : String} {r : List V → Hp → VK → Prop} {f : List Mi.D → Gp → Out Mi.D}
theorem em_cb (hc : CallR X (.builtin id) r) (hr : CROk X r f) (hm : X.mg x = none) (hv : bootBuiltins x = some (.builtin id)) (ha : PAm X W (e :: es) ma) (hg : Gl X x := by rfl) (hn : x ≠ "__name__" := by decide) (hd : (x == ("__debug__" : Str)) = false := by decide)
    (he : starEach (e :: es) X.env = (false, eval e X.env) :: starEach es X.env := by rfl) (hpl : (backTo pos (starEach es X.env)).any (·.1) = false := by rfl) : PEm X W (.Call (.Name x p) (e :: es) [] pos) (mCB f ma) :=
  PE.imp (PE.lk (pe_callB hc hg hm hv ha hn hd he hpl)) (t_cb hr)
theorem em_ct (hc : CallR X (.type T') r) (hr : CROk X r f) (hm : X.mg x = none) (hv : bootBuiltins x = some (.type T')) (ha : PAm X W (e :: es) ma) (hg : Gl X x := by rfl) (hn : x ≠ "__name__" := by decide) (hd : (x == ("__debug__" : Str)) = false := by decide)
    (he : starEach (e :: es) X.env = (false, eval e X.env) :: starEach es X.env := by rfl) (hpl : (backTo pos (starEach es X.env)).any (·.1) = false := by rfl) : PEm X W (.Call (.Name x p) (e :: es) [] pos) (mCB f ma) :=
  PE.imp (PE.lk (pe_callTy hc hg hm hv ha hn hd he hpl)) (t_cb hr)
theorem lkd {H : Hp} {Q : Hp → Prop} (h : Q H) : Lk H Q := .done h

/-! len -/
def dLen : List Mi.D → Gp → Out Mi.D
  | [.str y], G => if y.length ≤ sizeLine then .ok (.int y.length) G else .bad
  | [d], G => (match seqOf G d with
    | some xs => .ok (.int xs.length) G
    | none => (match dctOf G d with
      | some xs => .ok (.int xs.length) G
      | none => .bad))
  | _, _ => .bad
abbrev rLenD : List V → Hp → VK → Prop := fun xs H Q => ∃ p kvs, xs = [.ref p] ∧ Rd H p (.dK kvs) ∧ Q (.int kvs.length) H
theorem call_lenR : CallR X (.builtin "len") rLenD := by
  intro pins s σ H xs us Q I rs h
  obtain ⟨p, kvs, rfl, hd, q⟩ := h
  obtain ⟨u, rfl, rx⟩ := vals1 rs
  cases rx
  exact d_len I hd fun t s' I' => ⟨.int kvs.length, H, I', ⟨t, rfl⟩, q⟩
abbrev rLenA (K : PySem.W.Frag) : List V → Hp → VK → Prop := fun xs H Q => (∃ x n, xs = [x] ∧ LenV K x H n ∧ Q (.int n) H) ∨ rLenD xs H Q
theorem call_lenA : CallR X (.builtin "len") (rLenA X.K) := call_len.or call_lenR
theorem ok_len : CROk X (rLenA X.K) dLen := by
  intro W F ro H G ds vs σ Q ok rs h
  cases rs with
  | nil => exact h.elim
  | @cons d v ds vs r rs =>
    cases rs with
    | cons _ _ => cases d <;> exact h.elim
    | nil =>
      have gen : (match seqOf G d with
        | some xs => Out.ok (.int xs.length) G
        | none => (match dctOf G d with
          | some xs => .ok (.int xs.length) G
          | none => .bad)) = dLen [d] G → rLenA X.K [v] H (fun v H' => Lk H' (Q v)) := by
        intro e
        rw [← e] at h
        cases e1 : seqOf G d with
        | some xs =>
          rw [e1] at h
          obtain ⟨a, ws, rfl, hs, q⟩ := seqOf_ok ok r e1
          refine .inl ⟨_, ws.length, rfl, ?_, lkd (by rw [← Reps.length q]; exact h.ok ok (.int _))⟩
          rcases hs with hs | hs
          · exact .inl ⟨ws, hs, rfl⟩
          · exact .inr ⟨ws, hs, rfl⟩
        | none =>
          rw [e1] at h
          cases e2 : dctOf G d with
          | none => rw [e2] at h; exact h.elim
          | some xs =>
            rw [e2] at h
            obtain ⟨a, ws, rfl, hs, q⟩ := dctOf_ok ok r e2
            exact .inr ⟨a, ws, rfl, hs, lkd (by rw [← RepK.length q]; exact h.ok ok (.int _))⟩
      cases r with
      | str y =>
        simp only [dLen] at h
        split at h
        · exact .inl ⟨_, _, rfl, ⟨by assumption, rfl⟩, lkd (h.ok ok (.int _))⟩
        · exact h.elim
      | _ => exact gen rfl

/-! int, str, bool of ints -/
def dInt : List Mi.D → Gp → Out Mi.D
  | [.int i], G => .ok (.int i) G
  | [.bl k], G => .ok (.int (if k then 1 else 0)) G
  | [.str a], G => (match PySem.intText? a with
    | some n => if a.length ≤ 640 then .ok (.int n) G else .bad
    | none => .bad)
  | _, _ => .bad
abbrev rIntA : List V → Hp → VK → Prop := fun xs H Q => ((∃ i, xs = [.int i] ∧ Q (.int i) H) ∨ ∃ k, xs = [.bl k] ∧ Q (.int (if k then 1 else 0)) H) ∨ (∃ a n, xs = [.str a] ∧ PySem.intText? a = some n ∧ a.length ≤ 640 ∧ Q (.int n) H)
theorem call_intA : CallR X (.type "int") rIntA := call_int1.or call_int_str
theorem ok_intF : CROk X rIntA dInt := by
  intro W F ro H G ds vs σ Q ok rs h
  cases rs with
  | nil => exact h.elim
  | @cons d v ds vs r rs =>
    cases rs with
    | cons _ _ => cases d <;> exact h.elim
    | nil =>
      cases r with
      | int i => exact .inl (.inl ⟨i, rfl, lkd (h.ok ok (.int _))⟩)
      | bl k => exact .inl (.inr ⟨k, rfl, lkd (h.ok ok (.int _))⟩)
      | str a =>
        simp only [dInt] at h
        cases e : PySem.intText? a with
        | none => rw [e] at h; exact h.elim
        | some n =>
          rw [e] at h
          simp only at h
          split at h
          · exact .inr ⟨a, n, rfl, e, by assumption, lkd (h.ok ok (.int _))⟩
          · exact h.elim
      | _ => exact h.elim
def dStr : List Mi.D → Gp → Out Mi.D
  | [.int i], G => if i.natAbs.log2 < 1920 then .ok (.str (toString i)) G else .bad
  | _, _ => .bad
theorem ok_strF : CROk X (fun xs H Q => ∃ i, xs = [.int i] ∧ i.natAbs.log2 < 1920 ∧ Q (.str (toString i)) H) dStr := by
  intro W F ro H G ds vs σ Q ok rs h
  cases rs with
  | nil => exact h.elim
  | @cons d v ds vs r rs =>
    cases rs with
    | cons _ _ => cases d <;> exact h.elim
    | nil =>
      cases r with
      | int i =>
        simp only [dStr] at h
        split at h
        · exact ⟨i, rfl, by assumption, lkd (h.ok ok (.str _))⟩
        · exact h.elim
      | _ => exact h.elim

/-! isinstance, a built-in class -/
def tyName (G : Gp) : Mi.D → Option String
  | .non => some "NoneType"
  | .bl _ => some "bool"
  | .int _ => some "int"
  | .str _ => some "str"
  | .tup _ => some "tuple"
  | .lst _ => some "list"
  | .scr _ => some "list"
  | .dct _ => some "dict"
  | .cel n => (match G[n]? with
    | some (.lst _) => some "list"
    | some (.dct _) => some "dict"
    | some (.frz (.lst _)) => some "list"
    | some (.frz (.dct _)) => some "dict"
    | _ => none)
  | _ => none
def dIsi : List Mi.D → Gp → Out Mi.D
  | [d, .ty n], G => (match tyName G d with
    | some t => (match kitB t n with
      | some b => .ok (.bl b) G
      | none => .bad)
    | none => .bad)
  | _, _ => .bad
theorem tyName_ok {F H : Hp} {ro : List Addr} {G : Gp} (ok : Ok (ct X) F ro H G) {d : Mi.D} {v : V} {t : String} (r : Rep (ct X) F ro d v) (h : tyName G d = some t) : TyX X.K H v (.type t) := by
  cases r with
  | non => simp only [tyName] at h; cases h; exact .base .non
  | bl b => simp only [tyName] at h; cases h; exact .base (.bl b)
  | int b => simp only [tyName] at h; cases h; exact .base (.int b)
  | str b => simp only [tyName] at h; cases h; exact .base (.str b)
  | tup e _ =>
    simp only [tyName] at h; cases h
    rcases e with (e | ⟨o, e⟩) | ⟨o, its, n, e, c, _⟩
    · exact .base (.tup (ok.sub _ _ e))
    · exact .fTuple (ok.sub _ _ e)
    · exact .kTuple e c
  | lst e _ => simp only [tyName] at h; cases h; exact .base (.lst (ok.sub _ _ e))
  | scr e _ =>
    simp only [tyName] at h; cases h
    rcases e with (e | ⟨o, e⟩) | ⟨o, its, n, e, c, _⟩
    · exact .base (.lst (ok.sub _ _ e))
    · exact .base (.frz (ok.sub _ _ e))
    · exact .kList e c
  | dct e _ => simp only [tyName] at h; cases h; exact .fDict (ok.sub _ _ e)
  | @cel n a e =>
    obtain ⟨ob, ho⟩ := ok.cell_in e
    simp only [tyName, ho] at h
    rcases ok.cell n ob a ho e with ⟨d, rfl, rd, q⟩ | ⟨q, c⟩
    · cases rd with
      | lst e _ => simp at h; subst h; exact .base (.lst (ok.sub _ _ e))
      | dct e _ => simp at h; subst h; exact .fDict (ok.sub _ _ e)
      | _ => simp at h
    · generalize eH : H a = oh at c
      cases c with
      | lst _ => simp at h; subst h; exact .base (.lst eH)
      | dct _ => simp at h; subst h; exact .base (.dK eH)
      | _ => simp at h
  | _ => simp [tyName] at h
theorem ok_isi : CROk X (rIsi X.K) dIsi := by
  intro W F ro H G ds vs σ Q ok rs h
  cases rs with
  | nil => exact h.elim
  | cons r rs =>
    cases rs with
    | nil => exact h.elim
    | cons r2 rs =>
      cases rs with
      | cons _ _ => cases r2 <;> exact h.elim
      | nil =>
        cases r2 with
        | ty n =>
          rename_i d v
          simp only [dIsi] at h
          cases e : tyName G d with
          | none => rw [e] at h; exact h.elim
          | some t =>
            rw [e] at h
            simp only at h
            cases e2 : kitB t n with
            | none => rw [e2] at h; exact h.elim
            | some b =>
              rw [e2] at h
              exact ⟨v, .ty n, .type t, .type n, b, rfl, .ty n, tyName_ok ok r e, kit_ty e2, lkd (h.ok ok (.bl _))⟩
        | _ => exact h.elim

/-! sorted of ints; any, all; list, tuple, dict of a thing -/
def intsOf : List Mi.D → Option (List Int)
  | [] => some []
  | .int i :: r => (intsOf r).map fun xs => i :: xs
  | _ => none
def sortI (ns : List Int) : List Int := ns.mergeSort (fun a b => decide (a ≤ b))
theorem sortI_perm (ns : List Int) : (sortI ns).Perm ns := List.mergeSort_perm ns _
theorem sortI_sorted (ns : List Int) : (sortI ns).Pairwise (· ≤ ·) := by
  have h := List.pairwise_mergeSort (le := fun (a b : Int) => decide (a ≤ b)) (fun a b c h1 h2 => by simp at *; omega) (fun a b => by simp; omega) ns
  exact h.imp (fun h => by simpa using h)
theorem sortI_eq {ns ns' : List Int} (p : ns'.Perm ns) (s : ns'.Pairwise (· ≤ ·)) : ns' = sortI ns := PySem.W.ksm_same (p.trans (sortI_perm ns).symm) s (sortI_sorted ns)
def dSorted : List Mi.D → Gp → Out Mi.D
  | [d], G => (match lstOf G d with
    | some xs => (match intsOf xs with
      | some ns => .ok (.lst ((sortI ns).map .int)) G
      | none => .bad)
    | none => .bad)
  | _, _ => .bad
theorem intsOf_rep {Z : Ct} {F : Hp} {ro : List Addr} : ∀ {ds : List Mi.D} {vs : List V} {ns : List Int}, Reps Z F ro ds vs → intsOf ds = some ns → vs = ns.map V.int
  | _, _, _, .nil, h => by simp only [intsOf] at h; cases h; rfl
  | _, _, _, .cons r rs, h => by
    cases r with
    | int i =>
      simp only [intsOf, Option.map_eq_some_iff] at h
      obtain ⟨xs, h1, rfl⟩ := h
      rw [intsOf_rep rs h1]; rfl
    | _ => simp [intsOf] at h
theorem reps_ints {Z : Ct} {F : Hp} {ro : List Addr} : ∀ ns : List Int, Reps Z F ro (ns.map .int) (ns.map V.int)
  | [] => .nil
  | n :: ns => .cons (.int n) (reps_ints ns)
theorem ok_sorted : CROk X (rSortedI X.K) dSorted := by
  intro W F ro H G ds vs σ Q ok rs h
  cases rs with
  | nil => exact h.elim
  | @cons d v ds vs r rs =>
    cases rs with
    | cons _ _ => exact h.elim
    | nil =>
      simp only [dSorted] at h
      cases e : lstOf G d with
      | none => rw [e] at h; exact h.elim
      | some xs =>
        rw [e] at h
        simp only at h
        cases e2 : intsOf xs with
        | none => rw [e2] at h; exact h.elim
        | some ns =>
          rw [e2] at h
          obtain ⟨a, ws, rfl, ha, q⟩ := lstOf_ok ok r e
          have ew := intsOf_rep q e2
          subst ew
          refine ⟨a, ns, rfl, SqL.of ha, fun ns' p pm so hp => lkd ?_⟩
          rw [sortI_eq pm so]
          exact post_newF ok h hp (lst_new ok hp (reps_ints _))
def bsOf : List Mi.D → Option (List Bool)
  | [] => some []
  | .bl i :: r => (bsOf r).map fun xs => i :: xs
  | _ => none
theorem bsOf_rep {Z : Ct} {F : Hp} {ro : List Addr} : ∀ {ds : List Mi.D} {vs : List V} {ns : List Bool}, Reps Z F ro ds vs → bsOf ds = some ns → vs = ns.map V.bl
  | _, _, _, .nil, h => by simp only [bsOf] at h; cases h; rfl
  | _, _, _, .cons r rs, h => by
    cases r with
    | bl i =>
      simp only [bsOf, Option.map_eq_some_iff] at h
      obtain ⟨xs, h1, rfl⟩ := h
      rw [bsOf_rep rs h1]; rfl
    | _ => simp [bsOf] at h
def dAny : List Mi.D → Gp → Out Mi.D
  | [d], G => (match lstOf G d with
    | some xs => (match bsOf xs with
      | some bs => .ok (.bl (bs.any fun b => b)) G
      | none => .bad)
    | none => .bad)
  | _, _ => .bad
def dAll : List Mi.D → Gp → Out Mi.D
  | [d], G => (match lstOf G d with
    | some xs => (match bsOf xs with
      | some bs => .ok (.bl (bs.all fun b => b)) G
      | none => .bad)
    | none => .bad)
  | _, _ => .bad
theorem ok_any : CROk X (rAny X.K) dAny := by
  intro W F ro H G ds vs σ Q ok rs h
  cases rs with
  | nil => exact h.elim
  | @cons d v ds vs r rs =>
    cases rs with
    | cons _ _ => exact h.elim
    | nil =>
      simp only [dAny] at h
      cases e : lstOf G d with
      | none => rw [e] at h; exact h.elim
      | some xs =>
        rw [e] at h
        simp only at h
        cases e2 : bsOf xs with
        | none => rw [e2] at h; exact h.elim
        | some ns =>
          rw [e2] at h
          obtain ⟨a, ws, rfl, ha, q⟩ := lstOf_ok ok r e
          have ew := bsOf_rep q e2
          subst ew
          exact ⟨a, ns, rfl, SqL.of ha, lkd (h.ok ok (.bl _))⟩
theorem ok_all : CROk X (rAll X.K) dAll := by
  intro W F ro H G ds vs σ Q ok rs h
  cases rs with
  | nil => exact h.elim
  | @cons d v ds vs r rs =>
    cases rs with
    | cons _ _ => exact h.elim
    | nil =>
      simp only [dAll] at h
      cases e : lstOf G d with
      | none => rw [e] at h; exact h.elim
      | some xs =>
        rw [e] at h
        simp only at h
        cases e2 : bsOf xs with
        | none => rw [e2] at h; exact h.elim
        | some ns =>
          rw [e2] at h
          obtain ⟨a, ws, rfl, ha, q⟩ := lstOf_ok ok r e
          have ew := bsOf_rep q e2
          subst ew
          exact ⟨a, ns, rfl, SqL.of ha, lkd (h.ok ok (.bl _))⟩
def dList : List Mi.D → Gp → Out Mi.D
  | [d], G => (match seqOf G d with
    | some xs => .ok (.lst xs) G
    | none => .bad)
  | _, _ => .bad
def dListC : List Mi.D → Gp → Out Mi.D
  | [d], G => (match seqOf G d with
    | some xs => .ok (.cel G.length) (G ++ [.lst xs])
    | none => .bad)
  | _, _ => .bad
def dTuple : List Mi.D → Gp → Out Mi.D
  | [d], G => (match seqOf G d with
    | some xs => .ok (.tup xs) G
    | none => .bad)
  | _, _ => .bad
abbrev rListOf (K : PySem.W.Frag) : List V → Hp → VK → Prop := fun xs H Q => ∃ p ys, xs = [.ref p] ∧ (SqL K H p ys ∨ SqT K H p ys) ∧ ∀ l, H l = none → Q (.ref l) (upd H l (.lst ys))
theorem ok_list : CROk X (rListOf X.K) dList := by
  intro W F ro H G ds vs σ Q ok rs h
  cases rs with
  | nil => exact h.elim
  | @cons d v ds vs r rs =>
    cases rs with
    | cons _ _ => exact h.elim
    | nil =>
      simp only [dList] at h
      cases e : seqOf G d with
      | none => rw [e] at h; exact h.elim
      | some xs =>
        rw [e] at h
        obtain ⟨a, ws, rfl, ha, q⟩ := seqOf_ok ok r e
        exact ⟨a, ws, rfl, ha, fun p hp => lkd (post_newF ok h hp (lst_new ok hp q))⟩
theorem ok_listC : CROk X (rListOf X.K) dListC := by
  intro W F ro H G ds vs σ Q ok rs h
  cases rs with
  | nil => exact h.elim
  | @cons d v ds vs r rs =>
    cases rs with
    | cons _ _ => exact h.elim
    | nil =>
      simp only [dListC] at h
      cases e : seqOf G d with
      | none => rw [e] at h; exact h.elim
      | some xs =>
        rw [e] at h
        obtain ⟨a, ws, rfl, ha, q⟩ := seqOf_ok ok r e
        exact ⟨a, ws, rfl, ha, fun p hp => lkd (post_newC ok h hp (.lst q) (.cel (ok.last p)))⟩
abbrev rTupOf (K : PySem.W.Frag) : List V → Hp → VK → Prop := fun xs H Q => ∃ p ys, xs = [.ref p] ∧ ((SqL K H p ys ∧ ∀ l, H l = none → Q (.ref l) (upd H l (.tup ys))) ∨ (SqT K H p ys ∧ Q (.ref p) H))
theorem ok_tuple : CROk X (rTupOf X.K) dTuple := by
  intro W F ro H G ds vs σ Q ok rs h
  cases rs with
  | nil => exact h.elim
  | @cons d v ds vs r rs =>
    cases rs with
    | cons _ _ => exact h.elim
    | nil =>
      simp only [dTuple] at h
      cases e : seqOf G d with
      | none => rw [e] at h; exact h.elim
      | some xs =>
        rw [e] at h
        have r' := r
        cases r with
        | tup e1 q => simp only [seqOf] at e; cases e; exact ⟨_, _, rfl, .inr ⟨SqT.up ok.sub e1, lkd (h.ok ok r')⟩⟩
        | scr e1 q => simp only [seqOf] at e; cases e; exact ⟨_, _, rfl, .inl ⟨ok.sub.seq e1, fun p hp => lkd (post_newF ok h hp (tup_new ok hp q))⟩⟩
        | _ =>
          obtain ⟨a, ws, e1, ha, q⟩ := lstOf_ok ok r' (by simpa only [seqOf] using e)
          cases e1 <;>
          exact ⟨_, ws, rfl, .inl ⟨SqL.of ha, fun p hp => lkd (post_newF ok h hp (tup_new ok hp q))⟩⟩
abbrev rDictOf : List V → Hp → VK → Prop := fun xs H Q => ∃ a kvs, xs = [.ref a] ∧ Rd H a (.dK kvs) ∧ ∀ p, H p = none → Q (.ref p) (upd H p (.dK kvs))
theorem call_dict_of : CallR X (.type "dict") rDictOf := by
  intro pins s σ H xs us Q I rs h
  obtain ⟨a, kvs, rfl, hd, q⟩ := h
  obtain ⟨u, rfl, rx⟩ := vals1 rs
  cases rx
  exact d_copyOf I hd fun p s' hp I' => ⟨.ref p, _, I', rfl, q p hp⟩
theorem lk_new {H : Hp} {Q : Hp → Prop} {p : Addr} {ws : List (Key × V)} (h : ∀ o, Q (upd H p (.frz o (.dK ws)))) : Lk (upd H p (.dK ws)) Q :=
  .step (d := p) (u := .dK ws) upd_same trivial fun od => .done (by rw [upd_upd]; exact h od)
theorem dct_new {Z : Ct} {F H : Hp} {ro : List Addr} {G : Gp} (ok : Ok Z F ro H G) {p : Addr} (hp : H p = none) {o : Obj} {ds : List (Key × Mi.D)} {vs : List (Key × V)} (r : RepK Z F ro ds vs) : Rep Z (upd F p (.frz o (.dK vs))) ro (.dct ds) (.ref p) :=
  .dct upd_same (r.mono (same_upd (ok.free hp).1) fun _ _ z => z)
def dDict : List Mi.D → Gp → Out Mi.D
  | [d], G => (match dctOf G d with
    | some xs => .ok (.dct xs) G
    | none => .bad)
  | _, _ => .bad
def dDictC : List Mi.D → Gp → Out Mi.D
  | [d], G => (match dctOf G d with
    | some xs => .ok (.cel G.length) (G ++ [.dct xs])
    | none => .bad)
  | _, _ => .bad
theorem ok_dict : CROk X rDictOf dDict := by
  intro W F ro H G ds vs σ Q ok rs h
  cases rs with
  | nil => exact h.elim
  | @cons d v ds vs r rs =>
    cases rs with
    | cons _ _ => exact h.elim
    | nil =>
      simp only [dDict] at h
      cases e : dctOf G d with
      | none => rw [e] at h; exact h.elim
      | some xs =>
        rw [e] at h
        obtain ⟨a, ws, rfl, ha, q⟩ := dctOf_ok ok r e
        exact ⟨a, ws, rfl, ha, fun p hp => lk_new fun o => post_newF ok h hp (dct_new ok hp q)⟩
theorem ok_dictC : CROk X rDictOf dDictC := by
  intro W F ro H G ds vs σ Q ok rs h
  cases rs with
  | nil => exact h.elim
  | @cons d v ds vs r rs =>
    cases rs with
    | cons _ _ => exact h.elim
    | nil =>
      simp only [dDictC] at h
      cases e : dctOf G d with
      | none => rw [e] at h; exact h.elim
      | some xs =>
        rw [e] at h
        obtain ⟨a, ws, rfl, ha, q⟩ := dctOf_ok ok r e
        exact ⟨a, ws, rfl, ha, fun p hp => lkd (post_newC ok h hp (.dct q) (.cel (ok.last p)))⟩
end
end Mi

set_option maxHeartbeats 4000000
/-! Mi6: methods of lists, texts, dicts; slices; signs. -/
namespace Mi
open PySem PySem.Spec PyProof.Rows L2

section
variable {X : Cx} {W : WX} {pos : Pos}
/-! ### methods by values -/
def tyD (G : Gp) (T : String) : Mi.D → Bool
  | .str _ => T == "str"
  | .lst _ => T == "list"
  | .scr _ => T == "list"
  | .cel n => (match G[n]? with
    | some (.lst _) => T == "list"
    | some (.frz (.lst _)) => T == "list"
    | some (.dct _) => T == "dict"
    | _ => false)
  | _ => false
theorem tyD_ok {F H : Hp} {ro : List Addr} {G : Gp} (ok : Ok (ct X) F ro H G) {d : Mi.D} {v : V} {T : String} (r : Rep (ct X) F ro d v) (h : tyD G T d = true) : tyV X.K T v H := by
  cases r with
  | str b => exact eq_of_beq h
  | lst e _ => exact .inl ⟨eq_of_beq h, _, SqL.of (ok.sub _ _ e)⟩
  | scr e _ => exact .inl ⟨eq_of_beq h, _, ok.sub.seq e⟩
  | @cel n a e =>
    obtain ⟨ob, ho⟩ := ok.cell_in e
    simp only [tyD, ho] at h
    rcases ok.cell n ob a ho e with ⟨d, rfl, rd, q⟩ | ⟨q, c⟩
    · cases rd with
      | lst e _ => exact .inl ⟨eq_of_beq h, _, SqL.of (ok.sub _ _ e)⟩
      | _ => simp at h
    · generalize eH : H a = oh at c
      cases c with
      | lst _ => exact .inl ⟨eq_of_beq h, _, SqL.of eH⟩
      | dct _ => exact .inr (.inr (.inl ⟨eq_of_beq h, .inl ⟨_, eH⟩⟩))
      | _ => simp at h
  | _ => simp [tyD] at h
abbrev Mf := Mi.D → List Mi.D → Gp → Out Mi.D
variable (X) in
def MOk (r : V → List V → Hp → VK → Prop) (f : Mf) : Prop := ∀ (W : WX) (F : Hp) (ro : List Addr) (H : Hp) (G : Gp) (d : Mi.D) (v : V) (ds : List Mi.D) (vs : List V) (σ : L2.St) (Q : VK), Ok (ct X) F ro H G → Rep (ct X) F ro d v → Reps (ct X) F ro ds vs →
  Post (ct X) W (RD (ct X)) F ro H σ Q (f d ds G) → r v vs H (fun v H' => Lk H' (Q v))
def mMt (T : String) (f : Mf) (o : Ex) (a : Ax) : Ex := fun env G => (o env G).bind fun d G1 => if tyD G1 T d then (a env G1).bind fun ds G2 => f d ds G2 else .bad
variable {o e : Expr} {es : List Expr} {mo : Ex} {ma : Ax} {name : Str} {apos cpos : Pos} {T' id : String} {r : V → List V → Hp → VK → Prop} {f : Mf}
theorem t_mt {K : PySem.W.Frag} (hK : K = X.K) (hr : MOk X r f) (σ : L2.St) (H : Hp) (Q : VK) (h : T (ct X) W (mMt T' f mo ma) σ H Q) : tBM K T' r (T (ct X) W mo) (Mi.TA (ct X) W ma) σ H (fun v H' => Lk H' (Q v)) := by
  subst hK
  obtain ⟨F, ro, G, env, ok, ev, h⟩ := h
  refine ⟨F, ro, G, env, ok, ev, (PostB (R := RD (ct X)) h).imp fun v H1 ⟨F1, ro1, d1, G1, n1, ok1, r1, h1⟩ => ?_⟩
  split at h1
  · rename_i ht
    refine ⟨tyD_ok ok1 r1 ht, F1, ro1, G1, env, ok1, ev.nx n1, (PostB (R := RA (ct X)) h1).imp fun vs H2 ⟨F2, ro2, d2, G2, n2, ok2, r2, h2⟩ => ?_⟩
    exact hr W F2 ro2 H2 G2 d1 v d2 vs σ Q ok2 (r1.nx n2) r2 h2
  · exact h1.elim
theorem em_bm (pa : PlainAttrs T') (slot : Slot T' name id) (hty : typeOf (.builtin id) = pure (.type "method_descriptor")) (hm : MtR X id r) (hr : MOk X r f) (ho : PEm X W o mo) (ha : PAm X W (e :: es) ma)
    (hbase : attributeBase o name X.env (eval o X.env) = eval o X.env := by rfl)
    (hfew : ((backTo cpos (starEach (e :: es) X.env)).all (fun x => !x.1) && (backToKw cpos (keywordEach [] X.env)).all (fun x => x.1.isSome)
      && decide ((e :: es).length + ([] : List Keyword).length + (if ([] : List Keyword).isEmpty then 0 else 1) < 30)) = true := by rfl)
    (hline : (apos.endLine == cpos.line) = true := by rfl) (hs : starEach (e :: es) X.env = (false, eval e X.env) :: starEach es X.env := by rfl) (hplain : (backTo cpos (starEach es X.env)).any (·.1) = false := by rfl) :
    PEm X W (.Call (.Attribute o name apos) (e :: es) [] cpos) (mMt T' f mo ma) :=
  PE.imp (PE.lk (pe_bm pa slot hty hm ho ha hbase hfew hline hs hplain)) (t_mt rfl hr)
theorem em_bm0 (pa : PlainAttrs T') (slot : Slot T' name id) (hty : typeOf (.builtin id) = pure (.type "method_descriptor")) (hm : MtR X id r) (hr : MOk X r f) (ho : PEm X W o mo)
    (hbase : attributeBase o name X.env (eval o X.env) = eval o X.env := by rfl) (hline : (apos.endLine == cpos.line) = true := by rfl) : PEm X W (.Call (.Attribute o name apos) [] [] cpos) (mMt T' f mo mNil) :=
  PE.imp (PE.lk (pe_bm0 pa slot hty hm ho hbase hline)) fun σ H Q h => by
    obtain ⟨F, ro, G, env, ok, ev, h⟩ := h
    refine ⟨F, ro, G, env, ok, ev, (PostB (R := RD (ct X)) h).imp fun v H1 ⟨F1, ro1, d1, G1, n1, ok1, r1, h1⟩ => ?_⟩
    split at h1
    · rename_i ht
      exact ⟨tyD_ok ok1 r1 ht, hr W F1 ro1 H1 G1 d1 v [] [] σ Q ok1 r1 .nil h1⟩
    · exact h1.elim
/-- a live cell -/
theorem cell_lst {Z : Ct} {F H : Hp} {ro : List Addr} {G : Gp} (ok : Ok Z F ro H G) {n : Nat} {v : V} {xs : List Mi.D} (r : Rep Z F ro (.cel n) v) (h : G[n]? = some (.lst xs)) : ∃ a vs, v = .ref a ∧ ro[n]? = some a ∧ F a = none ∧ H a = some (.lst vs) ∧ Reps Z F ro xs vs := by
  cases r with
  | @cel n a e =>
    rcases ok.cell n _ a h e with ⟨d, q, _⟩ | ⟨q, c⟩
    · cases q
    · generalize eH : H a = oh at c
      cases c with
      | lst rs => exact ⟨a, _, rfl, e, q, eH, rs⟩
theorem cell_dct {Z : Ct} {F H : Hp} {ro : List Addr} {G : Gp} (ok : Ok Z F ro H G) {n : Nat} {v : V} {xs : List (Key × Mi.D)} (r : Rep Z F ro (.cel n) v) (h : G[n]? = some (.dct xs)) : ∃ a vs, v = .ref a ∧ ro[n]? = some a ∧ F a = none ∧ H a = some (.dK vs) ∧ RepK Z F ro xs vs := by
  cases r with
  | @cel n a e =>
    rcases ok.cell n _ a h e with ⟨d, q, _⟩ | ⟨q, c⟩
    · cases q
    · generalize eH : H a = oh at c
      cases c with
      | dct rs => exact ⟨a, _, rfl, e, q, eH, rs⟩
theorem post_wr {R : Hp → List Addr → Mi.D → V → Prop} {Z : Ct} {F H : Hp} {ro : List Addr} {G : Gp} {σ : L2.St} {Q : VK} {d : Mi.D} {v : V} {n : Nat} {ob' : Ob} {a : Addr} {o : HO} (ok : Ok Z F ro H G) (h : Post Z W R F ro H σ Q (.ok d (G.set n ob'))) (h2 : ro[n]? = some a) (hf : F a = none)
    (c : CellIs Z F ro ob' (some o)) (hw : ∀ o u, H a ≠ some (.frz o u)) (r : R F ro d v) : Q v (upd H a o) := let ⟨x, y⟩ := ok.write h2 hf c hw; h _ _ _ _ y x r
theorem nofrz {H : Hp} {a : Addr} {u : HO} (h : H a = some u) (n : ∀ o w, u ≠ .frz o w) : ∀ o w, H a ≠ some (.frz o w) := fun o w z => n o w (Option.some.inj (h.symm.trans z))

def fAppend : Mf
  | .cel n, [d], G => (match G[n]? with
    | some (.lst xs) => if xs.length < sizeLine then .ok .non (G.set n (.lst (xs ++ [d]))) else .bad
    | _ => .bad)
  | _, _, _ => .bad
theorem m_append : MOk X rAppend fAppend := by
  intro W F ro H G d v ds vs σ Q ok rd rs h
  cases d with
  | cel n =>
    cases rs with
    | nil => exact h.elim
    | cons r1 rs =>
      cases rs with
      | cons _ _ => exact h.elim
      | nil =>
        rename_i d1 v1
        simp only [fAppend] at h
        cases e : G[n]? with
        | none => rw [e] at h; exact h.elim
        | some ob =>
          rw [e] at h
          cases ob with
          | lst xs =>
            simp only at h
            split at h
            · rename_i hz
              obtain ⟨a, ws, rfl, h1, h2, h3, h4⟩ := cell_lst ok rd e
              refine ⟨a, ws, v1, rfl, rfl, h3, by rw [← Reps.length h4]; exact hz, lkd ?_⟩
              exact post_wr ok h h1 h2 (.lst (h4.append (.cons r1 .nil))) (nofrz h3 fun _ _ z => by cases z) .non
            · exact h.elim
          | _ => exact h.elim
  | _ => exact h.elim
def fExtend : Mf
  | .cel n, [d], G => (match G[n]?, lstOf G d with
    | some (.lst xs), some ys => if xs.length + ys.length ≤ sizeLine then .ok .non (G.set n (.lst (xs ++ ys))) else .bad
    | _, _ => .bad)
  | _, _, _ => .bad
theorem m_extend : MOk X rExtend fExtend := by
  intro W F ro H G d v ds vs σ Q ok rd rs h
  cases d with
  | cel n =>
    cases rs with
    | nil => exact h.elim
    | cons r1 rs =>
      cases rs with
      | cons _ _ => exact h.elim
      | nil =>
        rename_i d1 v1
        simp only [fExtend] at h
        cases e : G[n]? with
        | none => rw [e] at h; exact h.elim
        | some ob =>
          rw [e] at h
          cases ob with
          | lst xs =>
            cases e2 : lstOf G d1 with
            | none => rw [e2] at h; exact h.elim
            | some ys =>
              rw [e2] at h
              simp only at h
              split at h
              · rename_i hz
                obtain ⟨a, ws, rfl, h1, h2, h3, h4⟩ := cell_lst ok rd e
                obtain ⟨b, us, rfl, h5, h6⟩ := lstOf_ok ok r1 e2
                refine ⟨a, b, ws, us, rfl, rfl, h3, h5, by rw [← Reps.length h4, ← Reps.length h6]; exact hz, lkd ?_⟩
                exact post_wr ok h h1 h2 (.lst (h4.append h6)) (nofrz h3 fun _ _ z => by cases z) .non
              · exact h.elim
          | _ => exact h.elim
  | _ => exact h.elim
def fClear : Mf
  | .cel n, [], G => (match G[n]? with
    | some (.lst _) => .ok .non (G.set n (.lst []))
    | _ => .bad)
  | _, _, _ => .bad
theorem m_clear : MOk X rClear fClear := by
  intro W F ro H G d v ds vs σ Q ok rd rs h
  cases d with
  | cel n =>
    cases rs with
    | cons _ _ => exact h.elim
    | nil =>
      simp only [fClear] at h
      cases e : G[n]? with
      | none => rw [e] at h; exact h.elim
      | some ob =>
        rw [e] at h
        cases ob with
        | lst xs =>
          obtain ⟨a, ws, rfl, h1, h2, h3, h4⟩ := cell_lst ok rd e
          exact ⟨a, ws, rfl, rfl, h3, lkd (post_wr ok h h1 h2 (.lst .nil) (nofrz h3 fun _ _ z => by cases z) .non)⟩
        | _ => exact h.elim
  | _ => exact h.elim
abbrev rInsert : V → List V → Hp → VK → Prop := fun x vs H Q => ∃ (l : Addr) (xs : List V) (i : Int) (y : V), x = .ref l ∧ vs = [.int i, y] ∧ H l = some (.lst xs) ∧ xs.length < sizeLine ∧ 0 ≤ i ∧ i < 2 ^ 63 ∧
    Q .non (upd H l (.lst (xs.take i.toNat ++ [y] ++ xs.drop i.toNat)))
def fInsert : Mf
  | .cel n, [.int i, d], G => (match G[n]? with
    | some (.lst xs) => if xs.length < sizeLine ∧ 0 ≤ i ∧ i < 2 ^ 63 then .ok .non (G.set n (.lst (xs.take i.toNat ++ [d] ++ xs.drop i.toNat))) else .bad
    | _ => .bad)
  | _, _, _ => .bad
theorem Reps.take {Z : Ct} {F : Hp} {ro : List Addr} : ∀ {ds : List Mi.D} {vs : List V} (k : Nat), Reps Z F ro ds vs → Reps Z F ro (ds.take k) (vs.take k)
  | _, _, 0, _ => by simp only [List.take_zero]; exact .nil
  | _, _, _ + 1, .nil => .nil
  | _, _, k + 1, .cons r rs => .cons r (Reps.take k rs)
theorem Reps.drop {Z : Ct} {F : Hp} {ro : List Addr} : ∀ {ds : List Mi.D} {vs : List V} (k : Nat), Reps Z F ro ds vs → Reps Z F ro (ds.drop k) (vs.drop k)
  | _, _, 0, r => r
  | _, _, _ + 1, .nil => .nil
  | _, _, k + 1, .cons r rs => Reps.drop k rs
theorem m_insert : MOk X rInsert fInsert := by
  intro W F ro H G d v ds vs σ Q ok rd rs h
  cases d with
  | cel n =>
    cases rs with
    | nil => exact h.elim
    | cons r0 rs =>
      cases rs with
      | nil => cases r0 <;> exact h.elim
      | cons r1 rs =>
        cases rs with
        | cons _ _ => cases r0 <;> exact h.elim
        | nil =>
          rename_i d1 v1
          cases r0 with
          | int i =>
            simp only [fInsert] at h
            cases e : G[n]? with
            | none => rw [e] at h; exact h.elim
            | some ob =>
              rw [e] at h
              cases ob with
              | lst xs =>
                simp only at h
                split at h
                · rename_i hz
                  obtain ⟨a, ws, rfl, h1, h2, h3, h4⟩ := cell_lst ok rd e
                  refine ⟨a, ws, i, v1, rfl, rfl, h3, by rw [← Reps.length h4]; exact hz.1, hz.2.1, hz.2.2, lkd ?_⟩
                  exact post_wr ok h h1 h2 (.lst (((h4.take _).append (.cons r1 .nil)).append (h4.drop _))) (nofrz h3 fun _ _ z => by cases z) .non
                · exact h.elim
              | _ => exact h.elim
          | _ => exact h.elim
  | _ => exact h.elim
theorem em_append (ho : PEm X W o mo) (ha : PAm X W [e] ma) (hbase : attributeBase o "append" X.env (eval o X.env) = eval o X.env := by rfl) (hs : starEach [e] X.env = [(false, eval e X.env)] := by rfl)
    (hfew : ((backTo cpos (starEach [e] X.env)).all (fun x => !x.1) && (backToKw cpos (keywordEach [] X.env)).all (fun x => x.1.isSome) && decide ([e].length + ([] : List Keyword).length + (if ([] : List Keyword).isEmpty then 0 else 1) < 30)) = true := by rfl)
    (hline : (apos.endLine == cpos.line) = true := by rfl) : PEm X W (.Call (.Attribute o "append" apos) [e] [] cpos) (mMt "list" fAppend mo ma) := em_bm F.plainAttrs_list F.slot_list_append F.type_list_append mt_append m_append ho ha hbase hfew hline hs
theorem em_extend (ho : PEm X W o mo) (ha : PAm X W [e] ma) (hbase : attributeBase o "extend" X.env (eval o X.env) = eval o X.env := by rfl) (hs : starEach [e] X.env = [(false, eval e X.env)] := by rfl)
    (hfew : ((backTo cpos (starEach [e] X.env)).all (fun x => !x.1) && (backToKw cpos (keywordEach [] X.env)).all (fun x => x.1.isSome) && decide ([e].length + ([] : List Keyword).length + (if ([] : List Keyword).isEmpty then 0 else 1) < 30)) = true := by rfl)
    (hline : (apos.endLine == cpos.line) = true := by rfl) : PEm X W (.Call (.Attribute o "extend" apos) [e] [] cpos) (mMt "list" fExtend mo ma) := em_bm F.plainAttrs_list F.slot_list_extend F.type_list_extend mt_extend m_extend ho ha hbase hfew hline hs
theorem em_clear (ho : PEm X W o mo) (hbase : attributeBase o "clear" X.env (eval o X.env) = eval o X.env := by rfl) (hline : (apos.endLine == cpos.line) = true := by rfl) : PEm X W (.Call (.Attribute o "clear" apos) [] [] cpos) (mMt "list" fClear mo mNil) :=
  em_bm0 F.plainAttrs_list F.slot_list_clear F.type_list_clear mt_clear m_clear ho hbase hline
theorem em_insert {e2 : Expr} (ho : PEm X W o mo) (ha : PAm X W [e, e2] ma) (hbase : attributeBase o "insert" X.env (eval o X.env) = eval o X.env := by rfl) (hs : starEach [e, e2] X.env = (false, eval e X.env) :: starEach [e2] X.env := by rfl)
    (hpl : (backTo cpos (starEach [e2] X.env)).any (·.1) = false := by rfl)
    (hfew : ((backTo cpos (starEach [e, e2] X.env)).all (fun x => !x.1) && (backToKw cpos (keywordEach [] X.env)).all (fun x => x.1.isSome) && decide ([e, e2].length + ([] : List Keyword).length + (if ([] : List Keyword).isEmpty then 0 else 1) < 30)) = true := by rfl)
    (hline : (apos.endLine == cpos.line) = true := by rfl) : PEm X W (.Call (.Attribute o "insert" apos) [e, e2] [] cpos) (mMt "list" fInsert mo ma) := em_bm F.plainAttrs_list F.slot_list_insert F.type_list_insert mt_insert m_insert ho ha hbase hfew hline hs hpl

/-! ### texts -/
def strsOf : List Mi.D → Option (List Str)
  | [] => some []
  | .str i :: r => (strsOf r).map fun xs => i :: xs
  | _ => none
theorem strsOf_rep {Z : Ct} {F : Hp} {ro : List Addr} : ∀ {ds : List Mi.D} {vs : List V} {ns : List Str}, Reps Z F ro ds vs → strsOf ds = some ns → vs = ns.map V.str
  | _, _, _, .nil, h => by simp only [strsOf] at h; cases h; rfl
  | _, _, _, .cons r rs, h => by
    cases r with
    | str i =>
      simp only [strsOf, Option.map_eq_some_iff] at h
      obtain ⟨xs, h1, rfl⟩ := h
      rw [strsOf_rep rs h1]; rfl
    | _ => simp [strsOf] at h
theorem reps_strs {Z : Ct} {F : Hp} {ro : List Addr} : ∀ ns : List Str, Reps Z F ro (ns.map .str) (ns.map V.str)
  | [] => .nil
  | n :: ns => .cons (.str n) (reps_strs ns)
def fSplit : Mf
  | .str a, [.str b], G => if (b.length == 0) = false ∧ a.length + 2 ≤ sizeLine then .ok (.lst ((Txt.split a b).map .str)) G else .bad
  | _, _, _ => .bad
abbrev rSplit : V → List V → Hp → VK → Prop := fun x xs H Q => ∃ a b, x = .str a ∧ xs = [.str b] ∧ (b.length == 0) = false ∧ a.length + 2 ≤ sizeLine ∧ rNewStrs (Txt.split a b) H Q
theorem m_split : MOk X rSplit fSplit := by
  intro W F ro H G d v ds vs σ Q ok rd rs h
  cases rd with
  | str a =>
    cases rs with
    | nil => exact h.elim
    | cons r1 rs =>
      cases rs with
      | cons _ _ => cases r1 <;> exact h.elim
      | nil =>
        cases r1 with
        | str b =>
          simp only [fSplit] at h
          split at h
          · rename_i hz
            exact ⟨a, b, rfl, rfl, hz.1, hz.2, fun p hp => lkd (post_newF ok h hp (lst_new ok hp (reps_strs _)))⟩
          · exact h.elim
        | _ => exact h.elim
  | _ => exact h.elim
theorem em_split (ho : PEm X W o mo) (ha : PAm X W [e] ma) (hbase : attributeBase o "split" X.env (eval o X.env) = eval o X.env := by rfl) (hs : starEach [e] X.env = [(false, eval e X.env)] := by rfl)
    (hfew : ((backTo cpos (starEach [e] X.env)).all (fun x => !x.1) && (backToKw cpos (keywordEach [] X.env)).all (fun x => x.1.isSome) && decide ([e].length + ([] : List Keyword).length + (if ([] : List Keyword).isEmpty then 0 else 1) < 30)) = true := by rfl)
    (hline : (apos.endLine == cpos.line) = true := by rfl) : PEm X W (.Call (.Attribute o "split" apos) [e] [] cpos) (mMt "str" fSplit mo ma) := em_bm F.plainAttrs_str F.slot_str_split F.type_str_split mt_split m_split ho ha hbase hfew hline hs
def fJoin : Mf
  | .str a, [d], G => (match lstOf G d with
    | some xs => (match strsOf xs with
      | some ys => if (ys.map (·.length)).sum + ys.length * a.length ≤ 16777216 then .ok (.str (Txt.join a ys)) G else .bad
      | none => .bad)
    | none => .bad)
  | _, _, _ => .bad
abbrev rJoin (K : PySem.W.Frag) : V → List V → Hp → VK → Prop := fun x xs H Q => ∃ a p, ∃ ys : List Str, x = .str a ∧ xs = [.ref p] ∧ (SqL K H p (ys.map V.str) ∨ SqT K H p (ys.map V.str)) ∧
    (ys.map (·.length)).sum + ys.length * a.length ≤ 16777216 ∧ Q (.str (Txt.join a ys)) H
theorem m_join : MOk X (rJoin X.K) fJoin := by
  intro W F ro H G d v ds vs σ Q ok rd rs h
  cases rd with
  | str a =>
    cases rs with
    | nil => exact h.elim
    | cons r1 rs =>
      cases rs with
      | cons _ _ => exact h.elim
      | nil =>
        rename_i d1 v1
        simp only [fJoin] at h
        cases e : lstOf G d1 with
        | none => rw [e] at h; exact h.elim
        | some xs =>
          rw [e] at h
          simp only at h
          cases e2 : strsOf xs with
          | none => rw [e2] at h; exact h.elim
          | some ys =>
            rw [e2] at h
            simp only at h
            split at h
            · obtain ⟨p, ws, rfl, h1, h2⟩ := lstOf_ok ok r1 e
              have ew := strsOf_rep h2 e2
              subst ew
              exact ⟨a, p, ys, rfl, rfl, .inl (SqL.of h1), by assumption, lkd (h.ok ok (.str _))⟩
            · exact h.elim
  | _ => exact h.elim
theorem em_join (ho : PEm X W o mo) (ha : PAm X W [e] ma) (hbase : attributeBase o "join" X.env (eval o X.env) = eval o X.env := by rfl) (hs : starEach [e] X.env = [(false, eval e X.env)] := by rfl)
    (hfew : ((backTo cpos (starEach [e] X.env)).all (fun x => !x.1) && (backToKw cpos (keywordEach [] X.env)).all (fun x => x.1.isSome) && decide ([e].length + ([] : List Keyword).length + (if ([] : List Keyword).isEmpty then 0 else 1) < 30)) = true := by rfl)
    (hline : (apos.endLine == cpos.line) = true := by rfl) : PEm X W (.Call (.Attribute o "join" apos) [e] [] cpos) (mMt "str" fJoin mo ma) := em_bm F.plainAttrs_str F.slot_str_join F.type_str_join mt_join m_join ho ha hbase hfew hline hs

/-! ### slices -/
abbrev Px := Ev → Gp → Out (Option Int)
abbrev RO (_ : Hp) (_ : List Addr) (b c : Option Int) : Prop := b = c
variable (X W) in
abbrev POm (e : Option Expr) (m : Px) : Prop := PO X e (TG (ct X) W RO m)
theorem PO.imp {e : Option Expr} {t t' : TO} (h : PO X e t) (k : ∀ σ H Q, t' σ H Q → t σ H Q) : PO X e t' := ⟨fun pins s σ H Q I q => h.run pins s σ H Q I (k σ H Q q)⟩
def mNo : Px := fun _ G => .ok none G
def mPart (a : Ex) : Px := fun env G => (a env G).bind fun d G1 => match d with
  | .int i => .ok (some i) G1
  | _ => .bad
theorem om_none : POm X W none mNo := PO.imp po_none fun σ H Q ⟨F, ro, G, env, ok, ev, h⟩ => Post.ok (R := RO) (v := (none : Option Int)) ok h rfl
theorem om_some {e : Expr} {m : Ex} (h : PEm X W e m) : POm X W (some e) (mPart m) := PO.imp (po_some h) fun σ H Q ⟨F, ro, G, env, ok, ev, h⟩ => by
  refine ⟨F, ro, G, env, ok, ev, (PostB (R := RD (ct X)) h).imp fun v H1 ⟨F1, ro1, d1, G1, n1, ok1, r1, h1⟩ => ?_⟩
  cases r1 with
  | int i => exact ⟨i, rfl, Post.ok (R := RO) ok1 h1 rfl⟩
  | _ => exact h1.elim
def cutD (xs : List Mi.D) (lo hi : Option Int) : List Mi.D := (xs.drop (HT.sIx xs.length 0 lo)).take (HT.sIx xs.length xs.length hi - HT.sIx xs.length 0 lo)
theorem cutD_rep {Z : Ct} {F : Hp} {ro : List Addr} {ds : List Mi.D} {vs : List V} (r : Reps Z F ro ds vs) (lo hi : Option Int) : Reps Z F ro (cutD ds lo hi) (cutV vs lo hi) := by
  unfold cutD cutV
  rw [Reps.length r]
  exact (r.drop _).take _
def fSl (d : Mi.D) (lo hi : Option Int) (G : Gp) : Out Mi.D := match d with
  | .str z => if z.length ≤ sizeLine then .ok (.str (cutS z lo hi)) G else .bad
  | .tup xs => .ok (.tup (cutD xs lo hi)) G
  | .scr xs => .ok (.lst (cutD xs lo hi)) G
  | d => (match lstOf G d with
    | some xs => .ok (.lst (cutD xs lo hi)) G
    | none => .bad)
/-- a slice as a cell -/
def fSlC (d : Mi.D) (lo hi : Option Int) (G : Gp) : Out Mi.D := match d with
  | .scr xs => .ok (.cel G.length) (G ++ [.lst (cutD xs lo hi)])
  | d => (match lstOf G d with
    | some xs => .ok (.cel G.length) (G ++ [.lst (cutD xs lo hi)])
    | none => .bad)
def mSl (f : Mi.D → Option Int → Option Int → Gp → Out Mi.D) (e : Ex) (lo hi : Px) : Ex := fun env G => (e env G).bind fun d G1 => (lo env G1).bind fun l G2 => (hi env G2).bind fun u G3 => f d l u G3
abbrev rSlAll (K : PySem.W.Frag) : V → Option Int → Option Int → Hp → VK → Prop := fun x lo hi H Q => rSlL K x lo hi H Q ∨ (rSlA K x lo hi H Q ∨ rSlS x lo hi H Q)
theorem sl_all : SlR X (rSlAll X.K) := sl_list.or (sl_tupA.or sl_str)
variable (X) in
def SOk (f : Mi.D → Option Int → Option Int → Gp → Out Mi.D) : Prop := ∀ (W : WX) (F : Hp) (ro : List Addr) (H : Hp) (G : Gp) (d : Mi.D) (v : V) (lo hi : Option Int) (σ : L2.St) (Q : VK), Ok (ct X) F ro H G → Rep (ct X) F ro d v →
  Post (ct X) W (RD (ct X)) F ro H σ Q (f d lo hi G) → rSlAll X.K v lo hi H Q
theorem whole_cut {xs : List V} {lo hi : Option Int} (h1 : HT.sIx xs.length 0 lo = 0) (h2 : HT.sIx xs.length xs.length hi = xs.length) : cutV xs lo hi = xs := by unfold cutV; rw [h1, h2]; simp
theorem s_sl : SOk X fSl := by
  intro W F ro H G d v lo hi σ Q ok r h
  have r' := r
  cases r with
  | str z =>
    simp only [fSl] at h
    split at h
    · exact .inr (.inr ⟨z, rfl, by assumption, h.ok ok (.str _)⟩)
    · exact h.elim
  | tup e q =>
    refine .inr (.inl ⟨_, _, rfl, SqT.up ok.sub e, fun hw => ?_, fun hw p hp => ?_⟩)
    · refine h.ok ok ?_
      have := cutD_rep q lo hi
      rw [whole_cut hw.1 hw.2] at this
      exact .tup e this
    · exact post_newF ok h hp (tup_new ok hp (cutD_rep q lo hi))
  | scr e q => exact .inl ⟨_, _, rfl, ok.sub.seq e, fun p hp => post_newF ok h hp (lst_new ok hp (cutD_rep q lo hi))⟩
  | _ =>
    first
    | exact h.elim
    | (simp only [fSl] at h
       split at h
       · rename_i e
         obtain ⟨a, ws, e1, ha, q⟩ := lstOf_ok ok r' e
         cases e1 <;> exact .inl ⟨_, ws, rfl, SqL.of ha, fun p hp => post_newF ok h hp (lst_new ok hp (cutD_rep q lo hi))⟩
       · exact h.elim)
theorem s_slC : SOk X fSlC := by
  intro W F ro H G d v lo hi σ Q ok r h
  have r' := r
  cases r with
  | scr e q => exact .inl ⟨_, _, rfl, ok.sub.seq e, fun p hp => post_newC ok h hp (.lst (cutD_rep q lo hi)) (.cel (ok.last p))⟩
  | _ =>
    first
    | exact h.elim
    | (simp only [fSlC] at h
       split at h
       · rename_i e
         obtain ⟨a, ws, e1, ha, q⟩ := lstOf_ok ok r' e
         cases e1 <;> exact .inl ⟨_, ws, rfl, SqL.of ha, fun p hp => post_newC ok h hp (.lst (cutD_rep q lo hi)) (.cel (ok.last p))⟩
       · exact h.elim)
theorem em_slice {f : Mi.D → Option Int → Option Int → Gp → Out Mi.D} {lo hi : Option Expr} {me : Ex} {ml mh : Px} {p2 : Pos} (hf : SOk X f) (he : PEm X W e me) (hl : POm X W lo ml) (hu : POm X W hi mh) : PEm X W (.Subscript e (.Slice lo hi none p2) pos) (mSl f me ml mh) :=
  PE.imp (pe_slice sl_all he hl hu) fun σ H Q ⟨F, ro, G, env, ok, ev, h⟩ => by
    refine ⟨F, ro, G, env, ok, ev, (PostB (R := RD (ct X)) h).imp fun v H1 ⟨F1, ro1, d1, G1, n1, ok1, r1, h1⟩ => ?_⟩
    refine ⟨F1, ro1, G1, env, ok1, ev.nx n1, (PostB (R := RO) h1).imp fun l H2 ⟨F2, ro2, d2, G2, n2, ok2, r2, h2⟩ => ?_⟩
    refine ⟨F2, ro2, G2, env, ok2, (ev.nx n1).nx n2, (PostB (R := RO) h2).imp fun u H3 ⟨F3, ro3, d3, G3, n3, ok3, r3, h3⟩ => ?_⟩
    cases r2
    cases r3
    exact hf W F3 ro3 H3 G3 d1 v _ _ σ Q ok3 ((r1.nx n2).nx n3) h3

/-! ### a sign -/
def dNeg : Mi.D → Gp → Out Mi.D
  | .int i, G => .ok (.int (-i)) G
  | _, _ => .bad
theorem em_neg {a : Expr} {ma : Ex} (ha : PEm X W a ma) : PEm X W (.UnaryOp .USub a pos) (m1 dNeg ma) := PE.imp (pe_un un_neg ha) fun σ H Q ⟨F, ro, G, env, ok, ev, h⟩ => by
  refine ⟨F, ro, G, env, ok, ev, (PostB (R := RD (ct X)) h).imp fun v H1 ⟨F1, ro1, d1, G1, n1, ok1, r1, h1⟩ => ?_⟩
  cases r1 with
  | int i => exact ⟨i, rfl, h1.ok ok1 (.int _)⟩
  | _ => exact h1.elim
end
end Mi

set_option maxHeartbeats 4000000
/-! Mi7: own exception classes over ValueError whose __init__ says super().__init__(x). -/
namespace Mi
open PySem PySem.Spec PyProof.Rows L2 PySem.W PySem.Calls NdefX

section
variable {prog : Program} {w : World} {A : Around} {E : Value → Shared → Prop} {h : Heap} {g : Array GenState} {d : Drawn} {t : Nat} {os : OsState}
variable {nm q : Str} {C N : Addr} {bs bm : List Value} {hdct : Bool} {sn : List Str} {sub : List Value} {ab : Bool} {col : Option Bool} {dd : Option Addr} {k0 k1 k2 k3 k5 : Option Value}
theorem call_mw {u e t0 : Addr} {rest : List Value} {Q : Value → Shared → Prop}
    (hC : h.get? C = some (excClassObj nm q C N bs bm hdct sn sub ab col dd k0 k1 k2 k3 k5 "ValueError.__new__")) (he : h.get? e = some (HandSPX.excO C t0)) (hu : h.get? u = some (kxs_mw "ValueError.__init__" e)) (hrest : rest.length ≤ sizeLine)
    (hq : ∀ h' t1, (∀ b o, b ≠ e → h.get? b = some o → h'.get? b = some o) → h'.get? e = some (HandSPX.excO C t1) → Q .none ⟨h', g, d, t, os⟩) :
    wpAny (model prog w) A (call (.ref u) rest) Q E ⟨h, g, d, t, os⟩ := by
  refine wpAny_call (codeAny_of_tree ?_)
  show wpAny _ A.in1 (callAny (.ref u) ⟨rest, []⟩) _ _ _
  simp only [callAny]
  refine wpAny_bind (wpAny_load hu ?_)
  simp only [kxs_mw, show (Value.type "method-wrapper" == Value.type "method" || Value.type "method-wrapper" == Value.type "builtin_function_or_method" || Value.type "method-wrapper" == Value.type "method-wrapper") = true by decide, if_true]
  refine PySem.W.KFB.if_so (by decide) ?_
  refine wpAny_bind (PySem.ESX.check_bound F.excBase_ValueError hC he rfl ?_)
  refine wpAny_bind (wpAny_pure (wpAny_pure ?_))
  refine ⟨Code.quiet_builtin _ (by decide +kernel), codeAny_builtin F.excBase_ValueError.initEntry ?_⟩
  rw [Around.under_plainId F.excBase_ValueError.init.plain _]
  wp_walk
  refine hq _ h.objs.size (fun b o hb ho => ?_) ?_
  · rw [Heap.get?_update_other _ _ (Ne.symm hb)]
    exact Heap.get?_push_of_some _ ho
  · rw [Heap.get?_update_self _ (Heap.get?_push_of_some _ he) rfl]
    rfl
end

/-- the promise of such an __init__: what stands behind super().__init__(x) is read by t -/
def SpX (C : Addr) (n : Nat) (N : List Str) (t : TS) : Sp := fun vs H Q E => ∃ a r, vs = V.ref a :: r ∧ vs.length = n ∧ H a = some (exo a C none) ∧ t { nx := fun _ H' => Q .non H', rt := Q } (startF N vs [none]) H
section
variable {P : Program} {w : World} {K : PySem.W.Frag} {mg : Str → Option Value} {base : Heap} {k j : Nat} {f cc cda C : Addr} {nm qual c0 file sx : Str} {params : Arguments} {rest : List Stmt} {scope : Scope} {dV kV doc pm oc ct ccl cl : Value} {an od cdd cld : Option Addr}
  {osl ccs csl : Array (Option Value)} {vs : Array Value} {tf : Tok} {p0 p1 p2 p3 p4 p5 : Pos} {N ps : List Str} {t : TS} {ar : Arg} {CX : CXT} {pl : Sem Bool}
theorem mg_none {s : Shared} {X : Cx} {pins : List (Addr × Obj)} {σ : L2.St} {H : Hp} (I : Inv X pins σ H s) {x : Str} {Q E : Value → Shared → Prop} {v : Value} (hk : X.env.kindOf x = some .globalImplicit) (hm : X.mg x = none) (hv : bootBuiltins x = some v) (hn : x ≠ "__name__") (h : Q v s) : wpAny (model X.prog X.w) X.A (loadName X.env x) Q E s := by
  refine ks_loadName_global I.ok.kind hk ?_
  obtain ⟨mb, hb, hbb⟩ := I.mod.blt
  refine loadGlobal_builtin (mg := X.mg) (mb := mb) ?_ hm ?_ ((hbb _ hn).trans hv) h
  · rw [I.ok.glob]; exact I.mod.glob.keeps I.bk
  · rw [I.ok.blt]; exact hb.keeps I.bk
theorem xi_ok (lk : K.lookup f = some ⟨oc, od, .func (ksFn nm qual params (.Expr (.Call (.Attribute (.Call (.Name "super" p0) [] [] p1) "__init__" p2) [.Constant (.str c0) j p3] [] p4) p5 :: rest) scope dV kV doc pm an (.ref cda) ct cc), osl⟩)
    (hcd : codeIn K (.ref cda) qual = true) (S : NScope N ps ["__class__"] scope) (hp : (params.posonlyargs ++ params.args).head? = some ar) (har : ps.head? = some ar.arg)
    (hcode : K.lookup cda = some ⟨ccl, cdd, .fields vs, ccs⟩) (hvs : vs[2]? = some (.str file tf)) (hfile : ((P.main.file : Str) == file) = true)
    (hcell : K.lookup cc = some ⟨cl, cld, .cell (some (.ref C)), csl⟩) (hsub : mroIn K C (.ref C) = some true) (hsuper : mg "super" = none)
    (hks : scope.names.lookup ("super" : Str) = some .globalImplicit) (htop : (P.main.scope.names.lookup ("super" : Str)).isSome = false)
    (hm : ks_superIn K C C "__init__" = some (some (.builtin "ValueError.__init__"))) (hany : nsIn K cStatics "thirdparty.any" = some none) (hB : subIn K (.ref C) (.type "ValueError") = some true) (T : OexC K C)
    (hrest : ∀ (A : Around) (outer : List Env) (s : Shared) (H : Hp) (E : XK), PSs (ncx CX P w K mg base N ⟨nm, qual, params, .Expr (.Call (.Attribute (.Call (.Name "super" p0) [] [] p1) "__init__" p2) [.Constant (.str c0) j p3] [] p4) p5 :: rest, scope, [("__class__", cc)], cda⟩ f A outer s H E) rest t)
    (he : ∀ env : Env, eval (.Call (.Attribute (.Call (.Name "super" p0) [] [] p1) "__init__" p2) [.Constant (.str c0) j p3] [] p4) env = (do
      let ov ← attributeBase (.Call (.Name "super" p0) [] [] p1) "__init__" env (eval (.Call (.Name "super" p0) [] [] p1) env)
      standAt p2.atName
      let (f, first) ← holding [ov] (getMethod ov "__init__" pl)
      callWith p4 f first (backTo p4 (starEach [.Constant (.str c0) j p3] env)) []) := by intro _; rfl) :
    FnOk P w K mg base CX (k + 1) f (ksFn nm qual params (.Expr (.Call (.Attribute (.Call (.Name "super" p0) [] [] p1) "__init__" p2) [.Constant (.str c0) j p3] [] p4) p5 :: rest) scope dV kV doc pm an (.ref cda) ct cc) ps (SpX C ps.length N t) := by
  refine ⟨fun vs H Q E ⟨_, _, _, hl, _⟩ => hl, fun A outer s H args us vs' Q E hr e0 hb r hsp => ?_⟩
  obtain ⟨a, r0, rfl, hl, ea, hq⟩ := hsp
  have KX : K.In s.heap := e0.mod.kin.keeps fun b o e => (e0.bs b o e).1
  have lim : s.heap.NoLimit := e0.mod.nolimit.keeps fun b o e => (e0.bs b o e).1
  refine ks_codeAny_call_defAt (binds := ps.zip us) hr.depth (KX _ _ lk) rfl lim (PySem.W.codeRec_of KX hcd) rfl hb S.nocell (fun ⟨n, _⟩ hy => S.par n (List.of_mem_zip hy).1) (fun h₁ hns kp => ?_) S.co S.gen S.kind
  have lcc := e0.mod.kin _ _ hcell
  have C0 : CellsAt [("__class__", cc)] ["__class__"] [none] s.heap H := by
    have all : ∀ y c, ([("__class__", cc)] : List (Str × Addr)).lookup y = some c → c = cc ∧ y = "__class__" := fun y c e => by
      have e' := PySem.mem_of_lookup e
      simp at e'
      exact ⟨e'.2, e'.1⟩
    refine ⟨rfl, fun y c e => ?_, fun x y c e1 e2 => ((all x c e1).2.trans (all y c e2).2.symm), fun i y e => ?_⟩
    · obtain ⟨rfl, _⟩ := all y c e
      exact ⟨(e0.bs _ _ lcc).2, _, _, KX _ _ hcell, rfl⟩
    · have hi : i = 0 := by
        have := (List.getElem?_eq_some_iff.mp e).1
        simp at this; omega
      subst hi
      simp at e
      subst e
      exact ⟨cc, rfl, fun v e => by simp at e⟩
  have I : Inv (ncx CX P w K mg base N ⟨nm, qual, params, .Expr (.Call (.Attribute (.Call (.Name "super" p0) [] [] p1) "__init__" p2) [.Constant (.str c0) j p3] [] p4) p5 :: rest, scope, [("__class__", cc)], cda⟩ f A outer s H E) [] (startF N (V.ref a :: r0) [none]) H { s with heap := h₁, toks := s.toks + (ps.zip us).length } :=
    inv_startN S hr.hd e0 hl r C0 hns kp
  obtain ⟨nmC, qC, NC, bs, bm, sn, sub, ab, col, dd, k0, k1, k2, k3, k5, hC, hbm⟩ := T.cls
  have hcl : clsIn K C = some { name := nmC, bases := bs, mro := .ref C :: bm, ns := NC, qualname := qC, hasDict := true, slotNames := sn, subclasses := sub, abstract := ab, collection := col, hasDel := false } := by unfold clsIn; rw [hC] <;> rfl
  obtain ⟨t1, ho⟩ := exo_at I.hok ea
  have ndP : ps.Nodup := by
    have q := S.nd.sublist (List.take_sublist (ps.length + 1) N)
    rw [show N.take (ps.length + 1) = ps ++ [("__class__" : Str)] from S.pre] at q
    exact (List.nodup_append.mp q).1
  have hself : (ps.zip us).reverse.lookup ar.arg = some (.ref a) := by
    cases r with
    | cons ra rr =>
      obtain rfl := (show _ = Value.ref a from ra)
      refine zip_look (i := 0) ndP ?_ rfl
      rw [← har]
      cases ps <;> rfl
  have harS : scope.names.lookup ar.arg = some .local := S.par _ (by cases ps with
    | nil => cases har
    | cons x l => cases har; exact List.mem_cons_self ..)
  have hkc : scope.names.lookup ("__class__" : Str) = some .free := S.frk _ (by simp)
  have fin : ∀ (s' : Shared), Inv (ncx CX P w K mg base N ⟨nm, qual, params, .Expr (.Call (.Attribute (.Call (.Name "super" p0) [] [] p1) "__init__" p2) [.Constant (.str c0) j p3] [] p4) p5 :: rest, scope, [("__class__", cc)], cda⟩ f A outer s H E) [] (startF N (V.ref a :: r0) [none]) H s' →
      wpAny (model P w) (A.deeper (callEnv (ksFn nm qual params (.Expr (.Call (.Attribute (.Call (.Name "super" p0) [] [] p1) "__init__" p2) [.Constant (.str c0) j p3] [] p4) p5 :: rest) scope dV kV doc pm an (.ref cda) ct cc) s.heap.objs.size f))
        (execs rest (callEnv (ksFn nm qual params (.Expr (.Call (.Attribute (.Call (.Name "super" p0) [] [] p1) "__init__" p2) [.Constant (.str c0) j p3] [] p4) p5 :: rest) scope dV kV doc pm an (.ref cda) ct cc) s.heap.objs.size f))
        (fun f s' => CR CX outer P w H s Q E (.ok (.ret (match f with | .ret v => v | _ => .none))) s')
        (fun e s' => wpAny (model P w) (A.deeper (callEnv (ksFn nm qual params (.Expr (.Call (.Attribute (.Call (.Name "super" p0) [] [] p1) "__init__" p2) [.Constant (.str c0) j p3] [] p4) p5 :: rest) scope dV kV doc pm an (.ref cda) ct cc) s.heap.objs.size f))
          (leaving (callEnv (ksFn nm qual params (.Expr (.Call (.Attribute (.Call (.Name "super" p0) [] [] p1) "__init__" p2) [.Constant (.str c0) j p3] [] p4) p5 :: rest) scope dV kV doc pm an (.ref cda) ct cc) s.heap.objs.size f) e) (fun _ s'' => CR CX outer P w H s Q E (.error e) s'') (fun e' s'' => CR CX outer P w H s Q E (.error e') s'') s') s' := fun s' J => by
    refine wpAny_mono ((hrest A outer s H E).run [] s' _ H _ J hq) (fun fl s2 hs => ?_) fun e s2 hs => hs
    cases fl with
    | ret u =>
      obtain ⟨v, σ', H', J2, rv, q⟩ := hs
      exact ⟨v, H', J2.os, J2.bare, J2.base, J2.hok, rv, q⟩
    | next =>
      obtain ⟨σ', H', J2, q⟩ := hs
      exact ⟨.non, H', J2.os, J2.bare, J2.base, J2.hok, rfl, q⟩
    | brk =>
      obtain ⟨_, _, _, q⟩ := hs
      exact False.elim q
    | cont =>
      obtain ⟨_, _, _, q⟩ := hs
      exact False.elim q
  have X1 : K.In h₁ := fun b o e => kp _ _ (KX b o e)
  have hLo : h₁.Ns s.heap.objs.size fun y => (ps.zip us).reverse.lookup y := hns
  refine ks_wpAt_execs_cons (ks_wpAt_Expr_any ?_ I.quiet)
  refine ks_wpAt_MethodCall (pl := pl) ?_ (he _)
  refine ks_wpAt_super_base hks hkc rfl rfl (X1 _ _ lk) rfl hp rfl (X1 _ _ hcode) rfl hvs hfile htop ?_
  refine mg_none I hks hsuper rfl (by decide) ⟨rfl, ?_⟩
  refine wpAny_loadName_free S.kind hkc rfl ⟨_, X1 _ _ hcell, rfl⟩ ?_
  refine wpAny_loadName_local S.kind harS hLo hself ?_
  refine ks_wpAny_isType_cls (X1 _ _ hC) rfl ⟨rfl, ?_⟩
  obtain ⟨hh, g, dr, tk, os⟩ := s
  refine ks_wpAny_call_super (X1 _ _ hC) rfl ho rfl (fun c e => by cases e) (looks_mroIn X1 hsub) (fun h2 e2 k2 => ?_)
  have X2 : K.In h2 := fun b o e => k2 _ _ (X1 b o e)
  have hab : (a : Addr) ≠ C := fun z => by
    rw [z] at ho
    have y := X1 _ _ hC
    rw [ho] at y
    cases y
  have hIB : W.Looks (model P w) h2 (isInstance (.ref a) (.type "ValueError")) true := by
    have I0 : InstAt h2 a _ C none := ⟨k2 _ _ ho, rfl, rfl, trivial⟩
    exact I0.type.andThen (looks_subIn X2 hB)
  unfold ks_superIn at hm
  rw [hcl] at hm
  refine kxs_getMethod kxs_ValueError e2 (looks_opaque X2 hany) (l₀ := .ref C :: bm) (fun A Q E s k q => wpAny_bind ((looks_clsIn X2 hcl) A _ E s k (wpAny_pure q))) rfl X2 hm hIB hab rfl ?_
  have I3 : Inv (ncx CX P w K mg base N ⟨nm, qual, params, .Expr (.Call (.Attribute (.Call (.Name "super" p0) [] [] p1) "__init__" p2) [.Constant (.str c0) j p3] [] p4) p5 :: rest, scope, [("__class__", cc)], cda⟩ f A outer ⟨hh, g, dr, tk, os⟩ H E) [] (startF N (V.ref a :: r0) [none]) H ⟨h2.push (kxs_mw "ValueError.__init__" a), g, dr, tk + (ps.zip us).length + 1 + 1, os⟩ :=
    I.kept (h' := h2.push (kxs_mw "ValueError.__init__" a)) (t' := tk + (ps.zip us).length + 1 + 1) fun b o e => Heap.get?_push_of_some _ (k2 b o e)
  have hmw : (h2.push (kxs_mw "ValueError.__init__" a)).get? h2.objs.size = some (kxs_mw "ValueError.__init__" a) := Heap.get?_push_at rfl rfl
  show wpAny _ _ (callWith _ (.ref h2.objs.size) [] _ []) _ _ _
  refine kxs_callWith (i := "ValueError.__init__") (x := a) rfl (Calls.evalArgs_plain ?_)
  refine Calls.spliced_cons ?_
  refine Calls.Constant_str (pos := p3) (k := j) ?_
  refine Calls.spliced_nil ⟨hmw, ?_⟩
  refine call_mw (by have := X2 _ _ hC; exact Heap.get?_push_of_some _ this) (Heap.get?_push_of_some _ (k2 _ _ ho)) hmw (by show 1 ≤ sizeLine; decide) fun h4 t4 k4 x4 => ?_
  have J := I3.write (t' := tk + (ps.zip us).length + 1 + 1) (x := a) (e := a) (o := exo a C none) (by rw [ea]; exact True.intro) (.inl rfl) k4 ⟨_, x4⟩ (exo_ok x4)
  have eu : upd H a (exo a C none) = H := by
    funext b
    by_cases hb : b = a
    · rw [hb, upd_same, ea]
    · rw [upd_ne hb]
  rw [eu] at J
  exact wpAt_of_wpAny (fin _ J)
end
end Mi

set_option maxHeartbeats 4000000
/-! Mi8: calls under any wish; raise; try; what a suite reads of the exception. -/
namespace Mi
open PySem PySem.Spec PyProof.Rows L2 NdefX

/-! ### the same under another caught exception -/
section
variable {Z Z' : Ct} {F H : Hp} {ro : List Addr} {G : Gp} (hK : Z'.K = Z.K) (hm : Z'.mg = Z.mg) (hw : Z'.w = Z.w)
include hK hm hw
mutual
theorem Rep.ex : ∀ {d : Mi.D} {v : V}, Rep Z F ro d v → Rep Z' F ro d v
  | _, _, .non => .non
  | _, _, .bl b => .bl b
  | _, _, .int i => .int i
  | _, _, .str x => .str x
  | _, _, .ty n => .ty n
  | _, _, .gl h => .gl (by rw [hm]; exact h)
  | _, _, .tup h r => .tup (by rw [hK]; exact h) (Reps.ex r)
  | _, _, .lst h r => .lst h (Reps.ex r)
  | _, _, .scr h r => .scr (by rw [hK]; exact h) (Reps.ex r)
  | _, _, .dct h r => .dct h (RepK.ex r)
  | _, _, .dck h r m => .dck (by rw [hK, hw]; exact h) (RepN.ex r) (by rw [hK]; exact m)
  | _, _, .ins c h r => .ins (by rw [hm]; exact c) h (RepF.ex r)
  | _, _, .cel h => .cel h
theorem Reps.ex : ∀ {d : List Mi.D} {v : List V}, Reps Z F ro d v → Reps Z' F ro d v
  | _, _, .nil => .nil
  | _, _, .cons h r => .cons (Rep.ex h) (Reps.ex r)
theorem RepK.ex : ∀ {d : List (Key × Mi.D)} {v : List (Key × V)}, RepK Z F ro d v → RepK Z' F ro d v
  | _, _, .nil => .nil
  | _, _, .cons h r => .cons (Rep.ex h) (RepK.ex r)
theorem RepN.ex : ∀ {a : Addr} {d : List (Str × Mi.D)}, RepN Z F ro a d → RepN Z' F ro a d
  | _, _, .nil => .nil
  | _, _, .cons h1 h2 h r => .cons (by rw [hK]; exact h1) h2 (Rep.ex h) (RepN.ex r)
theorem RepF.ex : ∀ {d : List (Str × Mi.D)} {v : List (Str × V)}, RepF Z F ro d v → RepF Z' F ro d v
  | _, _, .nil => .nil
  | _, _, .cons h r => .cons (Rep.ex h) (RepF.ex r)
end
theorem CellIs.ex {ob : Ob} {o : Option HO} (c : CellIs Z F ro ob o) : CellIs Z' F ro ob o := by
  cases c with
  | lst r => exact .lst (Reps.ex hK hm hw r)
  | dct r => exact .dct (RepK.ex hK hm hw r)
  | lck r => exact .lck (RepK.ex hK hm hw r)
  | ins c r => exact .ins (by rw [hm]; exact c) (RepF.ex hK hm hw r)
theorem Ok.ex (ok : Ok Z F ro H G) : Ok Z' F ro H G := ⟨ok.sub, ok.len, ok.nd, fun n ob a h1 h2 => by
  rcases ok.cell n ob a h1 h2 with ⟨d, e, r, q⟩ | ⟨q, c⟩
  · exact .inl ⟨d, e, Rep.ex hK hm hw r, q⟩
  · exact .inr ⟨q, CellIs.ex hK hm hw c⟩⟩
end

/-! ### calls -/
section
variable {X : Cx} {W : WX} {pos : Pos} {k n : Nat} {f : Addr} {fd : FuncData} {ps : List Str} {fm : Fm} {dvs : List V} {dfl : List Mi.D} {ds : List Value} {x : Str} {p : Pos} {e : Expr} {es : List Expr} {ma : Ax} {sp : Sp} {t : L2.TA}
theorem run_fnW {pins : List (Addr × Obj)} {σ : L2.St} {H : Hp} {s : Shared} {Q : VK} {us : List Value} {vs : List V} (F : FnOk X.prog X.w X.K X.mg X.base (L2.CX X.prog X.w) k f fd ps sp) (hr : Room k X.A) (hb : Binds X.K fd ps ds) (hd : Vals dvs ds) (tk : Takes X W)
    (I : Inv X pins σ H s) (r : Vals vs us) (h : sp (vs ++ dvs) H Q (WE W σ)) : wpAny (model X.prog X.w) X.A (call (.ref f) us) (EP X pins σ Q) X.xe s := by
  have r2 : Vals (vs ++ dvs) (us ++ ds) := r.append hd
  have hl : (us ++ ds).length = ps.length := by rw [← r2.length]; exact F.len _ _ _ _ h
  refine wpAny_call (codeAny_mono (F.run X.A X.stack s H ⟨us, []⟩ (us ++ ds) (vs ++ dvs) Q (WE W σ) hr I.env0 (hb s us I.kIn hl) r2 h) fun r s' hq => ?_)
  cases r with
  | error e => exact passAt tk σ pins H s e s' I hq
  | ok fl =>
    cases fl with
    | ret u => exact I.after hq
    | next => exact False.elim hq
    | brk => exact False.elim hq
    | cont => exact False.elim hq
def tCallW (W : WX) (sp : Sp) (dvs : List V) (t : L2.TA) : TE := fun σ H Q => t σ H fun vs H1 => sp (vs ++ dvs) H1 Q (WE W σ)
theorem pe_callW (F : FnOk X.prog X.w X.K X.mg X.base (L2.CX X.prog X.w) k f fd ps sp) (hr : Room k X.A) (hg : Gl X x) (hm : X.mg x = some (.ref f)) (hk : PySem.W.keepIn X.K (.ref f) = true) (hb : Binds X.K fd ps ds) (hd : Vals dvs ds) (tk : Takes X W)
    (ha : PA X (e :: es) t) (hdb : (x == ("__debug__" : Str)) = false := by decide) (he : starEach (e :: es) X.env = (false, eval e X.env) :: starEach es X.env := by rfl) (hpl : (backTo pos (starEach es X.env)).any (·.1) = false := by rfl) :
    PE X (.Call (.Name x p) (e :: es) [] pos) (tCallW W sp dvs t) := by
  refine ⟨fun pins s σ H Q I h => ?_⟩
  refine wpAny_Call_Name_kw (ld_glob I hg hm ?_ hdb)
  refine PySem.W.callWith_K (h₀ := X.base) I.ok.mod.kin hk (thn (ha.run pos pins s σ H _ I h) fun us s1 ⟨vs, H1, I1, r, q⟩ => ⟨I1.kIn, ?_⟩) he hpl
  exact run_fnW F hr hb hd tk I1 r q
theorem pe_callW0 (F : FnOk X.prog X.w X.K X.mg X.base (L2.CX X.prog X.w) k f fd ps sp) (hr : Room k X.A) (hg : Gl X x) (hm : X.mg x = some (.ref f)) (hk : PySem.W.keepIn X.K (.ref f) = true) (hb : Binds X.K fd ps ds) (hd : Vals dvs ds) (tk : Takes X W)
    (hdb : (x == ("__debug__" : Str)) = false := by decide) : PE X (.Call (.Name x p) [] [] pos) (tCallW W sp dvs tNil) := by
  refine ⟨fun pins s σ H Q I h => ?_⟩
  refine wpAny_Call_Name_kw (ld_glob I hg hm ?_ hdb)
  exact PySem.W.callWith_K0 I.kIn hk (run_fnW (us := []) F hr hb hd tk I .nil h)
theorem Post.we {Z : Ct} {F H : Hp} {ro : List Addr} {α β : Type} {R : Hp → List Addr → α → β → Prop} {σ : L2.St} {Q : β → Hp → Prop} : ∀ {r : Out α}, Post Z W R F ro H σ Q r → Post Z (WE1 (WE W σ)) R F ro H σ Q r
  | .ok _ _, h => h
  | .exc _ _ _, h => h
  | .bad, h => h
theorem em_callW (F : FnOk X.prog X.w X.K X.mg X.base (L2.CX X.prog X.w) k f fd ps (SpF (ct X) fm n)) (hr : Room k X.A) (hm : X.mg x = some (.ref f)) (hk : PySem.W.keepIn X.K (.ref f) = true) (hb : Binds X.K fd ps ds) (hd : Vals dvs ds) (tk : Takes X W)
    (hdf : ∀ F ro, Reps (ct X) F ro dfl dvs) (ha : PAm X W (e :: es) ma) (hg : Gl X x := by rfl) (hdb : (x == ("__debug__" : Str)) = false := by decide)
    (he : starEach (e :: es) X.env = (false, eval e X.env) :: starEach es X.env := by rfl) (hpl : (backTo pos (starEach es X.env)).any (·.1) = false := by rfl) : PEm X W (.Call (.Name x p) (e :: es) [] pos) (mCall fm n dfl ma) :=
  PE.imp (PE.lk (pe_callW F hr hg hm hk hb hd tk ha hdb he hpl)) fun σ H Q h => by
    obtain ⟨F, ro, G, env, ok, ev, h⟩ := h
    refine ⟨F, ro, G, env, ok, ev, (PostB (R := RA (ct X)) h).imp fun vs H1 ⟨F1, ro1, d1, G1, n1, ok1, r1, h1⟩ => ?_⟩
    exact sp_callF (σ := σ) ok1 (r1.append (hdf F1 ro1)) h1.we
theorem em_callW0 (F : FnOk X.prog X.w X.K X.mg X.base (L2.CX X.prog X.w) k f fd ps (SpF (ct X) fm n)) (hr : Room k X.A) (hm : X.mg x = some (.ref f)) (hk : PySem.W.keepIn X.K (.ref f) = true) (hb : Binds X.K fd ps ds) (hd : Vals dvs ds) (tk : Takes X W)
    (hdf : ∀ F ro, Reps (ct X) F ro dfl dvs) (hg : Gl X x := by rfl) (hdb : (x == ("__debug__" : Str)) = false := by decide) : PEm X W (.Call (.Name x p) [] [] pos) (mCall fm n dfl mNil) :=
  PE.imp (PE.lk (pe_callW0 F hr hg hm hk hb hd tk hdb)) fun σ H Q h => by
    obtain ⟨F, ro, G, env, ok, ev, h⟩ := h
    exact sp_callF (σ := σ) ok (hdf F ro) (by simpa [mCall, mNil] using h.we)
end

/-! ### raise C(e, ..) -/
/-- what the __init__ of an exception class keeps: fl its fields, one for each parameter -/
def XSp (C : Addr) (fl : List Str) (sp : Sp) : Prop := ∀ (H1 : Hp) (a : Addr) (ys : List V) (Q : XK) (E : XK), H1 a = none → ys.length = fl.length → (∀ d, H1 d = none → d ≠ a → Q (.ref C) (some d) (upd H1 d (.xd ((fl.zip ys).reverse)))) →
  sp (.ref a :: ys) (upd H1 a (exo a C none)) (fun v H2 => v = .non ∧ ∃ (d : Addr) (fs : List (Str × V)), H2 a = some (exo a C (some d)) ∧ H2 d = some (exd d fs) ∧ H1 d = none ∧ Q (.ref C) (some d) (upd (del H2 a) d (.xd fs))) E
section
variable {K : PySem.W.Frag} {C : Addr} {N : List Str}
theorem start0 {a : V} {r : List V} : (startF N (a :: r) [none])[0]? = some (some a) := by simp [startF]
theorem start1 {a b : V} {r : List V} : (startF N (a :: b :: r) [none])[1]? = some (some b) := by simp [startF]
theorem start2 {a b c : V} {r : List V} : (startF N (a :: b :: c :: r) [none])[2]? = some (some c) := by simp [startF]
theorem fin_heap {H1 : Hp} {a d : Addr} {fs gs : List (Str × V)} (h : H1 a = none) (hd : H1 d = none) (n : d ≠ a) : upd (del (upd (upd H1 d (exd d gs)) a (exo a C (some d))) a) d (.xd fs) = upd H1 d (.xd fs) := by
  funext b
  by_cases hb : b = d
  · subst hb; rw [upd_same, upd_same]
  · rw [upd_ne hb, upd_ne hb]
    by_cases ha : b = a
    · subst ha; rw [del_same, h]
    · rw [del_ne ha, upd_ne ha, upd_ne hb]
theorem fin_heap2 {H1 : Hp} {a d : Addr} {fs gs g2 : List (Str × V)} (h : H1 a = none) (hd : H1 d = none) (n : d ≠ a) : upd (del (upd (upd (upd H1 d (exd d gs)) a (exo a C (some d))) d (exd d g2)) a) d (.xd fs) = upd H1 d (.xd fs) := by
  funext b
  by_cases hb : b = d
  · subst hb; rw [upd_same, upd_same]
  · rw [upd_ne hb, upd_ne hb]
    by_cases ha : b = a
    · subst ha; rw [del_same, h]
    · rw [del_ne ha, upd_ne hb, upd_ne ha, upd_ne hb]
theorem upd_comm_same {H1 : Hp} {a : Addr} {o u : HO} {b : Addr} (e : b = a) : upd H1 a o b = some o := by rw [e]; exact upd_same
theorem xsp1 {f : Str} (T : OexC K C) (hno : PySem.W.findIn K (.ref C) f = some none) : XSp C [f] (SpX C 2 N (tOst K f (tVar 0) (tVar 1))) := by
  intro H1 a ys Q E h hl hq
  match ys, hl with
  | [y], _ =>
    refine ⟨a, [y], rfl, rfl, upd_same, y, start1, V.ref a, start0, a, C, rfl, T, hno, .inl ⟨upd_same, fun d hd hn => ?_⟩⟩
    have hd1 : H1 d = none := by rw [upd_ne hn] at hd; exact hd
    have e1 : upd (upd H1 a (exo a C none)) d (exd d [(f, y)]) = upd (upd H1 d (exd d [(f, y)])) a (exo a C none) := by
      funext b
      by_cases hb : b = d
      · subst hb; rw [upd_same, upd_ne hn, upd_same]
      · rw [upd_ne hb]
        by_cases ha : b = a
        · subst ha; rw [upd_same, upd_same]
        · rw [upd_ne ha, upd_ne ha, upd_ne hb]
    have e2 : upd (upd (upd H1 a (exo a C none)) d (exd d [(f, y)])) a (exo a C (some d)) = upd (upd H1 d (exd d [(f, y)])) a (exo a C (some d)) := by rw [e1, upd_upd]
    rw [e2]
    refine ⟨rfl, d, [(f, y)], upd_same, by rw [upd_ne hn, upd_same], hd1, ?_⟩
    rw [fin_heap h hd1 hn]
    exact hq d hd1 hn
theorem xsp2 {f g : Str} (T : OexC K C) (hf : PySem.W.findIn K (.ref C) f = some none) (hg : PySem.W.findIn K (.ref C) g = some none) : XSp C [f, g] (SpX C 3 N (tSeq (tOst K f (tVar 0) (tVar 1)) (tOst K g (tVar 0) (tVar 2)))) := by
  intro H1 a ys Q E h hl hq
  match ys, hl with
  | [y, z], _ =>
    refine ⟨a, [y, z], rfl, rfl, upd_same, y, start1, V.ref a, start0, a, C, rfl, T, hf, .inl ⟨upd_same, fun d hd hn => ?_⟩⟩
    have hd1 : H1 d = none := by rw [upd_ne hn] at hd; exact hd
    have e1 : upd (upd H1 a (exo a C none)) d (exd d [(f, y)]) = upd (upd H1 d (exd d [(f, y)])) a (exo a C none) := by
      funext b
      by_cases hb : b = d
      · subst hb; rw [upd_same, upd_ne hn, upd_same]
      · rw [upd_ne hb]
        by_cases ha : b = a
        · subst ha; rw [upd_same, upd_same]
        · rw [upd_ne ha, upd_ne ha, upd_ne hb]
    have e2 : upd (upd (upd H1 a (exo a C none)) d (exd d [(f, y)])) a (exo a C (some d)) = upd (upd H1 d (exd d [(f, y)])) a (exo a C (some d)) := by rw [e1, upd_upd]
    rw [e2]
    refine ⟨z, start2, V.ref a, start0, a, C, rfl, T, hg, .inr ⟨d, [(f, y)], upd_same, by rw [upd_ne hn, upd_same], by simp, ?_⟩⟩
    refine ⟨rfl, d, [(g, z), (f, y)], by rw [upd_ne (Ne.symm hn), upd_same], upd_same, hd1, ?_⟩
    rw [fin_heap2 h hd1 hn]
    exact hq d hd1 hn
end
theorem RepF.zip {Z : Ct} {F : Hp} {ro : List Addr} : ∀ {fl : List Str} {ds : List Mi.D} {vs : List V}, Reps Z F ro ds vs → RepF Z F ro (fl.zip ds) (fl.zip vs)
  | [], _, _, _ => by simp only [List.zip_nil_left]; exact .nil
  | _ :: _, _, _, .nil => by simp only [List.zip_nil_right]; exact .nil
  | f :: fl, _, _, .cons r rs => .cons r (RepF.zip rs)
theorem RepF.append {Z : Ct} {F : Hp} {ro : List Addr} : ∀ {a b : List (Str × Mi.D)} {x y : List (Str × V)}, RepF Z F ro a x → RepF Z F ro b y → RepF Z F ro (a ++ b) (x ++ y)
  | _, _, _, _, .nil, r => r
  | _, _, _, _, .cons r rs, q => .cons r (RepF.append rs q)
theorem RepF.reverse {Z : Ct} {F : Hp} {ro : List Addr} : ∀ {a : List (Str × Mi.D)} {x : List (Str × V)}, RepF Z F ro a x → RepF Z F ro a.reverse x.reverse
  | _, _, .nil => .nil
  | _, _, .cons r rs => by rw [List.reverse_cons, List.reverse_cons]; exact RepF.append (RepF.reverse rs) (.cons r .nil)
theorem RepF.look {Z : Ct} {F : Hp} {ro : List Addr} : ∀ {a : List (Str × Mi.D)} {x : List (Str × V)} {f : Str} {d : Mi.D}, RepF Z F ro a x → a.lookup f = some d → ∃ v, x.lookup f = some v ∧ Rep Z F ro d v
  | _, _, _, _, .nil, h => by cases h
  | _, _, f, d, .cons (k := k) r rs, h => by
    simp only [List.lookup_cons] at h ⊢
    by_cases e : (f == k) = true
    · rw [e] at h ⊢
      cases h
      exact ⟨_, rfl, r⟩
    · rw [Bool.not_eq_true] at e
      rw [e] at h ⊢
      exact RepF.look rs h
def mRaise (c : Str) (fl : List Str) (a : Ax) : Sx := fun env G => (a env G).toS env fun ds G1 => if ds.length = fl.length ∧ ds.length ≤ 1000 then .exc c (fl.zip ds).reverse env G1 else .bad
section
variable {X : Cx} {W : WX} {pos pos' p : Pos} {k : Nat} {x : Str} {C fI : Addr} {fd : FuncData} {ps fl : List Str} {sp : Sp} {e : Expr} {es : List Expr} {ma : Ax}
theorem sm_raise (hc : X.calm = true) (tk : Takes X W) (T : OexC X.K C) (iC : PySem.W.findIn X.K (.ref C) "__init__" = some (some (.ref fI))) (tI : PySem.W.typeIn X.K (.ref fI) = some (.type "function"))
    (F1 : FnOk X.prog X.w X.K X.mg X.base (L2.CX X.prog X.w) k fI fd ps sp) (hsp : XSp C fl sp) (hr : Room (k + 1) X.A) (hb : Binds X.K fd ps []) (hm : X.mg x = some (.ref C)) (ha : PAm X W (e :: es) ma) (hg : Gl X x := by rfl)
    (hdb : (x == ("__debug__" : Str)) = false := by decide) (he : starEach (e :: es) X.env = (false, eval e X.env) :: starEach es X.env := by rfl) (hpl : (backTo pos (starEach es X.env)).any (·.1) = false := by rfl) :
    PSm X W (.Raise (some (.Call (.Name x p) (e :: es) [] pos)) none pos') (mRaise x fl ma) :=
  PS.imp (ps_raise hc tk (pmk_oex T iC tI F1 hr hb .nil (passes_call tk fun _ _ _ _ h => False.elim h) hg hm ha hdb he hpl)) fun D σ H h => by
    obtain ⟨F, ro, G, env, ok, ev, h⟩ := h
    refine ⟨F, ro, G, env, ok, ev, (PostBS (R := RA (ct X)) ev h).imp fun vs H1 ⟨F1, ro1, ds, G1, n1, ok1, r1, h1⟩ => ?_⟩
    split at h1
    · rename_i hz
      have hlen := Reps.length r1
      refine ⟨by omega, fun a ha => ?_⟩
      rw [List.append_nil]
      refine hsp H1 a vs (fun cls d H' => W cls d σ H') _ ha (by omega) fun d hd _ => ?_
      obtain ⟨ok2, n2⟩ := ok1.newF (.xd ((fl.zip vs).reverse)) hd
      exact h1 _ _ _ σ C d _ n2 ok2 ((ev.nx n1).nx n2) hm upd_same ((RepF.zip (r1.nx n2)).reverse)
    · exact h1.elim
end

/-! ### try: .. except x as e -/
def mTryAs (sb : List (Str × Bool)) (i : Nat) (mb ms : Sx) : Sx := fun env G => match mb env G with
  | .exc c fs e G1 => (match sb.lookup c with
    | some true => (match ms (e.set i (some (.exc c fs))) G1 with
      | .nx e2 G2 => .nx (e2.set i none) G2
      | .rt d G2 => .rt d G2
      | .bk e2 G2 => .bk (e2.set i none) G2
      | .ct e2 G2 => .ct (e2.set i none) G2
      | _ => .bad)
    | some false => .exc c fs e G1
    | none => .bad)
  | r => r
section
variable {X : Cx} {W : WX} {pos pos' np : Pos} {x : Str} {c : Value} {i : Nat} {body suite : List Stmt} {b₀ : Stmt} {mb ms : Sx} {sb : List (Str × Bool)}
theorem Evs.hold {Z : Ct} {F : Hp} {ro : List Addr} {env : Ev} {σ : L2.St} {i : Nat} {a : Addr} {oe : Obj} {c : Str} {fs : List (Str × Mi.D)} {Z' : Ct} (hZ : Z.ex = none) (hK : Z'.K = Z.K) (hm : Z'.mg = Z.mg) (hw : Z'.w = Z.w) (hx : Z'.ex = some (i, a, oe)) (ev : Evs Z F ro env σ) (r : ExcR Z F ro oe c fs) :
    Evs Z' F ro (env.set i (some (.exc c fs))) (σ.set i (some (.ref a))) := by
  refine ⟨by simp [ev.1], fun j d e n => ?_, fun y c' fs' e1 e2 => ?_⟩
  · have hj : j ≠ i := fun z => n _ hx z.symm
    rw [List.getElem?_set_ne (Ne.symm hj)] at e
    obtain ⟨v, h1, h2⟩ := ev.2.1 j d e (fun y z => by rw [hZ] at z; cases z)
    exact ⟨v, by rw [List.getElem?_set_ne (Ne.symm hj)]; exact h1, Rep.ex hK hm hw h2⟩
  · rw [hx] at e1
    cases e1
    have hl : i < env.length := by
      have := (List.getElem?_eq_some_iff.mp e2).1
      simpa using this
    dsimp only at e2 ⊢
    rw [List.getElem?_set_self hl] at e2
    cases e2
    obtain ⟨C, dd, ws, a1, a2, a3, a4, a5⟩ := r
    exact ⟨by rw [List.getElem?_set_self (by rw [← ev.1]; exact hl)], C, dd, ws, a1, a2, by rw [hm]; exact a3, a4, RepF.ex hK hm hw a5⟩
theorem Evs.loose {Z Z' : Ct} {F : Hp} {ro : List Addr} {env : Ev} {σ : L2.St} {i : Nat} {a : Addr} {oe : Obj} (hZ : Z.ex = none) (hK : Z.K = Z'.K) (hm : Z.mg = Z'.mg) (hw : Z.w = Z'.w) (hx : Z'.ex = some (i, a, oe)) (ev : Evs Z' F ro env σ) :
    Evs Z F ro (env.set i none) (σ.set i none) := by
  refine ⟨by simp [ev.1], fun j d e n => ?_, fun y c' fs' e1 e2 => by rw [hZ] at e1; cases e1⟩
  by_cases hj : j = i
  · subst hj
    have hl : j < env.length := by
      have := (List.getElem?_eq_some_iff.mp e).1
      simpa using this
    rw [List.getElem?_set_self hl] at e
    cases e
  · rw [List.getElem?_set_ne (Ne.symm hj)] at e
    obtain ⟨v, h1, h2⟩ := ev.2.1 j d e (fun y z => by rw [hx] at z; cases z; exact Ne.symm hj)
    exact ⟨v, by rw [List.getElem?_set_ne (Ne.symm hj)]; exact h1, Rep.ex hK hm hw h2⟩
abbrev ctE (X : Cx) (i : Nat) (a : Addr) (oe : Obj) : Ct := ⟨X.K, X.mg, X.w, some (i, a, oe)⟩
theorem sm_try_as (hc : X.calm = true) (hs : X.stack = X.env :: X.outer) (hf : X.env.frame = some X.env.locals) (hN : X.N.Nodup) (hi : X.N[i]? = some "e") (hln : X.env.kindOf "e" = some .local) (hn : Names X x c) (tk : Takes X W)
    (hsb : ∀ y b, sb.lookup y = some b → ∀ C, X.mg y = some (.ref C) → PySem.W.exmOne X.K (.ref C) c = some b)
    (hb : ∀ (W' : WX) (pn : List (Addr × Obj)) (xe : Value → Shared → Prop), Takes (X.tr pn xe) W' → PassesOwn (model X.prog X.w) X.A X.env xe → PSs (X.tr pn xe) body (TSm (ct X) W' mb))
    (hsu : ∀ (a : Addr) (oe : Obj) (pn : List (Addr × Obj)), (∃ vs, oe.data = .fields vs) → PSs (X.suite a ((a, oe) :: pn)) (b₀ :: suite) (TSm (ctE X i a oe) WF ms)) :
    PSm X W (.Try body [.ExceptHandler (some (.Name x np)) (some "e") (b₀ :: suite) pos'] [] [] pos) (mTryAs sb i mb ms) :=
  PS.imp (ps_try_as (tb := fun W' => TSm (ct X) W' mb) (ts := fun a cls d D σ H => ∀ oe, Zc cls d oe → TSm (ctE X i a oe) WF ms D σ H) hs hf hN hi hln hn tk hb (fun a oe cls d pn hz hv => PSs.imp (hsu a oe pn hv) fun D σ H h => h oe hz)) fun D σ H h => by
    obtain ⟨F, ro, G, env, ok, ev, h⟩ := h
    have hZ : (ct X).ex = none := exA_calm hc
    refine ⟨F, ro, G, env, ok, ev, ?_⟩
    unfold mTryAs at h
    cases e1 : mb env G with
    | exc y fs e G1 =>
      rw [e1] at h
      simp only at h
      intro F1 ro1 H1 σ1 C dd ws n1 ok1 ev1 hC hdd rfs
      cases e2 : sb.lookup y with
      | none => rw [e2] at h; exact h.elim
      | some b =>
        rw [e2] at h
        refine ⟨b, hsb y b e2 C hC, fun hb1 a ha oe hz => ?_, fun hb0 => ?_⟩
        · subst hb1
          simp only at h
          have rx : ExcR (ct X) F1 ro1 oe y fs := ⟨C, dd, ws, hz.1, hz.2, hC, hdd, rfs⟩
          refine ⟨F1, ro1, G1, e.set i (some (.exc y fs)), Ok.ex (Z := ct X) rfl rfl rfl ok1, Evs.hold hZ rfl rfl rfl rfl ev1 rx, ?_⟩
          cases e3 : ms (e.set i (some (.exc y fs))) G1 with
          | nx e4 G2 => rw [e3] at h; exact fun F2 ro2 H2 σ2 n2 ok2 ev2 => h F2 ro2 H2 _ (n1.trans n2) (Ok.ex (Z := ctE X i a oe) (Z' := ct X) rfl rfl rfl ok2) (Evs.loose (Z' := ctE X i a oe) hZ rfl rfl rfl rfl ev2)
          | rt d G2 => rw [e3] at h; exact fun F2 ro2 H2 v n2 ok2 r2 => h F2 ro2 H2 v (n1.trans n2) (Ok.ex (Z := ctE X i a oe) (Z' := ct X) rfl rfl rfl ok2) (Rep.ex (Z := ctE X i a oe) (Z' := ct X) rfl rfl rfl r2)
          | bk e4 G2 => rw [e3] at h; exact fun F2 ro2 H2 σ2 n2 ok2 ev2 => h F2 ro2 H2 _ (n1.trans n2) (Ok.ex (Z := ctE X i a oe) (Z' := ct X) rfl rfl rfl ok2) (Evs.loose (Z' := ctE X i a oe) hZ rfl rfl rfl rfl ev2)
          | ct e4 G2 => rw [e3] at h; exact fun F2 ro2 H2 σ2 n2 ok2 ev2 => h F2 ro2 H2 _ (n1.trans n2) (Ok.ex (Z := ctE X i a oe) (Z' := ct X) rfl rfl rfl ok2) (Evs.loose (Z' := ctE X i a oe) hZ rfl rfl rfl rfl ev2)
          | exc c' fs' e4 G2 => rw [e3] at h; exact h.elim
          | bad => rw [e3] at h; exact h.elim
        · subst hb0
          exact h F1 ro1 H1 σ1 C dd ws n1 ok1 ev1 hC hdd rfs
    | nx e G1 => rw [e1] at h; exact h
    | rt d G1 => rw [e1] at h; exact h
    | bk e G1 => rw [e1] at h; exact h
    | ct e G1 => rw [e1] at h; exact h
    | bad => rw [e1] at h; exact h
end

/-! ### what a suite reads of the exception -/
def mXf (cs : List Str) (i : Nat) (n : Str) : Ex := fun env G => match env[i]? with
  | some (some (.exc c fs)) => if cs.contains c = true then (match fs.lookup n with
    | some d => .ok d G
    | none => .bad) else .bad
  | _ => .bad
def mXi (tb : List (Str × Bool)) (i : Nat) : Ex := fun env G => match env[i]? with
  | some (some (.exc c _)) => (match tb.lookup c with
    | some b => .ok (.bl b) G
    | none => .bad)
  | _ => .bad
section
variable {X : Cx} {W : WX} {pos p p2 p3 : Pos} {i : Nat} {a : Addr} {oe : Obj} {pn : List (Addr × Obj)} {n : Str} {cs : List Str} {tb : List (Str × Bool)}
theorem em_xf (hf : ∃ vs, oe.data = .fields vs) (hT : ∀ c, cs.contains c = true → ∀ C, X.mg c = some (.ref C) → XfC X.K C ∧ PySem.W.findIn X.K (.ref C) n = some none) (hi : X.N[i]? = some "e") (hv : Vis X.env.scope ("e" : Str))
    (hb : attributeBase (.Name "e" p) n X.env (eval (.Name "e" p) X.env) = eval (.Name "e" p) X.env := by rfl) :
    PE (X.suite a ((a, oe) :: pn)) (.Attribute (.Name "e" p) n pos) (T (ctE X i a oe) W (mXf cs i n)) := by
  refine ⟨fun pins s σ H Q I h => ?_⟩
  obtain ⟨F, ro, G, env, ok, ev, h⟩ := h
  unfold mXf at h
  split at h
  · rename_i c fs he
    obtain ⟨h1, C, dd, ws, hC, hd, hm, hF, rf⟩ := ev.2.2 _ c fs rfl he
    split at h
    · rename_i hcs
      obtain ⟨T1, T2⟩ := hT c hcs C hm
      cases e : fs.lookup n with
      | none => rw [e] at h; exact h.elim
      | some d =>
        rw [e] at h
        obtain ⟨v, hl, rv⟩ := RepF.look rf e
        refine (pe_xf (cls := .ref C) (d := some dd) (te := tVar i) T1 T2 ⟨hC, hd⟩ hf (pe_var (X := X.suite a ((a, oe) :: pn)) hi hv) hb).run pins s σ H Q I ?_
        exact ⟨.ref a, h1, rfl, rfl, dd, ws, v, rfl, ok.sub _ _ hF, hl, h.ok ok rv⟩
    · exact h.elim
  · exact h.elim
/-- isinstance(e, C) -/
structure XiC (K : PySem.W.Frag) (C : Addr) : Prop where
  ga : PySem.W.findIn K (.ref C) "__getattribute__" = some (some (.builtin "BaseException.__getattribute__"))
  gg : PySem.W.findIn K (.ref C) "__getattr__" = some none
  exC : PySem.W.subIn K (.ref C) (.type "BaseException") = some true
  cl : (PySem.W.clsIn K C).isSome = true
  ha : PySem.W.findIn K (.ref C) "__class__" = some (some (.builtin "object.__class__"))
  hn : PySem.W.specialIn K (.builtin "object.__class__") "__get__" = some (some (.builtin "getset_descriptor.__get__"))
  ht : PySem.W.takesIn K (.builtin "object.__class__") = some true
  hm : PySem.W.mroIn K C (.type "object") = some true
theorem em_xi {cv : Value} {y : V} {e2 : Expr} (hf : ∃ vs, oe.data = .fields vs) (hT : ∀ c b, tb.lookup c = some b → ∀ C, X.mg c = some (.ref C) → XiC X.K C ∧ PySem.W.kitOne X.K (.ref C) cv = some b) (hi : X.N[i]? = some "e") (hv : Vis X.env.scope ("e" : Str))
    (ht : PE (X.suite a ((a, oe) :: pn)) e2 (tC y)) (hcv : ∀ u, RelV y u → u = cv) (hm : X.mg "isinstance" = none) (hg : Gl X "isinstance")
    (h1 : starEach [.Name "e" p2, e2] X.env = (false, eval (.Name "e" p2) X.env) :: starEach [e2] X.env := by rfl) (h2 : starEach [e2] X.env = (false, eval e2 X.env) :: starEach [] X.env := by rfl) (hpl : (backTo pos (starEach [e2] X.env)).any (·.1) = false := by rfl) :
    PE (X.suite a ((a, oe) :: pn)) (.Call (.Name "isinstance" p) [.Name "e" p2, e2] [] pos) (T (ctE X i a oe) W (mXi tb i)) := by
  refine ⟨fun pins s σ H Q I h => ?_⟩
  obtain ⟨F, ro, G, env, ok, ev, h⟩ := h
  unfold mXi at h
  split at h
  · rename_i c fs he
    obtain ⟨hσ, C, dd, ws, hC, hd, hmc, hF, rf⟩ := ev.2.2 _ c fs rfl he
    cases e : tb.lookup c with
    | none => rw [e] at h; exact h.elim
    | some b =>
      rw [e] at h
      obtain ⟨T1, T2⟩ := hT c b e C hmc
      have hr : CallR (X.suite a ((a, oe) :: pn)) (.builtin "isinstance") (fun xs H Q => ∃ (c : V) (b : Bool), xs = [.ref a, c] ∧ (∀ u, RelV c u → u = cv) ∧ (∃ fs, H dd = some (.xd fs)) ∧ PySem.W.kitOne X.K (.ref C) cv = some b ∧ Q (.bl b) H) := by
        intro pins s σ H xs us Q I r h
        obtain ⟨c, b, rfl, hcv, ⟨fs, hx⟩, e, q⟩ := h
        cases r with
        | cons rx rr =>
          cases rr with
          | cons rt rr =>
            cases rr
            cases rx
            have ec := hcv _ rt
            subst ec
            obtain ⟨hget, _⟩ := I.pin (a, oe) (List.mem_append.mpr (.inl List.mem_cons_self))
            obtain ⟨vs, hv⟩ := hf
            have hx' : ObjOk X.prog X.w H s.heap dd (.xd fs) := I.hok dd _ hx
            obtain ⟨mA, hns, hr⟩ := hx'
            obtain ⟨od, ho, _⟩ := lookIn_ns hns
            have J : PySem.W.InstAt s.heap a oe C (some od) := ⟨hget, hC, by unfold PySem.W.notCls; rw [hv] <;> rfl, by rw [hd]; exact ho⟩
            exact PySem.W.kia_one (PySem.W.kitx_exc T1.cl T1.ga T1.gg T1.exC T1.ha T1.hn T1.ht T1.hm) I.kIn J e (fun z => nomatch z) fun tk => ⟨.bl b, H, I.kept (t' := tk) fun _ _ z => z, rfl, q⟩
      refine (pe_callB (X := X.suite a ((a, oe) :: pn)) hr hg hm PyProof.Rows.Boot.isinstance (pa_cons (pe_var (X := X.suite a ((a, oe) :: pn)) hi hv) (pa_cons ht pa_nil h2) h1) (by decide) (by decide) h1 hpl).run pins s σ H Q I ?_
      exact ⟨.ref a, hσ, y, b, rfl, hcv, ⟨ws, ok.sub _ _ hF⟩, T2, h.ok ok (.bl _)⟩
  · exact h.elim
end
end Mi

set_option maxHeartbeats 4000000
/-! Mi9: defs and exception classes of a row, told by names. -/
namespace Mi
open PySem PySem.Spec PyProof.Rows L2 NdefX

section
variable (P : Program) (w : World) (K : PySem.W.Frag) (mg : Str → Option Value) (base : Heap)
/-- the def x of the row does what fm says: n values, of which the last ones are dfl when they are not given -/
def FnG (k : Nat) (x : Str) (n : Nat) (dfl : List Mi.D) (fm : Fm) : Prop := ∃ (f : Addr) (fd : FuncData) (ps : List Str) (dvs : List V) (ds : List Value),
  FnOk P w K mg base (L2.CX P w) k f fd ps (SpF ⟨K, mg, w, none⟩ fm n) ∧ mg x = some (.ref f) ∧ PySem.W.keepIn K (.ref f) = true ∧ Binds K fd ps ds ∧ Vals dvs ds ∧ ∀ F ro, Reps ⟨K, mg, w, none⟩ F ro dfl dvs
/-- the exception class x keeps its parameters in the fields fl -/
def XcG (k : Nat) (x : Str) (fl : List Str) : Prop := ∃ (C fI : Addr) (fd : FuncData) (ps : List Str) (sp : Sp),
  OexC K C ∧ PySem.W.findIn K (.ref C) "__init__" = some (some (.ref fI)) ∧ PySem.W.typeIn K (.ref fI) = some (.type "function") ∧ FnOk P w K mg base (L2.CX P w) k fI fd ps sp ∧ XSp C fl sp ∧ Binds K fd ps [] ∧ mg x = some (.ref C)
end
section
variable {P : Program} {w : World} {K : PySem.W.Frag} {mg : Str → Option Value} {base : Heap}
theorem FnG.mk {x qual : Str} {params : Arguments} {body : List Stmt} {scope : Scope} {kws : List (Str × V)} {f : Addr} {fd : FuncData} {N ps : List Str} {k : Nat} {b : Sx} (F : FunD K x qual params body scope [] kws f fd) (S : FnScope N ps scope) (hm : mg x = some (.ref f))
    (hbind : ∀ (kV doc pm : Value) (an : Option Addr) (cdv ct : Value) (us : List Value), us.length = ps.length → bindArgs (PySem.W.fnOf x qual params body scope .none kV doc pm an cdv ct) ⟨us, []⟩ = pure (ps.zip us))
    (hb : ∀ (cdv : Value) (A : Around) (outer : List Env) (s : Shared) (H : Hp) (E : XK), Room k (A.deeper (envOfC qual scope s.heap.objs.size f cdv)) → PSsm (cxOf (L2.CX P w) P w K mg base N qual scope f cdv A outer s H E) (WE1 E) body b) :
    FnG P w K mg base (k + 1) x ps.length [] (fnM N.length b) :=
  ⟨f, fd, ps, [], [], fn_ok F S hb, hm, F.kp, F.bindsN hbind, .nil, fun _ _ => .nil⟩
end
section
variable {X : Cx} {W : WX} {pos pos' p : Pos} {j k n : Nat} {x : Str} {dfl : List Mi.D} {fm : Fm} {e : Expr} {es : List Expr} {ma : Ax} {fl : List Str}
theorem ct_calm (hc : X.calm = true) : (⟨X.K, X.mg, X.w, none⟩ : Ct) = ct X := by unfold ct; rw [exA_calm hc]
theorem em_cG (F : FnG X.prog X.w X.K X.mg X.base j x n dfl fm) (hr : Room k X.A) (hjk : j ≤ k) (tk : Takes X W) (ha : PAm X W (e :: es) ma) (hc : X.calm = true := by rfl) (hg : Gl X x := by rfl) (hdb : (x == ("__debug__" : Str)) = false := by decide)
    (he : starEach (e :: es) X.env = (false, eval e X.env) :: starEach es X.env := by rfl) (hpl : (backTo pos (starEach es X.env)).any (·.1) = false := by rfl) : PEm X W (.Call (.Name x p) (e :: es) [] pos) (mCall fm n dfl ma) := by
  obtain ⟨f, fd, ps, dvs, ds, h1, h2, h3, h4, h5, h6⟩ := F
  rw [ct_calm hc] at h1 h6
  exact em_callW h1 (hr.mono hjk) h2 h3 h4 h5 tk h6 ha hg hdb he hpl
theorem em_cG0 (F : FnG X.prog X.w X.K X.mg X.base j x n dfl fm) (hr : Room k X.A) (hjk : j ≤ k) (tk : Takes X W) (hc : X.calm = true := by rfl) (hg : Gl X x := by rfl) (hdb : (x == ("__debug__" : Str)) = false := by decide) :
    PEm X W (.Call (.Name x p) [] [] pos) (mCall fm n dfl mNil) := by
  obtain ⟨f, fd, ps, dvs, ds, h1, h2, h3, h4, h5, h6⟩ := F
  rw [ct_calm hc] at h1 h6
  exact em_callW0 h1 (hr.mono hjk) h2 h3 h4 h5 tk h6 hg hdb
theorem sm_rG (F : XcG X.prog X.w X.K X.mg X.base j x fl) (hr : Room k X.A) (hjk : j + 1 ≤ k) (tk : Takes X W) (ha : PAm X W (e :: es) ma) (hc : X.calm = true := by rfl) (hg : Gl X x := by rfl) (hdb : (x == ("__debug__" : Str)) = false := by decide)
    (he : starEach (e :: es) X.env = (false, eval e X.env) :: starEach es X.env := by rfl) (hpl : (backTo pos (starEach es X.env)).any (·.1) = false := by rfl) : PSm X W (.Raise (some (.Call (.Name x p) (e :: es) [] pos)) none pos') (mRaise x fl ma) := by
  obtain ⟨C, fI, fd, ps, sp, h1, h2, h3, h4, h5, h6, h7⟩ := F
  exact sm_raise hc tk h1 h2 h3 h4 h5 (hr.mono hjk) h6 h7 ha hg hdb he hpl
/-- a built-in class by its name -/
theorem em_ty {T' : String} {x : Str} (hm : X.mg x = none) (hv : bootBuiltins x = some (.type T')) (hg : Gl X x := by rfl) (hn : x ≠ "__name__" := by decide) (hd : (x == ("__debug__" : Str)) = false := by decide) : PEm X W (.Name x pos) (mC (.ty T')) :=
  em_c (v := .ty T') ⟨fun pins s σ H Q I h => ld_blt I hg hm hv ⟨.ty T', H, I, rfl, h⟩ hn hd⟩ fun _ _ => .ty T'
/-- a global object by its name -/
theorem em_ob {d : Mi.D} {a : Addr} (hm : X.mg x = some (.ref a)) (r : ∀ F ro, Rep ⟨X.K, X.mg, X.w, none⟩ F ro d (.ref a)) (hg : Gl X x := by rfl) (hd : (x == ("__debug__" : Str)) = false := by decide) : PEm X W (.Name x pos) (mC d) :=
  em_gl (v := .ref a) hm rfl (fun F ro => Rep.ex (Z := ⟨X.K, X.mg, X.w, none⟩) (Z' := ct X) rfl rfl rfl (r F ro)) hg hd
end

/-! ### an exception class of the row -/
abbrev IniW : Type := Option (Str × Str × Arguments × FuncBody × Scope × Addr × List Str × Addr)
def iniW (K : PySem.W.Frag) (x : Str) : IniW := match K.lookup (He.ma K (He.ga K x) "__init__") with
  | some ⟨_, _, .func fd, _⟩ => some (fd.name, fd.qualname, fd.params, fd.body, fd.scope, fd.globals, fd.closure.map (·.1), fd.builtins)
  | _ => none
structure IniD where
  cls : Str
  qual : Str
  params : Arguments
  body : List Stmt
  scope : Scope
  prop : Option Str := none
def IniD.val (d : IniD) : IniW := some ("__init__", d.qual, d.params, .stmts d.body, d.scope, mainGlobals, ["__class__"], builtinsNs)
/-- a property's getter -/
def pga (K : PySem.W.Frag) (x f : Str) : Addr := match PySem.W.recIn K (He.ma K (He.ga K x) f) "property" with
  | some (.ref g :: _) => g
  | _ => 0
def iniX (K : PySem.W.Frag) (d : IniD) : IniW := match d.prop with
  | none => iniW K d.cls
  | some f => (match K.lookup (pga K d.cls f) with
    | some ⟨_, _, .func fd, _⟩ => some (fd.name, fd.qualname, fd.params, fd.body, fd.scope, fd.globals, fd.closure.map (·.1), fd.builtins)
    | _ => none)
def IniD.valX (d : IniD) : IniW := match d.prop with
  | none => d.val
  | some f => some (f, d.qual, d.params, .stmts d.body, d.scope, mainGlobals, [], builtinsNs)
/-- what is asked of a property by a decision -/
def prpB (K : PySem.W.Frag) (d : IniD) : Bool := match d.prop with
  | none => false
  | some f => decide (PySem.W.findIn K (.ref (He.ga K d.cls)) f = some (some (.ref (He.ma K (He.ga K d.cls) f)))) && (decide (PySem.W.specialIn K (.ref (He.ma K (He.ga K d.cls) f)) "__get__" = some (some (.builtin "property.__get__"))) &&
    (decide (PySem.W.takesIn K (.ref (He.ma K (He.ga K d.cls) f)) = some true) && ((match PySem.W.recIn K (He.ma K (He.ga K d.cls) f) "property" with
    | some (.ref g :: _) => decide (g = pga K d.cls f)
    | _ => false) && (PySem.W.keepIn K (.ref (pga K d.cls f)) && (match K.lookup (pga K d.cls f) with
    | some ⟨_, _, .func fd, _⟩ => PySem.W.codeIn K fd.code d.qual && ((match fd.defaults with
      | .none => true
      | _ => false))
    | _ => false)))))
def oexB (K : PySem.W.Frag) (C : Addr) : Bool := (match K.lookup C with
  | some ⟨.type t, _, .cls cd, sl⟩ => (match cd.mro, sl.toList with
    | .ref C' :: bm, [_, _, _, _, some (.builtin n), _] => decide (t = "type") && (decide (C' = C) && (decide (n = "ValueError.__new__") && (!cd.hasDel && (cd.hasDict && PySem.HandSPX.refsVE bm))))
    | _, _ => false)
  | _ => false) && (decide (PySem.W.findIn K (.ref C) "__setattr__" = some (some (.builtin "object.__setattr__"))) && (decide (PySem.W.subIn K (.ref C) (.type "BaseException") = some true) && (decide (PySem.W.typeIn K (.ref C) = some (.type "type")) && PySem.W.keepIn K (.ref C))))
theorem oexB_ok {K : PySem.W.Frag} {C : Addr} (h : oexB K C = true) : OexC K C := by
  obtain ⟨h1, h⟩ := He.ba h
  obtain ⟨h2, h⟩ := He.ba h
  obtain ⟨h3, h⟩ := He.ba h
  obtain ⟨h4, h5⟩ := He.ba h
  refine ⟨?_, of_decide_eq_true h2, of_decide_eq_true h3, of_decide_eq_true h4, h5⟩
  split at h1
  · rename_i t dd cd sl ho
    split at h1
    · rename_i C' bm k0 k1 k2 k3 n k5 hm hs
      obtain ⟨a1, h1⟩ := He.ba h1
      obtain ⟨a2, h1⟩ := He.ba h1
      obtain ⟨a3, h1⟩ := He.ba h1
      obtain ⟨a4, h1⟩ := He.ba h1
      obtain ⟨a5, a6⟩ := He.ba h1
      have b1 := of_decide_eq_true a1
      have b2 := of_decide_eq_true a2
      have b3 := of_decide_eq_true a3
      subst b1 b2 b3
      obtain ⟨nm, bs, mro, ns, qn, hd, sn, sub, ab, col, del⟩ := cd
      dsimp only at hm a4 a5
      subst hm a5
      have a4' : del = false := by cases del <;> simp_all
      subst a4'
      have hsl : sl = #[k0, k1, k2, k3, some (.builtin "ValueError.__new__"), k5] := by
        obtain ⟨l⟩ := sl
        simp only at hs
        rw [hs]
      subst hsl
      exact ⟨nm, qn, ns, bs, bm, sn, sub, ab, col, dd, k0, k1, k2, k3, k5, ho, a6⟩
    · cases h1
  · cases h1
def xiB (K : PySem.W.Frag) (C : Addr) : Bool := decide (PySem.W.findIn K (.ref C) "__getattribute__" = some (some (.builtin "BaseException.__getattribute__"))) && (decide (PySem.W.findIn K (.ref C) "__getattr__" = some none) && (decide (PySem.W.subIn K (.ref C) (.type "BaseException") = some true) && (PySem.W.hasDictIn K C &&
  (decide (PySem.W.findIn K (.ref C) "__class__" = some (some (.builtin "object.__class__"))) && (decide (PySem.W.specialIn K (.builtin "object.__class__") "__get__" = some (some (.builtin "getset_descriptor.__get__"))) && (decide (PySem.W.takesIn K (.builtin "object.__class__") = some true) && decide (PySem.W.mroIn K C (.type "object") = some true)))))))
theorem xiB_ok {K : PySem.W.Frag} {C : Addr} (h : xiB K C = true) : XiC K C ∧ XfC K C := by
  obtain ⟨h1, h⟩ := He.ba h
  obtain ⟨h2, h⟩ := He.ba h
  obtain ⟨h3, h⟩ := He.ba h
  obtain ⟨h4, h⟩ := He.ba h
  obtain ⟨h5, h⟩ := He.ba h
  obtain ⟨h6, h⟩ := He.ba h
  obtain ⟨h7, h8⟩ := He.ba h
  have hc : (PySem.W.clsIn K C).isSome = true := by
    unfold PySem.W.hasDictIn at h4
    cases q : PySem.W.clsIn K C with
    | none => rw [q] at h4; cases h4
    | some _ => rfl
  exact ⟨⟨of_decide_eq_true h1, of_decide_eq_true h2, of_decide_eq_true h3, hc, of_decide_eq_true h5, of_decide_eq_true h6, of_decide_eq_true h7, of_decide_eq_true h8⟩, ⟨of_decide_eq_true h1, of_decide_eq_true h2, of_decide_eq_true h3, h4⟩⟩
def iniB (K : PySem.W.Frag) (file : Str) (d : IniD) : Bool := (match K.lookup (He.ma K (He.ga K d.cls) "__init__") with
  | some ⟨.type t, _, .func fd, _⟩ => decide (t = "function") && (PySem.W.codeIn K fd.code d.qual && ((match fd.defaults with
    | .none => true
    | _ => false) && ((match fd.closure with
    | [(_, cc)] => (match K.lookup cc with
      | some ⟨_, _, .cell (some (.ref D)), _⟩ => decide (D = He.ga K d.cls)
      | _ => false)
    | _ => false) && (match fd.code with
    | .ref cda => (match K.lookup cda with
      | some ⟨_, _, .fields vs, _⟩ => (match vs[2]? with
        | some (Value.str z _) => decide (z = file)
        | _ => false)
      | _ => false)
    | _ => false))))
  | _ => false) && (decide (PySem.W.mroIn K (He.ga K d.cls) (.ref (He.ga K d.cls)) = some true) && (decide (PySem.W.ks_superIn K (He.ga K d.cls) (He.ga K d.cls) "__init__" = some (some (.builtin "ValueError.__init__"))) &&
  (decide (PySem.W.subIn K (.ref (He.ga K d.cls)) (.type "ValueError") = some true) && (decide (PySem.W.findIn K (.ref (He.ga K d.cls)) "__init__" = some (some (.ref (He.ma K (He.ga K d.cls) "__init__")))) && oexB K (He.ga K d.cls)))))
section
variable {P : Program} {w : World} {K : PySem.W.Frag} {mg : Str → Option Value} {base : Heap} {k j : Nat} {d : IniD} {c0 file : Str} {p0 p1 p2 p3 p4 p5 : Pos} {rest : List Stmt} {N ps fl : List Str} {t : TS} {ar : Arg} {pl : Sem Bool}
theorem XcG.mk (e : iniW K d.cls = d.val) (c : iniB K file d = true) (hany : PySem.W.nsIn K cStatics "thirdparty.any" = some none) (hsuper : mg "super" = none) (hm : mg d.cls = some (.ref (He.ga K d.cls))) (hfile : ((P.main.file : Str) == file) = true)
    (htop : (P.main.scope.names.lookup ("super" : Str)).isSome = false) (hbody : d.body = .Expr (.Call (.Attribute (.Call (.Name "super" p0) [] [] p1) "__init__" p2) [.Constant (.str c0) j p3] [] p4) p5 :: rest)
    (S : NScope N ps ["__class__"] d.scope) (hp : (d.params.posonlyargs ++ d.params.args).head? = some ar) (har : ps.head? = some ar.arg) (hks : d.scope.names.lookup ("super" : Str) = some .globalImplicit)
    (hbind : ∀ (kV doc pm : Value) (an : Option Addr) (cdv ct : Value) (cc : Addr) (us : List Value), us.length = ps.length → bindArgs (PySem.W.ksFn "__init__" d.qual d.params d.body d.scope .none kV doc pm an cdv ct cc) ⟨us, []⟩ = pure (ps.zip us))
    (hsp : OexC K (He.ga K d.cls) → XSp (He.ga K d.cls) fl (SpX (He.ga K d.cls) ps.length N t))
    (hrest : ∀ (f cc cda : Addr) (A : Around) (outer : List Env) (s : Shared) (H : Hp) (E : XK), PSs (ncx (L2.CX P w) P w K mg base N ⟨"__init__", d.qual, d.params, d.body, d.scope, [("__class__", cc)], cda⟩ f A outer s H E) rest t)
    (he : ∀ env : Env, eval (.Call (.Attribute (.Call (.Name "super" p0) [] [] p1) "__init__" p2) [.Constant (.str c0) j p3] [] p4) env = (do
      let ov ← attributeBase (.Call (.Name "super" p0) [] [] p1) "__init__" env (eval (.Call (.Name "super" p0) [] [] p1) env)
      standAt p2.atName
      let (f, first) ← holding [ov] (getMethod ov "__init__" pl)
      callWith p4 f first (backTo p4 (starEach [.Constant (.str c0) j p3] env)) [])) :
    XcG P w K mg base (k + 1) d.cls fl := by
  obtain ⟨cls, qual, params, body, scope⟩ := d
  dsimp only at *
  subst hbody
  obtain ⟨c1, c⟩ := He.ba c
  obtain ⟨c2, c⟩ := He.ba c
  obtain ⟨c3, c⟩ := He.ba c
  obtain ⟨c4, c⟩ := He.ba c
  obtain ⟨c5, c6⟩ := He.ba c
  dsimp only at c1 c2 c3 c4 c5 c6
  have T := oexB_ok c6
  unfold iniW IniD.val at e
  dsimp only at e
  split at c1
  · rename_i ty od fd osl lk
    rw [lk] at e
    obtain ⟨n1, n2, n3, n4, n5, n6, n7, n8, n9, n10, n11, n12, n13, n14, n15⟩ := fd
    simp only [Option.some.injEq, Prod.mk.injEq] at e
    obtain ⟨h1, h2, h3, h4, h5, h6, h7, h8⟩ := e
    subst h1 h2 h3 h4 h5 h6 h8
    obtain ⟨a1, z1⟩ := He.ba c1
    obtain ⟨a2, z2⟩ := He.ba z1
    obtain ⟨a3, z3⟩ := He.ba z2
    obtain ⟨a4, a5⟩ := He.ba z3
    clear c1 z1 z2 z3
    dsimp only at a2 a3 a4 a5
    have b1 := of_decide_eq_true a1
    subst b1
    cases n8 with
    | none =>
      split at a4
      · rename_i nmc cc
        have h7' : nmc = "__class__" := by simpa using h7
        subst h7'
        split at a4
        · rename_i ccl ccd D csl lkc
          have bD := of_decide_eq_true a4
          subst bD
          split at a5
          · rename_i cda
            split at a5
            · rename_i x1 x2 vs x3 lkd
              split at a5
              · rename_i z tz hvs
                have bz := of_decide_eq_true a5
                subst bz
                refine ⟨_, _, _, ps, _, T, of_decide_eq_true c5, ?_, xi_ok (t := t) lk a2 S hp har lkd hvs hfile lkc (of_decide_eq_true c2) hsuper hks htop (of_decide_eq_true c3) hany (of_decide_eq_true c4) T (fun A outer s H E => hrest _ _ _ A outer s H E) he, hsp T, ?_, hm⟩
                · show Option.map (fun x : Obj => x.cls) (List.lookup _ K) = _
                  rw [lk] <;> rfl
                · exact .all fun us hl => hbind _ _ _ _ _ _ _ us hl
              · cases a5
            · cases a5
          · cases a5
        · cases a4
      · cases a4
    | _ => cases a3
  · cases c1
/-- one field -/
theorem XcG.mk1 {f x : Str} {q0 q1 q2 q3 : Pos} (e : iniW K d.cls = d.val) (c : iniB K file d = true) (hany : PySem.W.nsIn K cStatics "thirdparty.any" = some none) (hno : PySem.W.findIn K (.ref (He.ga K d.cls)) f = some none) (hsuper : mg "super" = none) (hm : mg d.cls = some (.ref (He.ga K d.cls))) (hfile : ((P.main.file : Str) == file) = true)
    (htop : (P.main.scope.names.lookup ("super" : Str)).isSome = false) (hbody : d.body = [.Expr (.Call (.Attribute (.Call (.Name "super" p0) [] [] p1) "__init__" p2) [.Constant (.str c0) j p3] [] p4) p5, .Assign [.Attribute (.Name "self" q0) f q1] (.Name x q2) q3])
    (S : NScope ["self", x, "__class__"] ["self", x] ["__class__"] d.scope) (hp : (d.params.posonlyargs ++ d.params.args).head? = some ar) (har : ("self" : Str) = ar.arg) (hks : d.scope.names.lookup ("super" : Str) = some .globalImplicit)
    (hbind : ∀ (kV doc pm : Value) (an : Option Addr) (cdv ct : Value) (cc : Addr) (us : List Value), us.length = 2 → bindArgs (PySem.W.ksFn "__init__" d.qual d.params d.body d.scope .none kV doc pm an cdv ct cc) ⟨us, []⟩ = pure (([("self" : Str), x] : List Str).zip us))
    (hs : ∀ env : Env, swapsWith (.Name x q2) (some (.Attribute (.Name "self" q0) f q1)) q3.line env = pure false) (hd : (x == ("__debug__" : Str)) = false) (hcd : (x == ("__classdict__" : Str)) = false)
    (he : ∀ env : Env, eval (.Call (.Attribute (.Call (.Name "super" p0) [] [] p1) "__init__" p2) [.Constant (.str c0) j p3] [] p4) env = (do
      let ov ← attributeBase (.Call (.Name "super" p0) [] [] p1) "__init__" env (eval (.Call (.Name "super" p0) [] [] p1) env)
      standAt p2.atName
      let (f, first) ← holding [ov] (getMethod ov "__init__" pl)
      callWith p4 f first (backTo p4 (starEach [.Constant (.str c0) j p3] env)) [])) :
    XcG P w K mg base (k + 1) d.cls [f] :=
  XcG.mk (t := tOst K f (tVar 0) (tVar 1)) e c hany hsuper hm hfile htop hbody S hp (by rw [← har] <;> rfl) hks hbind (fun T => xsp1 T hno)
    (fun fA cc cda A outer s H E => pss_one (ps_ost (pe_var rfl (Or.inl (S.par _ (by simp)))) (pe_var rfl (Or.inl (S.par _ (by simp))) hd hcd) (hs _))) he
theorem XcG.mk2 {f g x y : Str} {q0 q1 q2 q3 r0 r1 r2 r3 : Pos} (e : iniW K d.cls = d.val) (c : iniB K file d = true) (hany : PySem.W.nsIn K cStatics "thirdparty.any" = some none) (hnf : PySem.W.findIn K (.ref (He.ga K d.cls)) f = some none) (hng : PySem.W.findIn K (.ref (He.ga K d.cls)) g = some none) (hsuper : mg "super" = none) (hm : mg d.cls = some (.ref (He.ga K d.cls))) (hfile : ((P.main.file : Str) == file) = true)
    (htop : (P.main.scope.names.lookup ("super" : Str)).isSome = false) (hbody : d.body = [.Expr (.Call (.Attribute (.Call (.Name "super" p0) [] [] p1) "__init__" p2) [.Constant (.str c0) j p3] [] p4) p5, .Assign [.Attribute (.Name "self" q0) f q1] (.Name x q2) q3, .Assign [.Attribute (.Name "self" r0) g r1] (.Name y r2) r3])
    (S : NScope ["self", x, y, "__class__"] ["self", x, y] ["__class__"] d.scope) (hp : (d.params.posonlyargs ++ d.params.args).head? = some ar) (har : ("self" : Str) = ar.arg) (hks : d.scope.names.lookup ("super" : Str) = some .globalImplicit)
    (hbind : ∀ (kV doc pm : Value) (an : Option Addr) (cdv ct : Value) (cc : Addr) (us : List Value), us.length = 3 → bindArgs (PySem.W.ksFn "__init__" d.qual d.params d.body d.scope .none kV doc pm an cdv ct cc) ⟨us, []⟩ = pure (([("self" : Str), x, y] : List Str).zip us))
    (hs : ∀ env : Env, swapsWith (.Name x q2) (some (.Attribute (.Name "self" q0) f q1)) q3.line env = pure false) (hs2 : ∀ env : Env, swapsWith (.Name y r2) (some (.Attribute (.Name "self" r0) g r1)) r3.line env = pure false) (hd : (x == ("__debug__" : Str)) = false) (hcd : (x == ("__classdict__" : Str)) = false) (hd2 : (y == ("__debug__" : Str)) = false) (hcd2 : (y == ("__classdict__" : Str)) = false)
    (he : ∀ env : Env, eval (.Call (.Attribute (.Call (.Name "super" p0) [] [] p1) "__init__" p2) [.Constant (.str c0) j p3] [] p4) env = (do
      let ov ← attributeBase (.Call (.Name "super" p0) [] [] p1) "__init__" env (eval (.Call (.Name "super" p0) [] [] p1) env)
      standAt p2.atName
      let (f, first) ← holding [ov] (getMethod ov "__init__" pl)
      callWith p4 f first (backTo p4 (starEach [.Constant (.str c0) j p3] env)) [])) :
    XcG P w K mg base (k + 1) d.cls [f, g] :=
  XcG.mk (t := tSeq (tOst K f (tVar 0) (tVar 1)) (tOst K g (tVar 0) (tVar 2))) e c hany hsuper hm hfile htop hbody S hp (by rw [← har] <;> rfl) hks hbind (fun T => xsp2 T hnf hng)
    (fun fA cc cda A outer s H E => pss_cons (ps_ost (pe_var rfl (Or.inl (S.par _ (by simp)))) (pe_var rfl (Or.inl (S.par _ (by simp))) hd hcd) (hs _)) (pss_one (ps_ost (pe_var rfl (Or.inl (S.par _ (by simp)))) (pe_var rfl (Or.inl (S.par _ (by simp))) hd2 hcd2) (hs2 _)))) he
end
end Mi

set_option maxHeartbeats 4000000
/-! MiA: constants of the row; what the head tells of the row. -/
namespace Mi
open PySem PySem.Spec PyProof.Rows L2

/-! ### constants -/
mutual
/-- the value stands for the tree, in the written part -/
def repB (K : PySem.W.Frag) : Mi.D → Value → Bool
  | .non, .none => true
  | .bl b, .bool c => b == c
  | .int i, .int j _ => decide (i = j)
  | .str x, .str y _ => decide (x = y)
  | .ty n, .type m => decide (n = m)
  | .tup ds, .ref a => (match K.lookup a with
    | some ⟨.type c, _, .seq its _, _⟩ => decide (c = "tuple") && (decide (its.size ≤ sizeLine) && repBs K ds its.toList)
    | _ => false)
  | _, _ => false
def repBs (K : PySem.W.Frag) : List Mi.D → List Value → Bool
  | [], [] => true
  | d :: ds, u :: us => repB K d u && repBs K ds us
  | _, _ => false
end
section
variable {K : PySem.W.Frag} {mg : Str → Option Value} {w : World}
mutual
theorem repB_ok : ∀ (d : Mi.D) (u : Value), repB K d u = true → ∃ v, RelV v u ∧ ∀ F ro, Rep ⟨K, mg, w, none⟩ F ro d v
  | .non, u, h => by
    cases u <;> simp [repB] at h
    exact ⟨.non, rfl, fun _ _ => .non⟩
  | .bl b, u, h => by
    cases u <;> simp [repB] at h
    subst h
    exact ⟨.bl _, rfl, fun _ _ => .bl _⟩
  | .int b, u, h => by
    cases u <;> simp [repB] at h
    subst h
    exact ⟨.int _, ⟨_, rfl⟩, fun _ _ => .int _⟩
  | .str b, u, h => by
    cases u <;> simp [repB] at h
    subst h
    exact ⟨.str _, ⟨_, rfl⟩, fun _ _ => .str _⟩
  | .ty b, u, h => by
    cases u <;> simp [repB] at h
    subst h
    exact ⟨.ty _, rfl, fun _ _ => .ty _⟩
  | .tup ds, u, h => by
    cases u with
    | ref a =>
      unfold repB at h
      split at h
      · rename_i c od its n sl lk
        obtain ⟨h1, h⟩ := He.ba h
        obtain ⟨h2, h3⟩ := He.ba h
        obtain ⟨vs, rv, rr⟩ := repBs_ok ds its.toList h3
        exact ⟨.ref a, rfl, fun F ro => .tup (.inr ⟨_, its, n, lk, congrArg Value.type (of_decide_eq_true h1), rfl, of_decide_eq_true h2, rv⟩) (rr F ro)⟩
      · cases h
    | _ => simp [repB] at h
  | .gl _, u, h => by cases u <;> simp [repB] at h
  | .lst _, u, h => by cases u <;> simp [repB] at h
  | .scr _, u, h => by cases u <;> simp [repB] at h
  | .dct _, u, h => by cases u <;> simp [repB] at h
  | .dck _, u, h => by cases u <;> simp [repB] at h
  | .ins _ _, u, h => by cases u <;> simp [repB] at h
  | .cel _, u, h => by cases u <;> simp [repB] at h
  | .exc _ _, u, h => by cases u <;> simp [repB] at h
theorem repBs_ok : ∀ (ds : List Mi.D) (us : List Value), repBs K ds us = true → ∃ vs, Vals vs us ∧ ∀ F ro, Reps ⟨K, mg, w, none⟩ F ro ds vs
  | [], us, h => by
    cases us <;> simp [repBs] at h
    exact ⟨[], .nil, fun _ _ => .nil⟩
  | d :: ds, us, h => by
    cases us with
    | nil => simp [repBs] at h
    | cons u us =>
      unfold repBs at h
      obtain ⟨h1, h2⟩ := He.ba h
      obtain ⟨v, rv, rr⟩ := repB_ok d u h1
      obtain ⟨vs, rvs, rrs⟩ := repBs_ok ds us h2
      exact ⟨v :: vs, .cons rv rvs, fun F ro => .cons (rr F ro) (rrs F ro)⟩
end
/-- a table of the module, text keys -/
def tabB (K : PySem.W.Frag) (x : Str) (kvs : List (Str × Mi.D)) : Bool := kvs.all fun q => match PySem.W.nsIn K (He.ga K x) q.1 with
  | some (some u) => repB K q.2 u
  | _ => false
theorem repN_of {a : Addr} : ∀ {kvs : List (Str × Mi.D)}, (kvs.all fun q => match PySem.W.nsIn K a q.1 with
  | some (some u) => repB K q.2 u
  | _ => false) = true → ∀ F ro, RepN ⟨K, mg, w, none⟩ F ro a kvs
  | [], _, _, _ => .nil
  | (x, d) :: r, h, F, ro => by
    simp only [List.all_cons, Bool.and_eq_true] at h
    obtain ⟨h1, h2⟩ := h
    split at h1
    · rename_i u hu
      obtain ⟨v, rv, rr⟩ := repB_ok (mg := mg) (w := w) d u h1
      exact .cons hu rv (rr F ro) (repN_of h2 F ro)
    · cases h1
theorem ns_out {a : Addr} {es : Array DictEntry} {n : Nat} {ks : List Str} {x : Str} (k : KDict K w a es n) (h : es.toList.map He.keyOf = He.keysIn w.params ks) (hx : x ∉ ks) : PySem.W.nsIn K a x = some none := by
  have key : ∀ e ∈ es.toList, ∃ z t, e.key = .str z t ∧ z ∈ ks := fun e he => by
    have h1 : He.keyOf e ∈ He.keysIn w.params ks := by rw [← h]; exact List.mem_map_of_mem he
    obtain ⟨z, hz, e1⟩ := List.mem_map.mp h1
    unfold He.keyOf at e1
    split at e1
    · rename_i y t hk
      simp only [Option.some.injEq, Prod.mk.injEq] at e1
      exact ⟨y, t, hk, by rw [← e1.1]; exact hz⟩
    · cases e1
  unfold PySem.W.nsIn
  rw [k.at_]
  have h1 : es.toList.find? (fun e => e.key.isStr x) = none := List.find?_eq_none.mpr fun e he z => by
    obtain ⟨y, t, ek, hy⟩ := key e he
    rw [ek] at z
    have z2 : y = x := by simpa [Value.isStr] using z
    exact hx (z2 ▸ hy)
  have h2 : es.toList.any (fun e => e.refKey) = false := List.any_eq_false.mpr fun e he => by
    obtain ⟨y, t, ek, hy⟩ := key e he
    simp [DictEntry.refKey, ek]
  simp only [h1, h2] <;> rfl
theorem lookup_none {α : Type} {x : Str} : ∀ {l : List (Str × α)}, l.lookup x = none → x ∉ l.map (·.1)
  | [], _ => by simp
  | (y, d) :: r, h => by
    simp only [List.lookup_cons] at h
    split at h
    · cases h
    · rename_i hn
      simp only [List.map_cons, List.mem_cons, not_or]
      exact ⟨fun z => by subst z; simp at hn, lookup_none h⟩
theorem dck_ok {x : Str} {kvs : List (Str × Mi.D)} (h1 : He.dicW K (He.ga K x) = some (He.keysIn w.params (kvs.map (·.1)))) (h2 : tabB K x kvs = true) : ∀ F ro, Rep ⟨K, mg, w, none⟩ F ro (.dck kvs) (.ref (He.ga K x)) := fun F ro => by
  obtain ⟨es, n, k⟩ := He.dicW_ok h1
  refine .dck k (repN_of h2 F ro) fun y hy => ns_out k (ks := kvs.map (·.1)) ?_ (lookup_none hy)
  have h3 := h1
  unfold He.dicW at h3
  rw [k.at_] at h3
  dsimp only at h3
  split at h3
  · exact Option.some.inj h3
  · cases h3
end
/-! ### the Hook -/
/-- what is told of a row: its defs, its tables, its exception classes, one more Bool -/
def asM (g : Addr → Option Obj) : Nat → List Addr
  | 0 => [mainGlobals, cStatics]
  | n + 1 => He.growD g (asM g n)
abbrev AlM : Type := He.AlT × Bool × List IniW
def obsM (fa : List He.Fa) (fn : List He.DefD) (ts : List He.Tab) (ini : List IniD) (ex : PySem.W.Frag → Bool) (K : PySem.W.Frag) : AlM := (He.obsT fa fn ts K, ex K, ini.map fun d => iniX K d)
def valM (fn : List He.DefD) (ts : List He.Tab) (ini : List IniD) (w : World) : AlM := (He.valT fn ts w, true, ini.map IniD.valX)
def obsMG (n : Nat) (fa : List He.Fa) (fn : List He.DefD) (ts : List He.Tab) (ini : List IniD) (ex : PySem.W.Frag → Bool) (g : Addr → Option Obj) : AlM := obsM fa fn ts ini ex (He.frG g (asM g n))
def SaysM (fa : List He.Fa) (fn : List He.DefD) (ts : List He.Tab) (ini : List IniD) (ex : PySem.W.Frag → Bool) (w : World) (K : PySem.W.Frag) : Prop := obsM fa fn ts ini ex K = valM fn ts ini w
def hookM (n : Nat) (fa : List He.Fa) (fn : List He.DefD) (ts : List He.Tab) (ini : List IniD) (ex : PySem.W.Frag → Bool) : PySem.W.Hook where
  α := AlM
  obs := fun s => obsMG n fa fn ts ini ex s.heap.get?
  val := fun w => valM fn ts ini w
  says := fun w h => ∃ K : PySem.W.Frag, K.In h ∧ SaysM fa fn ts ini ex w K
  of := fun _ _ e => ⟨_, He.frG_in, e⟩
  keeps := fun _ _ _ ⟨K, hK, c⟩ k => ⟨K, PySem.W.Frag.In.keeps hK k, c⟩
theorem obsMG_eq {n : Nat} {fa : List He.Fa} {fn : List He.DefD} {ts : List He.Tab} {ini : List IniD} {ex : PySem.W.Frag → Bool} {g : Addr → Option Obj} {s : Shared} (h : ∀ a, g a = s.heap.get? a) : obsMG n fa fn ts ini ex g = (hookM n fa fn ts ini ex).obs s := by
  have e : g = s.heap.get? := funext h
  rw [e] <;> rfl
section
variable {fa : List He.Fa} {fn : List He.DefD} {ts : List He.Tab} {ini : List IniD} {ex : PySem.W.Frag → Bool} {w : World} {K : PySem.W.Frag}
theorem SaysM.t (c : SaysM fa fn ts ini ex w K) : He.SaysT fa fn ts w K := congrArg (fun z : AlM => z.1) c
theorem SaysM.more (c : SaysM fa fn ts ini ex w K) : ex K = true := congrArg (fun z : AlM => z.2.1) c
theorem SaysM.inis (c : SaysM fa fn ts ini ex w K) (i : Nat) {d : IniD} (h : ini[i]? = some d := by rfl) : iniX K d = d.valX := by
  have e : ini.map (fun d => iniX K d) = ini.map IniD.valX := congrArg (fun z : AlM => z.2.2) c
  have e2 : (ini.map fun d => iniX K d)[i]? = (ini.map IniD.valX)[i]? := by rw [e]
  rw [List.getElem?_map, List.getElem?_map, h] at e2
  exact Option.some.inj e2
theorem SaysM.tabW (c : SaysM fa fn ts ini ex w K) (i : Nat) {t : He.Tab} (h : ts[i]? = some t := by rfl) : He.dicW K (t.1 K) = some (He.keysIn w.params t.2) := by
  have e : ts.map (fun t => He.dicW K (t.1 K)) = ts.map fun t => some (He.keysIn w.params t.2) := congrArg (fun z : He.AlT => z.2) c.t
  have e2 : (ts.map fun t => He.dicW K (t.1 K))[i]? = (ts.map fun t => some (He.keysIn w.params t.2))[i]? := by rw [e]
  rw [List.getElem?_map, List.getElem?_map, h] at e2
  exact Option.some.inj e2
theorem SaysM.fact (c : SaysM fa fn ts ini ex w K) (i : Nat) {f : He.Fa} (h : fa[i]? = some f := by rfl) : f.ok K = true := c.t.d.fact i h
theorem SaysM.def_ (c : SaysM fa fn ts ini ex w K) (i : Nat) {d : He.DefD} (h : fn[i]? = some d := by rfl) : ∃ fd, FunD K d.name d.qual d.params d.body d.scope (d.dvs K) (d.kws K) (He.fAd K d.at_) fd := c.t.d.def_ i h
end
/-! ### the law's call -/
theorem law_sp {K : PySem.W.Frag} {mg : Str → Option Value} {w : World} {fm : Fm} (hl : ∀ ns : List Int, ns.length ≤ 63 → ∃ G, fm [.scr (ns.map .int)] [] = .ok (.bl true) G) (H : Hp) (a : Addr) (ns : List Int) (hn : ns.length ≤ 63) (hS : SqL K H a (ns.map V.int)) :
    SpF ⟨K, mg, w, none⟩ fm 1 [.ref a] H (fun v _ => v = .bl true) fun _ _ _ => False := by
  obtain ⟨G, e⟩ := hl ns hn
  refine ⟨H, [], [], [.scr (ns.map .int)], ⟨fun _ _ z => z, rfl, List.nodup_nil, fun n ob a h => by simp at h⟩, .cons (.scr hS (reps_ints ns)) .nil, rfl, ?_⟩
  rw [e]
  intro F' ro' H' v _ _ r
  cases r
  rfl
end Mi

set_option maxHeartbeats 4000000
/-! MiB: a row's data, and all that is told of it. -/
namespace Mi
open PySem PySem.Spec PyProof.Rows L2 NdefX

/-- gl the module's objects, fr the built-in names, fn the defs, cs the constant objects, ini the exception classes with an __init__, xs all exception classes, kit which class is under which, noat which class lacks which name -/
structure RowD where
  gl : List Str := []
  fr : List Str := []
  fn : List He.DefD := []
  cs : List (Str × Mi.D) := []
  nums : List (Str × Int) := []
  txts : List (Str × Str) := []
  ini : List IniD := []
  xs : List Str := []
  file : Str := Str.empty
  kit : List (Str × Str × Bool) := []
  noat : List (Str × Str) := []
  fas : List He.Fa := []
  prs : List IniD := []
  isi : List (Str × Str × Bool) := []
  sq : List Str := []
def csB (K : PySem.W.Frag) (p : Str × Mi.D) : Bool := match p.2 with
  | .dck kvs => tabB K p.1 kvs
  | d => repB K d (.ref (He.ga K p.1))
def csT : List (Str × Mi.D) → List He.Tab
  | [] => []
  | (x, .dck kvs) :: r => (fun K => He.ga K x, kvs.map (·.1)) :: csT r
  | _ :: r => csT r
def kitB2 (K : PySem.W.Frag) (p : Str × Str × Bool) : Bool := decide (PySem.W.exmOne K (.ref (He.ga K p.1)) (.ref (He.ga K p.2.1)) = some p.2.2) && decide (PySem.W.kitOne K (.ref (He.ga K p.1)) (.ref (He.ga K p.2.1)) = some p.2.2)
/-- isinstance of an own class -/
def isiB (K : PySem.W.Frag) (p : Str × Str × Bool) : Bool := (He.Fa.cls p.1).ok K && (decide (PySem.W.findIn K (.ref (He.ga K p.1)) "__class__" = some (some (.builtin "object.__class__"))) && (decide (PySem.W.specialIn K (.builtin "object.__class__") "__get__" = some (some (.builtin "getset_descriptor.__get__"))) &&
  (decide (PySem.W.takesIn K (.builtin "object.__class__") = some true) && (decide (PySem.W.mroIn K (He.ga K p.1) (.type "object") = some true) && decide (PySem.W.kitOne K (.ref (He.ga K p.1)) (.ref (He.ga K p.2.1)) = some p.2.2)))))
def RowD.ex (D : RowD) (K : PySem.W.Frag) : Bool := D.cs.all (csB K) && (D.ini.all (fun d => d.prop.isNone && iniB K D.file d) && (D.xs.all (fun x => xiB K (He.ga K x) && decide (PySem.W.kitOne K (.ref (He.ga K x)) (.type "ValueError") = some true)) && (D.kit.all (kitB2 K) &&
  (D.noat.all (fun p => decide (PySem.W.findIn K (.ref (He.ga K p.1)) p.2 = some none)) && (decide (PySem.W.nsIn K cStatics "thirdparty.any" = some none) && (D.prs.all (prpB K) && (D.isi.all (isiB K) && D.sq.all (fun x => PySem.W.noSeq K (He.ga K x) && PySem.W.selfFirst K (He.ga K x)))))))))
def RowD.fa (D : RowD) : List He.Fa := D.gl.map .glo ++ (D.fr.map .free ++ (D.nums.map (fun p => .int p.1 p.2) ++ (D.txts.map (fun p => .str p.1 p.2) ++ D.fas)))
def RowD.hook (D : RowD) (n : Nat) : PySem.W.Hook := hookM n D.fa D.fn (csT D.cs) (D.ini ++ D.prs) D.ex
def RowD.ob (D : RowD) (n : Nat) (s : PySem.W.SharedT) : AlM := obsMG n D.fa D.fn (csT D.cs) (D.ini ++ D.prs) D.ex (HandSHeadRun.getT s)
theorem RowD.ob_eq (D : RowD) (n : Nat) (s : PySem.W.SharedT) : D.ob n s = (D.hook n).obs s.abs := obsMG_eq (HandSHeadRun.getT_eq s)
/-- what is told -/
structure Rw (D : RowD) (w : World) (K : PySem.W.Frag) (mg : Str → Option Value) : Prop where
  gM : ∀ x ∈ D.gl, mg x = some (.ref (He.ga K x))
  nM : ∀ x ∈ D.fr, mg x = none
  dM : ∀ d ∈ D.fn, ∃ fd, FunD K d.name d.qual d.params d.body d.scope (d.dvs K) (d.kws K) (He.fAd K d.at_) fd
  cM : ∀ p ∈ D.cs, ∀ F ro, Rep ⟨K, mg, w, none⟩ F ro p.2 (.ref (He.ga K p.1))
  iM : ∀ p ∈ D.nums, ∃ t, mg p.1 = some (.int p.2 t)
  sM : ∀ p ∈ D.txts, ∃ t, mg p.1 = some (.str p.2 t)
  xW : ∀ d ∈ D.ini, iniW K d.cls = d.val ∧ iniB K D.file d = true
  xM : ∀ x ∈ D.xs, XiC K (He.ga K x) ∧ XfC K (He.ga K x) ∧ PySem.W.kitOne K (.ref (He.ga K x)) (.type "ValueError") = some true
  kM : ∀ p ∈ D.kit, PySem.W.exmOne K (.ref (He.ga K p.1)) (.ref (He.ga K p.2.1)) = some p.2.2 ∧ PySem.W.kitOne K (.ref (He.ga K p.1)) (.ref (He.ga K p.2.1)) = some p.2.2
  noM : ∀ p ∈ D.noat, PySem.W.findIn K (.ref (He.ga K p.1)) p.2 = some none
  any : PySem.W.nsIn K cStatics "thirdparty.any" = some none
  fM : ∀ f ∈ D.fas, f.ok K = true
  pM : ∀ d ∈ D.prs, iniX K d = d.valX ∧ prpB K d = true
  isM : ∀ p ∈ D.isi, isiB K p = true
  sqM : ∀ x ∈ D.sq, PySem.W.noSeq K (He.ga K x) = true ∧ PySem.W.selfFirst K (He.ga K x) = true
section
variable {D : RowD} {w : World} {K : PySem.W.Frag} {mg : Str → Option Value}
theorem csT_mem : ∀ {cs : List (Str × Mi.D)} {x : Str} {kvs : List (Str × Mi.D)}, (x, Mi.D.dck kvs) ∈ cs → ((fun K => He.ga K x, kvs.map (·.1)) : He.Tab) ∈ csT cs
  | (y, d) :: r, x, kvs, h => by
    rcases List.mem_cons.mp h with e | h
    · cases e
      exact List.mem_cons_self ..
    · have := csT_mem h
      cases d <;> simp only [csT] <;> first | exact this | exact List.mem_cons_of_mem _ this
theorem Rw.of {n : Nat} {h : Heap} (X : K.In h) (G : h.Ns mainGlobals mg) (c : SaysM D.fa D.fn (csT D.cs) (D.ini ++ D.prs) D.ex w K) : Rw D w K mg := by
  have fact : ∀ f ∈ D.fa, f.ok K = true := fun f hf => by
    obtain ⟨i, hi, e⟩ := List.mem_iff_getElem.mp hf
    exact c.fact i (by rw [List.getElem?_eq_getElem hi, e])
  have m := c.more
  unfold RowD.ex at m
  obtain ⟨m1, m⟩ := He.ba m
  obtain ⟨m2, m⟩ := He.ba m
  obtain ⟨m3, m⟩ := He.ba m
  obtain ⟨m4, m⟩ := He.ba m
  obtain ⟨m5, m⟩ := He.ba m
  obtain ⟨m6, m⟩ := He.ba m
  obtain ⟨m7, m⟩ := He.ba m
  obtain ⟨m8, m9⟩ := He.ba m
  refine ⟨fun x hx => He.glo_ok X G (fact _ (List.mem_append_left _ (List.mem_map_of_mem hx))), fun x hx => He.free_ok X G (fact _ (List.mem_append_right _ (List.mem_append_left _ (List.mem_map_of_mem hx)))),
    fun d hd => ?_, fun p hp => ?_, fun p hp => He.int_ok X G (fact (.int p.1 p.2) (List.mem_append_right _ (List.mem_append_right _ (List.mem_append_left _ (List.mem_map_of_mem (f := fun p : Str × Int => He.Fa.int p.1 p.2) hp))))),
    fun p hp => He.str_ok X G (fact (.str p.1 p.2) (List.mem_append_right _ (List.mem_append_right _ (List.mem_append_right _ (List.mem_append_left _ (List.mem_map_of_mem (f := fun p : Str × Str => He.Fa.str p.1 p.2) hp)))))),
    fun d hd => ⟨?_, (He.ba (List.all_eq_true.mp m2 d hd)).2⟩, fun x hx => ?_, fun p hp => ?_, fun p hp => of_decide_eq_true (List.all_eq_true.mp m5 p hp), of_decide_eq_true m6, fun f hf => fact f (List.mem_append_right _ (List.mem_append_right _ (List.mem_append_right _ (List.mem_append_right _ hf)))), fun d hd => ⟨?_, List.all_eq_true.mp m7 d hd⟩, fun p hp => List.all_eq_true.mp m8 p hp, fun x hx => He.ba (List.all_eq_true.mp m9 x hx)⟩
  · obtain ⟨i, hi, e⟩ := List.mem_iff_getElem.mp hd
    exact c.def_ i (by rw [List.getElem?_eq_getElem hi, e])
  · have h1 := List.all_eq_true.mp m1 p hp
    obtain ⟨x, d⟩ := p
    have gen : repB K d (.ref (He.ga K x)) = true → ∀ F ro, Rep ⟨K, mg, w, none⟩ F ro d (.ref (He.ga K x)) := fun h F ro => by
      obtain ⟨v, rv, rr⟩ := repB_ok (mg := mg) (w := w) d _ h
      cases v with
      | ref a =>
        have e : Value.ref (He.ga K x) = Value.ref a := rv
        cases e
        exact rr F ro
      | int i => obtain ⟨_, z⟩ := (show ∃ t, Value.ref (He.ga K x) = Value.int i t from rv); cases z
      | str i => obtain ⟨_, z⟩ := (show ∃ t, Value.ref (He.ga K x) = Value.str i t from rv); cases z
      | non => exact absurd (show Value.ref (He.ga K x) = Value.none from rv) (by intro z; cases z)
      | bl b => exact absurd (show Value.ref (He.ga K x) = Value.bool b from rv) (by intro z; cases z)
      | ty n => exact absurd (show Value.ref (He.ga K x) = Value.type n from rv) (by intro z; cases z)
      | _ => cases d <;> cases rr F ro
    cases d with
    | dck kvs =>
      have ht := csT_mem (List.mem_iff_getElem.mpr (List.mem_iff_getElem.mp hp))
      obtain ⟨i, hi, e⟩ := List.mem_iff_getElem.mp ht
      have h2 := c.tabW i (by rw [List.getElem?_eq_getElem hi, e])
      exact dck_ok h2 h1
    | _ => exact gen h1
  · obtain ⟨i, hi, e⟩ := List.mem_iff_getElem.mp hd
    have q := c.inis i (d := d) (by rw [List.getElem?_append_left hi, List.getElem?_eq_getElem hi, e])
    have hn := Option.isNone_iff_eq_none.mp (He.ba (List.all_eq_true.mp m2 d hd)).1
    unfold iniX IniD.valX at q
    rw [hn] at q
    exact q
  · obtain ⟨h1, h2⟩ := He.ba (List.all_eq_true.mp m3 x hx)
    exact ⟨(xiB_ok h1).1, (xiB_ok h1).2, of_decide_eq_true h2⟩
  · obtain ⟨h1, h2⟩ := He.ba (List.all_eq_true.mp m4 p hp)
    exact ⟨of_decide_eq_true h1, of_decide_eq_true h2⟩
  · obtain ⟨i, hi, e⟩ := List.mem_iff_getElem.mp hd
    exact c.inis (D.ini.length + i) (d := d) (by rw [List.getElem?_append_right (Nat.le_add_right _ _), Nat.add_sub_cancel_left, List.getElem?_eq_getElem hi, e])
/-! by places -/
theorem Rw.g (R : Rw D w K mg) (i : Nat) {x : Str} (h : D.gl[i]? = some x := by rfl) : mg x = some (.ref (He.ga K x)) := R.gM x (List.mem_of_getElem? h)
theorem Rw.n (R : Rw D w K mg) (i : Nat) {x : Str} (h : D.fr[i]? = some x := by rfl) : mg x = none := R.nM x (List.mem_of_getElem? h)
theorem Rw.d (R : Rw D w K mg) (i : Nat) {d : He.DefD} (h : D.fn[i]? = some d := by rfl) : ∃ fd, FunD K d.name d.qual d.params d.body d.scope (d.dvs K) (d.kws K) (He.fAd K d.at_) fd := R.dM d (List.mem_of_getElem? h)
theorem Rw.c (R : Rw D w K mg) (i : Nat) {x : Str} {d : Mi.D} (h : D.cs[i]? = some (x, d) := by rfl) : ∀ F ro, Rep ⟨K, mg, w, none⟩ F ro d (.ref (He.ga K x)) := R.cM (x, d) (List.mem_of_getElem? h)
theorem Rw.i (R : Rw D w K mg) (i : Nat) {x : Str} {z : Int} (h : D.nums[i]? = some (x, z) := by rfl) : ∃ t, mg x = some (.int z t) := R.iM (x, z) (List.mem_of_getElem? h)
theorem Rw.s (R : Rw D w K mg) (i : Nat) {x z : Str} (h : D.txts[i]? = some (x, z) := by rfl) : ∃ t, mg x = some (.str z t) := R.sM (x, z) (List.mem_of_getElem? h)
theorem Rw.no (R : Rw D w K mg) (i : Nat) {x f : Str} (h : D.noat[i]? = some (x, f) := by rfl) : PySem.W.findIn K (.ref (He.ga K x)) f = some none := R.noM (x, f) (List.mem_of_getElem? h)
theorem Rw.sqA (R : Rw D w K mg) (i : Nat) {x : Str} (h : D.sq[i]? = some x := by rfl) : PySem.W.noSeq K (He.ga K x) = true := (R.sqM x (List.mem_of_getElem? h)).1
theorem Rw.sqB (R : Rw D w K mg) (i : Nat) {x : Str} (h : D.sq[i]? = some x := by rfl) : PySem.W.selfFirst K (He.ga K x) = true := (R.sqM x (List.mem_of_getElem? h)).2
theorem Rw.f (R : Rw D w K mg) (i : Nat) {f : He.Fa} (h : D.fas[i]? = some f := by rfl) : f.ok K = true := R.fM f (List.mem_of_getElem? h)
theorem lookup_memb {α : Type} {x : Str} {b : α} : ∀ {l : List (Str × α)}, l.lookup x = some b → (x, b) ∈ l
  | (y, c) :: r, h => by
    simp only [List.lookup_cons] at h
    split at h
    · rename_i e
      cases h
      rw [eq_of_beq e]
      exact List.mem_cons_self ..
    · exact List.mem_cons_of_mem _ (lookup_memb h)
/-- classes under y -/
theorem Rw.exm (R : Rw D w K mg) {y : Str} {sb : List (Str × Bool)} (h : sb.all (fun p => D.kit.contains (p.1, y, p.2) && D.gl.contains p.1) = true) : ∀ x b, sb.lookup x = some b → ∀ C, mg x = some (.ref C) → PySem.W.exmOne K (.ref C) (.ref (He.ga K y)) = some b := fun x b e C hC => by
  obtain ⟨h1, h2⟩ := He.ba (List.all_eq_true.mp h _ (lookup_memb e))
  have e1 := R.gM x (by simpa using h2)
  rw [hC] at e1
  cases e1
  exact (R.kM (x, y, b) (by simpa using h1)).1
theorem Rw.kit (R : Rw D w K mg) {y : Str} {tb : List (Str × Bool)} (h : tb.all (fun p => D.kit.contains (p.1, y, p.2) && (D.gl.contains p.1 && D.xs.contains p.1)) = true) : ∀ x b, tb.lookup x = some b → ∀ C, mg x = some (.ref C) → XiC K C ∧ PySem.W.kitOne K (.ref C) (.ref (He.ga K y)) = some b := fun x b e C hC => by
  obtain ⟨h1, h2⟩ := He.ba (List.all_eq_true.mp h _ (lookup_memb e))
  obtain ⟨h2, h3⟩ := He.ba h2
  have e1 := R.gM x (by simpa using h2)
  rw [hC] at e1
  cases e1
  exact ⟨(R.xM x (by simpa using h3)).1, (R.kM (x, y, b) (by simpa using h1)).2⟩
theorem Rw.kitV (R : Rw D w K mg) {tb : List (Str × Bool)} (h : tb.all (fun p => p.2 && (D.gl.contains p.1 && D.xs.contains p.1)) = true) : ∀ x b, tb.lookup x = some b → ∀ C, mg x = some (.ref C) → XiC K C ∧ PySem.W.kitOne K (.ref C) (.type "ValueError") = some b := fun x b e C hC => by
  obtain ⟨h1, h2⟩ := He.ba (List.all_eq_true.mp h _ (lookup_memb e))
  obtain ⟨h2, h3⟩ := He.ba h2
  have e1 := R.gM x (by simpa using h2)
  rw [hC] at e1
  cases e1
  have hb : b = true := h1
  subst hb
  exact ⟨(R.xM x (by simpa using h3)).1, (R.xM x (by simpa using h3)).2.2⟩
theorem Rw.xf (R : Rw D w K mg) {f : Str} {cs : List Str} (h : cs.all (fun x => D.noat.contains (x, f) && (D.gl.contains x && D.xs.contains x)) = true) : ∀ x, cs.contains x = true → ∀ C, mg x = some (.ref C) → XfC K C ∧ PySem.W.findIn K (.ref C) f = some none := fun x hx C hC => by
  obtain ⟨h1, h2⟩ := He.ba (List.all_eq_true.mp h x (by simpa using hx))
  obtain ⟨h2, h3⟩ := He.ba h2
  have e1 := R.gM x (by simpa using h2)
  rw [hC] at e1
  cases e1
  exact ⟨(R.xM x (by simpa using h3)).2.1, R.noM (x, f) (by simpa using h1)⟩
end
end Mi

set_option maxHeartbeats 4000000
/-! MiC: suites by their own context; texts replaced. -/
namespace Mi
open PySem PySem.Spec PyProof.Rows L2

section
variable {X : Cx} {W : WX} {pos pos' p p2 np : Pos} {i : Nat} {a : Addr} {oe : Obj} {pn : List (Addr × Obj)} {n : Str} {cs : List Str} {tb sb : List (Str × Bool)} {body suite : List Stmt} {b₀ : Stmt} {mb ms : Sx} {x : Str} {c : Value}
theorem ct_suite (h : X.N.idxOf ("e" : Str) = i) : ct (X.suite a ((a, oe) :: pn)) = ctE X i a oe := by
  subst h
  rfl
theorem em_xF (hf : ∃ vs, oe.data = .fields vs) (hT : ∀ c, cs.contains c = true → ∀ C, X.mg c = some (.ref C) → XfC X.K C ∧ PySem.W.findIn X.K (.ref C) n = some none) (hx : X.N.idxOf ("e" : Str) = i) (hi : X.N[i]? = some "e") (hv : Vis X.env.scope ("e" : Str))
    (hb : attributeBase (.Name "e" p) n X.env (eval (.Name "e" p) X.env) = eval (.Name "e" p) X.env := by rfl) :
    PEm (X.suite a ((a, oe) :: pn)) W (.Attribute (.Name "e" p) n pos) (mXf cs i n) := by
  unfold PEm
  rw [ct_suite hx]
  exact em_xf hf hT hi hv hb
theorem em_xI {cv : Value} {y : V} {e2 : Expr} (hf : ∃ vs, oe.data = .fields vs) (hT : ∀ c b, tb.lookup c = some b → ∀ C, X.mg c = some (.ref C) → XiC X.K C ∧ PySem.W.kitOne X.K (.ref C) cv = some b) (hx : X.N.idxOf ("e" : Str) = i) (hi : X.N[i]? = some "e") (hv : Vis X.env.scope ("e" : Str))
    (ht : PE (X.suite a ((a, oe) :: pn)) e2 (tC y)) (hcv : ∀ u, L2.RelV y u → u = cv) (hm : X.mg "isinstance" = none) (hg : Gl X "isinstance" := by rfl)
    (h1 : starEach [.Name "e" p2, e2] X.env = (false, eval (.Name "e" p2) X.env) :: starEach [e2] X.env := by rfl) (h2 : starEach [e2] X.env = (false, eval e2 X.env) :: starEach [] X.env := by rfl) (hpl : (backTo pos (starEach [e2] X.env)).any (·.1) = false := by rfl) :
    PEm (X.suite a ((a, oe) :: pn)) W (.Call (.Name "isinstance" p) [.Name "e" p2, e2] [] pos) (mXi tb i) := by
  unfold PEm
  rw [ct_suite hx]
  exact em_xi hf hT hi hv ht hcv hm hg h1 h2 hpl
theorem sm_tryA (hc : X.calm = true) (hs : X.stack = X.env :: X.outer) (hf : X.env.frame = some X.env.locals) (hN : X.N.Nodup) (hx : X.N.idxOf ("e" : Str) = i) (hi : X.N[i]? = some "e") (hln : X.env.kindOf "e" = some .local) (hn : Names X x c) (tk : Takes X W)
    (hsb : ∀ y b, sb.lookup y = some b → ∀ C, X.mg y = some (.ref C) → PySem.W.exmOne X.K (.ref C) c = some b)
    (hb : ∀ (W' : WX) (pn : List (Addr × Obj)) (xe : Value → Shared → Prop), Takes (X.tr pn xe) W' → PassesOwn (model X.prog X.w) X.A X.env xe → PSsm (X.tr pn xe) W' body mb)
    (hsu : ∀ (a : Addr) (oe : Obj) (pn : List (Addr × Obj)), (∃ vs, oe.data = .fields vs) → PSsm (X.suite a ((a, oe) :: pn)) WF (b₀ :: suite) ms) :
    PSm X W (.Try body [.ExceptHandler (some (.Name x np)) (some "e") (b₀ :: suite) pos'] [] [] pos) (mTryAs sb i mb ms) :=
  sm_try_as hc hs hf hN hi hln hn tk hsb (fun W' pn xe h1 h2 => by
    have := hb W' pn xe h1 h2
    unfold PSsm at this
    have e : ct (X.tr pn xe) = ct X := by
      show (⟨X.K, X.mg, X.w, exA (X.tr pn xe)⟩ : Ct) = ⟨X.K, X.mg, X.w, exA X⟩
      rw [exA_calm hc, exA_calm (X := X.tr pn xe) hc]
    rw [e] at this
    exact this) (fun a oe pn h => by
    have := hsu a oe pn h
    unfold PSsm at this
    rw [ct_suite hx] at this
    exact this)
end

/-! ### one token is out: texts replaced -/
section
variable {X : Cx} {W : WX} {pos pos' : Pos}
variable (X W) in
abbrev PETm (e : Expr) (m : Ex) : Prop := PET X e (T (ct X) W m)
variable (X W) in
abbrev PATm (es : List Expr) (m : Ax) : Prop := PAT X es (Mi.TA (ct X) W m)
variable (X W) in
abbrev PSTm (st : Stmt) (m : Sx) : Prop := PST X st (TSm (ct X) W m)
variable (X W) in
abbrev PSsTm (st : List Stmt) (m : Sx) : Prop := PSsT X st (TSm (ct X) W m)
theorem PET.imp {e : Expr} {t t' : TE} (h : PET X e t) (k : ∀ σ H Q, t' σ H Q → t σ H Q) : PET X e t' := fun pins s σ H Q h0 I q => h pins s σ H Q h0 I (k σ H Q q)
theorem PAT.imp {e : List Expr} {t t' : L2.TA} (h : PAT X e t) (k : ∀ σ H Q, t' σ H Q → t σ H Q) : PAT X e t' := fun pos pins s σ H Q h0 I q => h pos pins s σ H Q h0 I (k σ H Q q)
theorem PST.imp {st : Stmt} {t t' : TS} (h : PST X st t) (k : ∀ D σ H, t' D σ H → t D σ H) : PST X st t' := fun pins s σ H D h0 I q => h pins s σ H D h0 I (k D σ H q)
theorem PSsT.imp {st : List Stmt} {t t' : TS} (h : PSsT X st t) (k : ∀ D σ H, t' D σ H → t D σ H) : PSsT X st t' := fun pins s σ H D h0 I q => h pins s σ H D h0 I (k D σ H q)
theorem et_of {e : Expr} {m : Ex} (h : PEm X W e m) : PETm X W e m := fun pins s σ H Q _ I q => h.run pins s σ H Q I q
theorem st_of {st : Stmt} {m : Sx} (h : PSm X W st m) : PSTm X W st m := PST.of h
theorem sst_of {st : List Stmt} {m : Sx} (h : PSsm X W st m) : PSsTm X W st m := PSsT.of h
theorem seq_imp {m1 m2' : Sx} (D : Ends) (σ : L2.St) (H : Hp) (h : TSm (ct X) W (mSeq m1 m2') D σ H) : tSeq (TSm (ct X) W m1) (TSm (ct X) W m2') D σ H := by
  obtain ⟨F, ro, G, env, ok, ev, h⟩ := h
  refine ⟨F, ro, G, env, ok, ev, ?_⟩
  unfold mSeq at h
  cases e1 : m1 env G with
  | nx e G1 => rw [e1] at h; exact fun F' ro' H' σ' n ok' ev' => ⟨F', ro', G1, e, ok', ev', PostS.nx n h⟩
  | rt d G1 => rw [e1] at h; exact h
  | bk e G1 => rw [e1] at h; exact h
  | ct e G1 => rw [e1] at h; exact h
  | exc c fs e G1 => rw [e1] at h; exact h
  | bad => rw [e1] at h; exact h
theorem sst_cons {st : Stmt} {rest : List Stmt} {m1 m2' : Sx} (h1 : PSTm X W st m1) (h2 : PSsTm X W rest m2') : PSsTm X W (st :: rest) (mSeq m1 m2') := PSsT.imp (psst_cons h1 h2) seq_imp
/-- x = "..", behind it a token is out -/
theorem ssm_str {i j : Nat} {x c : Str} {cpos : Pos} {rest : List Stmt} {m : Sx} (hN : X.N.Nodup) (hi : X.N[i]? = some x) (hx : Loc X.env.scope x) (h2 : PSsTm X W rest m)
    (hs : swapsWith (.Constant (.str c) j cpos) (some (.Name x pos')) pos.line X.env = pure false := by rfl) (hf : X.fn x = true ∨ X.env.scope.names.lookup x = some .local := by first | exact .inl rfl | exact .inr rfl | assumption) :
    PSsm X W (.Assign [.Name x pos'] (.Constant (.str c) j cpos) pos :: rest) (mSeq (mSet i (mC (.str c))) m) :=
  PSs.imp (pss_str hN hi hx h2 hs hf) fun D σ H h => by
    obtain ⟨F, ro, G, env, ok, ev, h⟩ := h
    exact ⟨F, ro, G, env.set i (some (.str c)), ok, ev.set (.str c) i, h⟩
theorem stm_set {i : Nat} {x : Str} {e : Expr} {me : Ex} (hN : X.N.Nodup) (hi : X.N[i]? = some x) (hx : Loc X.env.scope x) (he : PETm X W e me) (hs : swapsWith e (some (.Name x pos')) pos.line X.env = pure false := by rfl)
    (hf : X.fn x = true ∨ X.env.scope.names.lookup x = some .local := by first | exact .inl rfl | exact .inr rfl | assumption) : PSTm X W (.Assign [.Name x pos'] e pos) (mSet i me) := by
  refine PST.imp (t := tAsg (T (ct X) W me) (gName i)) (fun pins s σ H D h0 I h => ?_) fun D σ H ⟨F, ro, G, env, ok, ev, h⟩ =>
    ⟨F, ro, G, env, ok, ev, (PostBS (R := RD (ct X)) ev h).imp fun v H1 ⟨F1, ro1, d1, G1, n1, ok1, r1, h1⟩ => h1.done ok1 ((ev.nx n1).set r1 i)⟩
  refine wpAny_Assign_Name (thn (he pins s σ H _ h0 I h) fun u s1 ⟨v, H1, I1, r1, q⟩ => ?_) hs
  exact store_ok I1 hN hi hx r1 (fun s2 I2 => ⟨_, _, I2, q⟩) hf
theorem atm_nil : PATm X W [] mNil := PAT.imp pat_nil fun σ H Q ⟨F, ro, G, env, ok, ev, h⟩ => Post.ok (v := []) ok h .nil
theorem atm_cons {e : Expr} {es : List Expr} {me : Ex} {mr : Ax} (ha : PETm X W e me) (hr : PATm X W es mr) (hs : starEach (e :: es) X.env = (false, eval e X.env) :: starEach es X.env := by rfl) : PATm X W (e :: es) (mCons me mr) :=
  PAT.imp (pat_cons ha hr hs) fun σ H Q ⟨F, ro, G, env, ok, ev, h⟩ => by
    refine ⟨F, ro, G, env, ok, ev, (PostB (R := RD (ct X)) h).imp fun v H1 ⟨F1, ro1, d1, G1, n1, ok1, r1, h1⟩ => ?_⟩
    refine ⟨F1, ro1, G1, env, ok1, ev.nx n1, (PostB (R := RA (ct X)) h1).imp fun v2 H2 ⟨F2, ro2, d2, G2, n2, ok2, r2, h2⟩ => ?_⟩
    exact h2.ok ok2 (.cons (r1.nx n2) r2)
theorem etm_lstF {es : List Expr} {mr : Ax} (h : PATm X W es mr) : PETm X W (.List es pos) (mLstF mr) := PET.imp (pet_lst h) fun σ H Q ⟨F, ro, G, env, ok, ev, h⟩ => by
  refine ⟨F, ro, G, env, ok, ev, (PostB (R := RA (ct X)) h).imp fun v H1 ⟨F1, ro1, d1, G1, n1, ok1, r1, h1⟩ => ?_⟩
  split at h1
  · exact ⟨by rw [← Reps.length r1]; assumption, fun p hp => post_newF ok1 h1 hp (lst_new ok1 hp r1)⟩
  · exact h1.elim
/-- o.replace("..", "..") -/
def mRepl (y z : Str) (o : Ex) : Ex := fun env G => (o env G).bind fun d G1 => match d with
  | .str x => if x.length + (x.length + 1) * z.length ≤ 16777216 then .ok (.str (Txt.replace x y z)) G1 else .bad
  | _ => .bad
theorem etm_repl {o : Expr} {mo : Ex} {y z : Str} {j1 j2 : Nat} {p1 p2 apos : Pos} (ho : PEm X W o mo) (hyz : (y == z) = false) (hbase : attributeBase o "replace" X.env (eval o X.env) = eval o X.env := by rfl)
    (hst : starEach [.Constant (.str y) j1 p1, .Constant (.str z) j2 p2] X.env = [(false, eval (.Constant (.str y) j1 p1) X.env), (false, eval (.Constant (.str z) j2 p2) X.env)] := by rfl) (hline : (apos.endLine == pos.line) = true := by rfl) :
    PETm X W (.Call (.Attribute o "replace" apos) [.Constant (.str y) j1 p1, .Constant (.str z) j2 p2] [] pos) (mRepl y z mo) := by
  intro pins s σ H Q h0 I h
  obtain ⟨F, ro, G, env, ok, ev, h⟩ := h
  refine PySem.Call_method2 hbase hst hline (wpAny_mono (PySem.wpAny_toks (ho.run pins s σ H _ I ⟨F, ro, G, env, ok, ev, (PostB (R := RD (ct X)) h)⟩)) (fun v s1 q => ?_) fun _ _ z => z.2)
  obtain ⟨hk, vx, H1, I1, rx, F1, ro1, d1, G1, n1, ok1, r1, h1⟩ := q
  cases r1 with
  | str x =>
    simp only at h1
    split at h1
    · rename_i hb
      obtain ⟨tx, rfl⟩ := (show ∃ t, v = Value.str x t from rx)
      refine ⟨"str", _, PySem.F.plainAttrs_str, PySem.F.slot_str_replace, PySem.F.type_str_replace, typeIs_str _ _ _, (fun _ e => nomatch e), Calls.callWith_builtin rfl (Calls.evalArgs_plain (Calls.spliced_cons ?_))⟩
      refine Calls.Constant_str (pos := p1) (k := j1) ?_
      refine Calls.spliced_cons ?_
      refine Calls.Constant_str (pos := p2) (k := j2) ?_
      refine Calls.spliced_nil ?_
      have h1' : 1 ≤ s1.toks := Nat.le_trans h0 hk
      exact PySem.SC.replace (show s1.toks ≠ 0 by omega) (show s1.toks + 1 ≠ 0 by omega) (show s1.toks ≠ s1.toks + 1 by omega) hyz hb fun t' k => ⟨.str _, H1, I1.tok _, ⟨_, rfl⟩, h1.ok ok1 (.str _)⟩
    · exact h1.elim
  | _ => exact h1.elim
end
end Mi

set_option maxHeartbeats 4000000
/-! MiD: small words for the printed derivations. -/
namespace Mi
open PySem PySem.Spec PyProof.Rows L2

section
variable {X : Cx} {W : WX} {pos : Pos} {x : Str}
theorem em_gInt {z : Int} (h : ∃ t, X.mg x = some (.int z t)) (hg : Gl X x := by rfl) (hd : (x == ("__debug__" : Str)) = false := by decide) : PEm X W (.Name x pos) (mC (.int z)) := by
  obtain ⟨t, h⟩ := h
  exact em_gl (v := .int z) h ⟨t, rfl⟩ (fun _ _ => .int z) hg hd
theorem em_gStr {z : Str} (h : ∃ t, X.mg x = some (.str z t)) (hg : Gl X x := by rfl) (hd : (x == ("__debug__" : Str)) = false := by decide) : PEm X W (.Name x pos) (mC (.str z)) := by
  obtain ⟨t, h⟩ := h
  exact em_gl (v := .str z) h ⟨t, rfl⟩ (fun _ _ => .str z) hg hd
theorem pe_bty {T' : String} (hm : X.mg x = none) (hv : bootBuiltins x = some (.type T')) (hg : Gl X x := by rfl) (hn : x ≠ "__name__" := by decide) (hd : (x == ("__debug__" : Str)) = false := by decide) : PE X (.Name x pos) (tC (.ty T')) :=
  ⟨fun pins s σ H Q I h => ld_blt I hg hm hv ⟨.ty T', H, I, rfl, h⟩ hn hd⟩
theorem tk0 : Takes X WF := fun _ _ ⟨_, _, _, _, _, _, _, _, _, _, _, _, _, _, _, _, w⟩ => w.elim
end
theorem tk_of (P : Program) (w : World) (K : PySem.W.Frag) (mg : Str → Option Value) (base : Heap) (N : List Str) (qual : Str) (scope : Scope) (f : Addr) (cdv : Value) (A : Around) (outer : List Env) (s : Shared) (H : Hp) (E : XK) :
    Takes (cxOf (L2.CX P w) P w K mg base N qual scope f cdv A outer s H E) (WE1 E) := L2.takes_of rfl rfl rfl rfl
theorem hp_of (P : Program) (w : World) (K : PySem.W.Frag) (mg : Str → Option Value) (base : Heap) (N : List Str) (qual : Str) (scope : Scope) (f : Addr) (cdv : Value) (A : Around) (outer : List Env) (s : Shared) (H : Hp) (E : XK) :
    PassesOwn (model P w) (cxOf (L2.CX P w) P w K mg base N qual scope f cdv A outer s H E).A (cxOf (L2.CX P w) P w K mg base N qual scope f cdv A outer s H E).env (cxOf (L2.CX P w) P w K mg base N qual scope f cdv A outer s H E).xe := passes_of rfl
def clsDef (s : Stmt) (j : Nat) : Stmt := match s with
  | .ClassDef _ _ _ body _ _ _ _ _ _ _ => body.getD j (.Pass ⟨0, 0, 0, 0⟩)
  | _ => .Pass ⟨0, 0, 0, 0⟩
end Mi

set_option maxHeartbeats 4000000
/-! MiE: how mirrors run: rewriting rules. -/
namespace Mi
open PySem PySem.Spec PyProof.Rows L2

/-- what range takes -/
def rngR (d : Mi.D) (G : Gp) : Out (List Mi.D) := match d with
  | .int j => if -(2 ^ 62) ≤ j ∧ j < 2 ^ 62 then .ok (rngD 0 j.toNat) G else .bad
  | _ => .bad
def rngR2 (d e : Mi.D) (G : Gp) : Out (List Mi.D) := match d, e with
  | .int i, .int j => if -(2 ^ 62) ≤ i ∧ i < 2 ^ 62 ∧ -(2 ^ 62) ≤ j ∧ j < 2 ^ 62 then .ok (rngD i (j - i).toNat) G else .bad
  | _, _ => .bad
theorem small62 {z : Int} (h0 : 0 ≤ z) (h : z ≤ 1000000) : -(2 ^ 62) ≤ z ∧ z < 2 ^ 62 := by
  have e : (1000000 : Int) < 2 ^ 62 := by decide
  have e2 : (-(2 ^ 62) : Int) < 0 := by decide
  exact ⟨Int.le_trans (Int.le_of_lt e2) h0, Int.lt_of_le_of_lt h e⟩
@[simp] theorem rngR_int {z : Int} (G : Gp) (h0 : 0 ≤ z) (h : z ≤ 1000000) : rngR (.int z) G = .ok (rngD 0 z.toNat) G := if_pos (small62 h0 h)
@[simp] theorem rngR2_int {y z : Int} (G : Gp) (h0 : 0 ≤ y) (h : y ≤ 1000000) (h2 : 0 ≤ z) (h3 : z ≤ 1000000) : rngR2 (.int y) (.int z) G = .ok (rngD y (z - y).toNat) G := if_pos ⟨(small62 h0 h).1, (small62 h0 h).2, small62 h2 h3⟩
@[simp] theorem x_iRng1 (a : Ex) (env : Ev) (G : Gp) : iRng1m (mCons a mNil) env G = (a env G).bind rngR := by
  unfold iRng1m mCons mNil
  cases a env G with
  | ok d G1 => cases d <;> rfl
  | exc c fs g => rfl
  | bad => rfl
@[simp] theorem x_iRng2 (a b : Ex) (env : Ev) (G : Gp) : iRng2m (mCons a (mCons b mNil)) env G = (a env G).bind fun d G1 => (b env G1).bind fun e G2 => rngR2 d e G2 := by
  unfold iRng2m mCons mNil
  cases a env G with
  | ok d G1 =>
    simp only [Out.bind_ok]
    cases b env G1 with
    | ok e G2 => cases d <;> cases e <;> rfl
    | exc c fs g => cases d <;> rfl
    | bad => cases d <;> rfl
  | exc c fs g => rfl
  | bad => rfl
section
variable (a b : Ex) (t u : Tx) (s s2 : Sx) (x : Ax) (env : Ev) (G : Gp) (d : Mi.D)
@[simp] theorem x_mC : mC d env G = .ok d G := (rfl)
@[simp] theorem x_m2 (f) : m2 f a b env G = (a env G).bind fun x G1 => (b env G1).bind fun y G2 => f x y G2 := (rfl)
@[simp] theorem x_m1 (f) : m1 f a env G = (a env G).bind f := (rfl)
@[simp] theorem x_mB : mB a env G = (a env G).bind fun d G1 => match d with
  | .bl b => .ok b G1
  | _ => .bad := (rfl)
@[simp] theorem x_mAnd : mAnd t u env G = (t env G).bind fun c G1 => if c then u env G1 else .ok false G1 := (rfl)
@[simp] theorem x_mOr : mOr t u env G = (t env G).bind fun c G1 => if c then .ok true G1 else u env G1 := (rfl)
@[simp] theorem x_mNot : mNot t env G = (t env G).bind fun c G1 => .ok (!c) G1 := (rfl)
@[simp] theorem x_mIf : mIf t a b env G = (t env G).bind fun c G1 => if c then a env G1 else b env G1 := (rfl)
@[simp] theorem x_mTru : mTru a env G = (a env G).bind fun d G1 => match dTru G1 d with
  | some b => .ok b G1
  | none => .bad := (rfl)
@[simp] theorem x_mAndV : mAndV a b env G = (a env G).bind fun d G1 => match d with
  | .bl true => b env G1
  | .bl false => .ok (.bl false) G1
  | _ => .bad := (rfl)
@[simp] theorem x_mOrV : mOrV a b env G = (a env G).bind fun d G1 => match d with
  | .bl true => .ok (.bl true) G1
  | .bl false => b env G1
  | _ => .bad := (rfl)
@[simp] theorem x_mNotV : mNotV a env G = (a env G).bind fun d G1 => match d with
  | .bl b => .ok (.bl (!b)) G1
  | _ => .bad := (rfl)
@[simp] theorem x_mNil : mNil env G = .ok [] G := (rfl)
@[simp] theorem x_mCons : mCons a x env G = (a env G).bind fun d G1 => (x env G1).bind fun ds G2 => .ok (d :: ds) G2 := (rfl)
@[simp] theorem x_mTup : mTup x env G = (x env G).bind fun ds G1 => if ds.length ≤ sizeLine then .ok (.tup ds) G1 else .bad := (rfl)
@[simp] theorem x_mLstF : mLstF x env G = (x env G).bind fun ds G1 => if ds.length ≤ sizeLine then .ok (.lst ds) G1 else .bad := (rfl)
@[simp] theorem x_mLstC : mLstC x env G = (x env G).bind fun ds G1 => if ds.length ≤ sizeLine then .ok (.cel G1.length) (G1 ++ [.lst ds]) else .bad := (rfl)
@[simp] theorem x_mCB (f) : mCB f x env G = (x env G).bind f := (rfl)
@[simp] theorem x_mCall (f n dfl) : mCall f n dfl x env G = (x env G).bind fun ds G1 => callF f n (ds ++ dfl) G1 := (rfl)
@[simp] theorem x_mMt (T f) : mMt T f a x env G = (a env G).bind fun d G1 => if tyD G1 T d then (x env G1).bind fun ds G2 => f d ds G2 else .bad := (rfl)
@[simp] theorem x_mSl (f lo hi) : mSl f a lo hi env G = (a env G).bind fun d G1 => (lo env G1).bind fun l G2 => (hi env G2).bind fun u G3 => f d l u G3 := (rfl)
@[simp] theorem x_mNo : mNo env G = .ok none G := (rfl)
@[simp] theorem x_mPart : mPart a env G = (a env G).bind fun d G1 => match d with
  | .int i => .ok (some i) G1
  | _ => .bad := (rfl)
@[simp] theorem x_mYes : mYes env G = .ok true G := (rfl)
@[simp] theorem x_mRepl (y z) : mRepl y z a env G = (a env G).bind fun d G1 => match d with
  | .str x => if x.length + (x.length + 1) * z.length ≤ 16777216 then .ok (.str (Txt.replace x y z)) G1 else .bad
  | _ => .bad := (rfl)
@[simp] theorem x_mNop : mNop env G = .nx env G := (rfl)
@[simp] theorem x_mSeq : mSeq s s2 env G = match s env G with
  | .nx e G1 => s2 e G1
  | r => r := (rfl)
@[simp] theorem x_mSet (i) : mSet i a env G = (a env G).toS env fun d G1 => .nx (env.set i (some d)) G1 := (rfl)
@[simp] theorem x_mIfS : mIfS t s s2 env G = (t env G).toS env fun c G1 => if c then s env G1 else s2 env G1 := (rfl)
@[simp] theorem x_mRet : mRet a env G = (a env G).toS env fun d G1 => .rt d G1 := (rfl)
@[simp] theorem x_mRetN : mRetN env G = .rt .non G := (rfl)
@[simp] theorem x_mEx : mEx a env G = (a env G).toS env fun _ G1 => .nx env G1 := (rfl)
@[simp] theorem x_mBk : mBk env G = .bk env G := (rfl)
@[simp] theorem x_mCt : mCt env G = .ct env G := (rfl)
@[simp] theorem x_mRaise (c fl) : mRaise c fl x env G = (x env G).toS env fun ds G1 => if ds.length = fl.length ∧ ds.length ≤ 1000 then .exc c (fl.zip ds).reverse env G1 else .bad := (rfl)
@[simp] theorem x_mFor (it g) : mFor it g s env G = (it env G).toS env fun xs G1 => forL g s xs env G1 := (rfl)
@[simp] theorem x_iSeq : iSeq a env G = (a env G).bind fun d G1 => match fseq G1 d with
  | some xs => .ok xs G1
  | none => .bad := (rfl)
@[simp] theorem x_mLc (i vs it) : mLc i vs it t a env G = (it env G).bind fun xs G1 => (lcL i t a (wipeE env vs) xs [] G1).bind fun acc G2 => .ok (.lst acc) G2 := (rfl)
@[simp] theorem x_gN (i) : gN i d env G = .ok (env.set i (some d)) G := (rfl)
end
@[simp] theorem noCs_nil : noCs [] = true := (rfl)
@[simp] theorem noCs_cons (d : Mi.D) (r : List Mi.D) : noCs (d :: r) = (noC d && noCs r) := (rfl)
@[simp] theorem noC_int (i) : noC (.int i) = true := (rfl)
@[simp] theorem noC_str (i) : noC (.str i) = true := (rfl)
@[simp] theorem noC_bl (i) : noC (.bl i) = true := (rfl)
@[simp] theorem noC_non : noC .non = true := (rfl)
@[simp] theorem noC_scr (xs) : noC (.scr xs) = noCs xs := by simp [noC]
@[simp] theorem noC_lst (xs) : noC (.lst xs) = noCs xs := by simp [noC]
@[simp] theorem noC_tup (xs) : noC (.tup xs) = noCs xs := by simp [noC]
@[simp] theorem noCs_map {α : Type} (f : α → Mi.D) (h : ∀ x, noC (f x) = true) : ∀ l : List α, noCs (l.map f) = true
  | [] => rfl
  | x :: l => by rw [List.map_cons, noCs_cons, h, noCs_map f h l]; rfl
@[simp] theorem noCs_ints (l : List Int) : noCs (l.map .int) = true := noCs_map _ (fun _ => rfl) l
@[simp] theorem noCs_strs (l : List Str) : noCs (l.map .str) = true := noCs_map _ (fun _ => rfl) l
theorem noCs_append (a b : List Mi.D) : noCs (a ++ b) = (noCs a && noCs b) := by
  induction a with
  | nil => simp
  | cons x a ih => simp [ih, Bool.and_assoc]
theorem untie_noC (G : Gp) : ∀ d : Mi.D, noC d = true → untie G d = d
  | .cel n, h => by simp [noC] at h
  | .non, _ => rfl | .bl _, _ => rfl | .int _, _ => rfl | .str _, _ => rfl | .ty _, _ => rfl | .gl _, _ => rfl | .tup _, _ => rfl | .lst _, _ => rfl | .scr _, _ => rfl | .dct _, _ => rfl | .dck _, _ => rfl | .ins _ _, _ => rfl | .exc _ _, _ => rfl
theorem unties_noC (G : Gp) : ∀ ds : List Mi.D, noCs ds = true → ds.map (untie G) = ds
  | [], _ => rfl
  | d :: ds, h => by
    simp only [noCs_cons, Bool.and_eq_true] at h
    rw [List.map_cons, untie_noC G d h.1, unties_noC G ds h.2]
mutual
theorem sub1_noC (G : Gp) : ∀ d : Mi.D, noC d = true → sub1 G d = d
  | .cel n, h => by simp [noC] at h
  | .non, _ => by simp [sub1]
  | .bl _, _ => by simp [sub1]
  | .int _, _ => by simp [sub1]
  | .str _, _ => by simp [sub1]
  | .ty _, _ => by simp [sub1]
  | .gl _, _ => by simp [sub1]
  | .exc _ _, _ => by simp [sub1]
  | .tup xs, h => by simp only [noC] at h; simp [sub1, sub1s_noC G xs h]
  | .lst xs, h => by simp only [noC] at h; simp [sub1, sub1s_noC G xs h]
  | .scr xs, h => by simp only [noC] at h; simp [sub1, sub1s_noC G xs h]
  | .dct xs, h => by simp only [noC] at h; simp [sub1, sub1k_noC G xs h]
  | .dck xs, h => by simp only [noC] at h; simp [sub1, sub1f_noC G xs h]
  | .ins c xs, h => by simp only [noC] at h; simp [sub1, sub1f_noC G xs h]
theorem sub1s_noC (G : Gp) : ∀ d : List Mi.D, noCs d = true → sub1s G d = d
  | [], _ => by simp [sub1s]
  | d :: r, h => by
    simp only [noCs, Bool.and_eq_true] at h
    simp [sub1s, sub1_noC G d h.1, sub1s_noC G r h.2]
theorem sub1k_noC (G : Gp) : ∀ d : List (Key × Mi.D), noCk d = true → sub1k G d = d
  | [], _ => by simp [sub1k]
  | (k, d) :: r, h => by
    simp only [noCk, Bool.and_eq_true] at h
    simp [sub1k, sub1_noC G d h.1, sub1k_noC G r h.2]
theorem sub1f_noC (G : Gp) : ∀ d : List (Str × Mi.D), noCf d = true → sub1f G d = d
  | [], _ => by simp [sub1f]
  | (k, d) :: r, h => by
    simp only [noCf, Bool.and_eq_true] at h
    simp [sub1f, sub1_noC G d h.1, sub1f_noC G r h.2]
end
theorem tree_noC (G : Gp) (d : Mi.D) (h : noC d = true) : tree G d = some d := by
  unfold tree
  rw [sub1_noC G d h, sub1_noC G d h, sub1_noC G d h, if_pos h]
/-- a list's cell, its items without cells -/
theorem tree_cel (G : Gp) (n : Nat) (xs : List Mi.D) (h : G[n]? = some (.lst xs)) (hx : noCs xs = true) : tree G (.cel n) = some (.lst xs) := by
  have e : sub1 G (.cel n) = .lst xs := by simp [sub1, h, obD]
  unfold tree
  have hl : noC (.lst xs) = true := by simpa using hx
  rw [e, sub1_noC G _ hl, sub1_noC G _ hl, if_pos hl]
/-- a call -/
theorem callF_ok {f : Fm} {n : Nat} {ds : List Mi.D} {G G2 : Gp} {d t : Mi.D} (hn : ds.length = n) (hc : noCs ds = true) (e : f ds [] = .ok d G2) (ht : tree G2 d = some t) : callF f n ds G = .ok t G := by
  unfold callF
  rw [unties_noC G ds hc, if_pos ⟨hn, hc⟩, e]
  simp [ht]
theorem callF_okT {f : Fm} {n : Nat} {ds : List Mi.D} {G G2 : Gp} {d : Mi.D} (hn : ds.length = n) (hc : noCs ds = true) (e : f ds [] = .ok d G2) (hd : noC d = true) : callF f n ds G = .ok d G := callF_ok hn hc e (tree_noC G2 d hd)
theorem callF_exc {f : Fm} {n : Nat} {ds : List Mi.D} {G G2 : Gp} {c : Str} {fs : List (Str × Mi.D)} (hn : ds.length = n) (hc : noCs ds = true) (e : f ds [] = .exc c fs G2) (hf : noCf fs = true) : callF f n ds G = .exc c fs G := by
  unfold callF
  rw [unties_noC G ds hc, if_pos ⟨hn, hc⟩, e]
  simp [hf]
theorem fnM_ap (n : Nat) (b : Sx) (ds : List Mi.D) (G : Gp) : fnM n b ds G = match b (ds.map some ++ List.replicate (n - ds.length) none) G with
  | .nx _ G' => .ok .non G'
  | .rt d G' => .ok d G'
  | .exc c fs _ G' => .exc c fs G'
  | _ => .bad := (rfl)
theorem map_inj_nat {f : Char → Nat} (hf : ∀ x y, f x = f y → x = y) : ∀ {l m : List Char}, l.map f = m.map f → l = m
  | [], [], _ => rfl
  | [], _ :: _, h => by simp at h
  | _ :: _, [], h => by simp at h
  | a :: l, b :: m, h => by
    simp only [List.map_cons, List.cons.injEq] at h
    rw [hf _ _ h.1, map_inj_nat hf h.2]
theorem char_nat (x y : Char) (h : x.toNat = y.toNat) : x = y := by
  apply Char.ext
  exact UInt32.toNat_inj.mp h
@[simp] theorem str_inj {a b : String} : (Str.ofString a = Str.ofString b) = (a = b) := by
  apply propext
  constructor
  · intro h
    rw [Str.ofString_eq_toList, Str.ofString_eq_toList] at h
    have h1 : (a.toList.map Char.toNat).toArray = (b.toList.map Char.toNat).toArray := congrArg Str.cps h
    have h2 : a.toList.map Char.toNat = b.toList.map Char.toNat := by
      have := congrArg Array.toList h1
      simpa using this
    exact String.toList_inj.mp (map_inj_nat char_nat h2)
  · rintro rfl; rfl
@[simp] theorem str_beq (a b : String) : ((Str.ofString a : Str) == Str.ofString b) = decide (a = b) := by
  by_cases h : a = b
  · subst h; simp
  · have : Str.ofString a ≠ Str.ofString b := fun z => h (str_inj.mp z)
    simp [h]
@[simp] theorem size_le {k : Nat} (h : k ≤ 1000000) : k ≤ sizeLine := by rw [sizeLine_eq]; omega
@[simp] theorem size_lt {k : Nat} (h : k ≤ 1000000) : k < sizeLine := by rw [sizeLine_eq]; omega
theorem in_seq {G : Gp} {x y : Mi.D} {ys : List Mi.D} (hs : seqOf G y = some ys) (hx : flatD x = true) (hy : ys.all flatD = true) : dIn x y G = .ok (.bl (inD x ys)) G := by
  unfold dIn dInB
  rw [hs]
  simp only [hx, hy, and_self, if_true]
theorem nin_seq {G : Gp} {x y : Mi.D} {ys : List Mi.D} (hs : seqOf G y = some ys) (hx : flatD x = true) (hy : ys.all flatD = true) : dNin x y G = .ok (.bl (!inD x ys)) G := by
  unfold dNin dInB
  rw [hs]
  simp only [hx, hy, and_self, if_true]
/-! values -/
@[simp] theorem dAdd_int (i j : Int) (G : Gp) : dAdd (.int i) (.int j) G = .ok (.int (i + j)) G := (rfl)
@[simp] theorem dAdd_str (a b : Str) (G : Gp) (h : a.length + b.length ≤ sizeLine) : dAdd (.str a) (.str b) G = .ok (.str (a ++ b)) G := if_pos h
@[simp] theorem dAdd_lst (a b : List Mi.D) (G : Gp) (h : a.length + b.length ≤ sizeLine) : dAdd (.lst a) (.lst b) G = .ok (.lst (a ++ b)) G := if_pos h
@[simp] theorem dAdd_tup (a b : List Mi.D) (G : Gp) (h : a.length + b.length ≤ sizeLine) : dAdd (.tup a) (.tup b) G = .ok (.tup (a ++ b)) G := if_pos h
@[simp] theorem dSub_int (i j : Int) (G : Gp) : dSub (.int i) (.int j) G = .ok (.int (i - j)) G := (rfl)
@[simp] theorem dMod_int (i j : Int) (G : Gp) (h : 0 < j) : dMod (.int i) (.int j) G = .ok (.int (i % j)) G := if_pos h
@[simp] theorem dDiv_int (i j : Int) (G : Gp) (h : 0 < j) (h2 : j < 1073741824) : dDiv (.int i) (.int j) G = .ok (.int (i / j)) G := if_pos ⟨h, h2⟩
theorem small64 {z : Int} (h0 : -1000000000000000000 ≤ z) (h : z ≤ 1000000000000000000) : -(2 ^ 64) < z ∧ z < 2 ^ 64 := by
  have e : (1000000000000000000 : Int) < 2 ^ 64 := by decide
  have e2 : (-(2 ^ 64) : Int) < -1000000000000000000 := by decide
  exact ⟨Int.lt_of_lt_of_le e2 h0, Int.lt_of_le_of_lt h e⟩
@[simp] theorem dMul_r (i j : Int) (G : Gp) (h0 : -1000000000000000000 ≤ j) (h : j ≤ 1000000000000000000) : dMul (.int i) (.int j) G = .ok (.int (i * j)) G := if_pos (.inr (small64 h0 h))
theorem dMul_l (i j : Int) (G : Gp) (h0 : -1000000000000000000 ≤ i) (h : i ≤ 1000000000000000000) : dMul (.int i) (.int j) G = .ok (.int (i * j)) G := if_pos (.inl (small64 h0 h))
@[simp] theorem dLt_int (i j : Int) (G : Gp) : dLt (.int i) (.int j) G = .ok (.bl (decide (i < j))) G := (rfl)
@[simp] theorem dLe_int (i j : Int) (G : Gp) : dLe (.int i) (.int j) G = .ok (.bl (decide (i ≤ j))) G := (rfl)
@[simp] theorem dGt_int (i j : Int) (G : Gp) : dGt (.int i) (.int j) G = .ok (.bl (decide (j < i))) G := (rfl)
@[simp] theorem dGe_int (i j : Int) (G : Gp) : dGe (.int i) (.int j) G = .ok (.bl (decide (j ≤ i))) G := (rfl)
@[simp] theorem dInt_int (i : Int) (G : Gp) : dInt [.int i] G = .ok (.int i) G := (rfl)
@[simp] theorem dInt_bl (b : Bool) (G : Gp) : dInt [.bl b] G = .ok (.int (if b then 1 else 0)) G := (rfl)
@[simp] theorem dTru_bl (b : Bool) (G : Gp) : dTru G (.bl b) = some b := (rfl)
theorem fnM_rt {n : Nat} {b : Sx} {ds : List Mi.D} {G G' : Gp} {env : Ev} {d : Mi.D} (he : ds.map some ++ List.replicate (n - ds.length) none = env) (h : b env G = .rt d G') : fnM n b ds G = .ok d G' := by rw [fnM_ap, he, h]
theorem seq_nx {a b : Sx} {env e : Ev} {G G1 : Gp} (h : a env G = .nx e G1) : mSeq a b env G = b e G1 := by rw [x_mSeq, h]
theorem seq_rt {a b : Sx} {env : Ev} {G G1 : Gp} {d : Mi.D} (h : a env G = .rt d G1) : mSeq a b env G = .rt d G1 := by rw [x_mSeq, h]
/-! loops -/
@[simp] theorem forL_nil (g : Gx) (b : Sx) (env : Ev) (G : Gp) : forL g b [] env G = .nx env G := (rfl)
theorem forL_cons (g : Gx) (b : Sx) (d : Mi.D) (r : List Mi.D) (env : Ev) (G : Gp) : forL g b (d :: r) env G = (match g d env G with
  | .ok e G1 => (match b e G1 with
    | .nx e2 G2 => forL g b r e2 G2
    | .ct e2 G2 => forL g b r e2 G2
    | .bk e2 G2 => .nx e2 G2
    | r => r)
  | _ => .bad) := by rw [forL] <;> rfl
end Mi

set_option maxHeartbeats 4000000
/-! MiF: the law's call at the head. -/
namespace Mi
open PySem PySem.Spec PyProof.Rows L2
/-- an exception of some world -/
def CXw (P : Program) : CXT := fun outer H s E e s' => ∃ w, L2.CX P w outer H s E e s'
theorem cxw_none {P : Program} (H : Hp) (s : Shared) (e : Value) (s' : Shared) (h : CXw P [] H s (fun _ _ _ => False) e s') : False := by
  obtain ⟨w, a, B, H', cls, d, _, _, _, _, _, _, _, z⟩ := h
  exact z
theorem fn_cx {P : Program} {w : World} {K : PySem.W.Frag} {mg : Str → Option Value} {base : Heap} {C C' : CXT} {k : Nat} {f : Addr} {fd : FuncData} {ps : List Str} {sp : Sp} (hc : ∀ o H s E e s', C o H s E e s' → C' o H s E e s') (F : FnOk P w K mg base C k f fd ps sp) : FnOk P w K mg base C' k f fd ps sp :=
  ⟨F.len, fun A outer s H args us vs Q E hr e0 hb r h => codeAny_mono (F.run A outer s H args us vs Q E hr e0 hb r h) fun r s' hq => by
    cases r with
    | error e => exact hc _ _ _ _ _ _ hq
    | ok fl => cases fl <;> exact hq⟩
end Mi

set_option maxHeartbeats 4000000
/-! MiG: adopting and shared calls, freezing, attributes, making of own classes, methods. -/
namespace Mi
open PySem PySem.Spec PyProof.Rows L2

/-! ### shifting -/
mutual
def shD (k : Nat) : Mi.D → Mi.D
  | .tup xs => .tup (shDs k xs)
  | .lst xs => .lst (shDs k xs)
  | .scr xs => .scr (shDs k xs)
  | .dct xs => .dct (shDk k xs)
  | .dck xs => .dck (shDf k xs)
  | .ins c fs => .ins c (shDf k fs)
  | .cel n => .cel (k + n)
  | d => d
def shDs (k : Nat) : List Mi.D → List Mi.D
  | [] => []
  | d :: r => shD k d :: shDs k r
def shDk (k : Nat) : List (Key × Mi.D) → List (Key × Mi.D)
  | [] => []
  | (x, d) :: r => (x, shD k d) :: shDk k r
def shDf (k : Nat) : List (Str × Mi.D) → List (Str × Mi.D)
  | [] => []
  | (x, d) :: r => (x, shD k d) :: shDf k r
end
def shO (k : Nat) : Ob → Ob
  | .lst xs => .lst (shDs k xs)
  | .dct xs => .dct (shDk k xs)
  | .ins c fs => .ins c (shDf k fs)
  | .frz d => .frz d
  | .lck xs => .lck (shDk k xs)
section
variable {Z : Ct} {F : Hp} {ro ro' : List Addr} {k : Nat}
mutual
theorem Rep.shift (p : ∀ (n : Nat) (a : Addr), ro[n]? = some a → ro'[k + n]? = some a) : ∀ {d : Mi.D} {v : V}, Rep Z F ro d v → Rep Z F ro' (shD k d) v
  | _, _, .non => by simp only [shD]; exact .non
  | _, _, .bl b => by simp only [shD]; exact .bl b
  | _, _, .int b => by simp only [shD]; exact .int b
  | _, _, .str b => by simp only [shD]; exact .str b
  | _, _, .ty b => by simp only [shD]; exact .ty b
  | _, _, .gl b => by simp only [shD]; exact .gl b
  | _, _, .tup h r => by simp only [shD]; exact .tup h (Reps.shift p r)
  | _, _, .lst h r => by simp only [shD]; exact .lst h (Reps.shift p r)
  | _, _, .scr h r => by simp only [shD]; exact .scr h (Reps.shift p r)
  | _, _, .dct h r => by simp only [shD]; exact .dct h (RepK.shift p r)
  | _, _, .dck (kvs := kvs) h r m => by
    simp only [shD]
    refine .dck h (RepN.shift p r) fun x e => m x ?_
    clear h r m
    induction kvs with
    | nil => rfl
    | cons q kvs ih =>
      obtain ⟨y, d⟩ := q
      simp only [shDf, List.lookup_cons] at e ⊢
      split at e
      · cases e
      · exact ih e
  | _, _, .ins h1 h2 r => by simp only [shD]; exact .ins h1 h2 (RepF.shift p r)
  | _, _, .cel h => by simp only [shD]; exact .cel (p _ _ h)
theorem Reps.shift (p : ∀ (n : Nat) (a : Addr), ro[n]? = some a → ro'[k + n]? = some a) : ∀ {d : List Mi.D} {v : List V}, Reps Z F ro d v → Reps Z F ro' (shDs k d) v
  | _, _, .nil => .nil
  | _, _, .cons h r => .cons (Rep.shift p h) (Reps.shift p r)
theorem RepK.shift (p : ∀ (n : Nat) (a : Addr), ro[n]? = some a → ro'[k + n]? = some a) : ∀ {d : List (Key × Mi.D)} {v : List (Key × V)}, RepK Z F ro d v → RepK Z F ro' (shDk k d) v
  | _, _, .nil => .nil
  | _, _, .cons h r => .cons (Rep.shift p h) (RepK.shift p r)
theorem RepN.shift (p : ∀ (n : Nat) (a : Addr), ro[n]? = some a → ro'[k + n]? = some a) : ∀ {a : Addr} {d : List (Str × Mi.D)}, RepN Z F ro a d → RepN Z F ro' a (shDf k d)
  | _, _, .nil => .nil
  | _, _, .cons h1 h2 h r => .cons h1 h2 (Rep.shift p h) (RepN.shift p r)
theorem RepF.shift (p : ∀ (n : Nat) (a : Addr), ro[n]? = some a → ro'[k + n]? = some a) : ∀ {d : List (Str × Mi.D)} {v : List (Str × V)}, RepF Z F ro d v → RepF Z F ro' (shDf k d) v
  | _, _, .nil => .nil
  | _, _, .cons h r => .cons (Rep.shift p h) (RepF.shift p r)
end
theorem CellIs.shift (p : ∀ (n : Nat) (a : Addr), ro[n]? = some a → ro'[k + n]? = some a) {ob : Ob} {o : Option HO} (c : CellIs Z F ro ob o) : CellIs Z F ro' (shO k ob) o := by
  cases c with
  | lst r => exact .lst (r.shift p)
  | dct r => exact .dct (r.shift p)
  | lck r => exact .lck (r.shift p)
  | ins c r => exact .ins c (r.shift p)
end
/-- the callee's cells become ours -/
theorem adopt {Z : Ct} {F1 H1 F2 H2 : Hp} {ro1 ro2 : List Addr} {G1 G2 : Gp} (ok1 : Ok Z F1 ro1 H1 G1) (n : Nx F1 [] H1 F2 ro2 H2) (ok2 : Ok Z F2 ro2 H2 G2) :
    Ok Z F2 (ro1 ++ ro2) H2 (G1 ++ G2.map (shO G1.length)) ∧ Nx F1 ro1 H1 F2 (ro1 ++ ro2) H2 := by
  have new2 : ∀ p ∈ ro2, H1 p = none := fun p hp => (n.new p hp).resolve_left (by simp)
  have pg : ∀ (m : Nat) (a : Addr), ro1[m]? = some a → (ro1 ++ ro2)[m]? = some a := pre_get ⟨ro2, rfl⟩
  have pg2 : ∀ (m : Nat) (a : Addr), ro2[m]? = some a → (ro1 ++ ro2)[G1.length + m]? = some a := fun m a h => by
    rw [← ok1.len, List.getElem?_append_right (Nat.le_add_right _ _), Nat.add_sub_cancel_left]
    exact h
  refine ⟨⟨ok2.sub, by simp [ok1.len, ok2.len], ?_, fun m ob a h1 h2 => ?_⟩, ⟨n.sub, ok2.sub, ⟨ro2, rfl⟩, fun p hp => ?_, fun p o e1 e2 e3 => ?_, n.frz⟩⟩
  · rw [List.nodup_append]
    exact ⟨ok1.nd, ok2.nd, fun a ha b hb z => ok1.there ha (z ▸ new2 b hb)⟩
  · by_cases hm : m < ro1.length
    · have h2' : ro1[m]? = some a := by rw [List.getElem?_append_left hm] at h2; exact h2
      have h1' : G1[m]? = some ob := by rw [List.getElem?_append_left (by rw [← ok1.len]; exact hm)] at h1; exact h1
      have ha : a ∈ ro1 := List.mem_iff_getElem?.mpr ⟨m, h2'⟩
      rcases ok1.cell m ob a h1' h2' with ⟨d, e, r, u, q2, q3⟩ | ⟨q, c⟩
      · exact .inl ⟨d, e, r.mono n.sub (fun _ _ z => z), u, n.sub _ _ q2, q3⟩
      · cases e : H1 a with
        | none => exact absurd e (ok1.there ha)
        | some o =>
          obtain ⟨x, y⟩ := n.out a o e q (by simp)
          exact .inr ⟨y, by rw [x, ← e]; exact c.mono n.sub pg⟩
    · have hm' : ro1.length ≤ m := Nat.le_of_not_lt hm
      rw [List.getElem?_append_right hm'] at h2
      rw [List.getElem?_append_right (by rw [← ok1.len]; exact hm'), List.getElem?_map, ← ok1.len] at h1
      cases e : G2[m - ro1.length]? with
      | none => rw [e] at h1; cases h1
      | some ob2 =>
        rw [e] at h1
        cases h1
        rcases ok2.cell _ ob2 a e h2 with ⟨d, e', r, u, q2, q3⟩ | ⟨q, c⟩
        · subst e'
          exact .inl ⟨d, rfl, r, u, q2, q3⟩
        · exact .inr ⟨q, by rw [ok1.len]; exact c.shift pg2⟩
  · rcases List.mem_append.mp hp with z | z
    · exact .inl z
    · exact .inr (new2 p z)
  · obtain ⟨x, y⟩ := n.out p o e1 e2 (by simp)
    exact ⟨x, y⟩
def callA (f : Fm) (n : Nat) (ds : List Mi.D) (G : Gp) : Out Mi.D := if ds.length = n ∧ noCs (ds.map (untie G)) = true then (match f (ds.map (untie G)) [] with
  | .ok d G2 => .ok (shD G.length d) (G ++ G2.map (shO G.length))
  | .exc c fs _ => if noCf fs then .exc c fs G else .bad
  | .bad => .bad) else .bad
theorem exc_F {Z : Ct} {W : WX} {F H : Hp} {ro : List Addr} {G : Gp} {σ : L2.St} {Q : VK} {c : Str} {fs : List (Str × Mi.D)} (ok : Ok Z F ro H G) (h : Post Z W (RD Z) F ro H σ Q (if noCf fs then .exc c fs G else .bad)) {F2 H2 : Hp} {ro2 : List Addr} {G2 : Gp} {C dd : Addr} {ws : List (Str × V)} (n2 : Nx F [] H F2 ro2 H2) (ok2 : Ok Z F2 ro2 H2 G2)
    (h1 : Z.mg c = some (.ref C)) (h2 : F2 dd = some (.xd ws)) (h3 : RepF Z F2 ro2 fs ws) : W (.ref C) (some dd) σ H2 := by
  split at h
  · rename_i hf
    obtain ⟨a, b⟩ := back_F (F3 := F2) (H3 := H2) ok n2 (fun _ _ z => z) ok2.sub (fun _ _ => ⟨rfl, rfl⟩) (fun _ _ _ z => z)
    exact h F2 ro H2 C dd ws b a h1 h2 (RepF.noC h3 hf)
  · exact h.elim
theorem sp_callA {Z : Ct} {W : WX} {f : Fm} {n : Nat} {F H : Hp} {ro : List Addr} {G : Gp} {ds : List Mi.D} {vs : List V} {σ : L2.St} {Q : VK} (ok : Ok Z F ro H G) (r : Reps Z F ro ds vs) (h : Post Z W (RD Z) F ro H σ Q (callA f n ds G)) : SpF Z f n vs H Q (WE W σ) := by
  unfold callA at h
  split at h
  · rename_i hn
    refine ⟨F, [], [], _, ok_none ok, Reps.noC (unties_ok ok r) hn.2, by rw [← Reps.length r]; exact hn.1, ?_⟩
    cases e : f (ds.map (untie G)) [] with
    | bad => rw [e] at h; exact h
    | exc c fs G2 =>
      rw [e] at h
      exact fun F2 ro2 H2 C dd ws n2 ok2 h1 h2 h3 => exc_F ok h n2 ok2 h1 h2 h3
    | ok d G2 =>
      rw [e] at h
      intro F2 ro2 H2 v n2 ok2 rv
      obtain ⟨a, b⟩ := adopt ok n2 ok2
      exact h F2 (ro ++ ro2) H2 v b a (rv.shift fun m a h => by rw [← ok.len, List.getElem?_append_right (Nat.le_add_right _ _), Nat.add_sub_cancel_left]; exact h)
  · exact h.elim
def mCallA (f : Fm) (n : Nat) (dfl : List Mi.D) (a : Ax) : Ex := fun env G => (a env G).bind fun ds G1 => callA f n (ds ++ dfl) G1
/-- a call on our own cells -/
def mCallS (f : Fm) (n : Nat) (dfl : List Mi.D) (a : Ax) : Ex := fun env G => (a env G).bind fun ds G1 => if (ds ++ dfl).length = n then f (ds ++ dfl) G1 else .bad
section
variable {X : Cx} {W : WX} {pos p : Pos} {j k n : Nat} {x : Str} {dfl : List Mi.D} {fm : Fm} {e : Expr} {es : List Expr} {ma : Ax}
/-- a call, however its reading is told -/
theorem em_cX {g : List Mi.D → Gp → Out Mi.D} (F : FnG X.prog X.w X.K X.mg X.base j x n dfl fm) (hr : Room k X.A) (hjk : j ≤ k) (tk : Takes X W)
    (hg2 : ∀ (σ : L2.St) (Q : VK) (F : Hp) (ro : List Addr) (H : Hp) (G : Gp) (ds : List Mi.D) (vs : List V), Ok (ct X) F ro H G → Reps (ct X) F ro ds vs → Post (ct X) W (RD (ct X)) F ro H σ Q (g ds G) → SpF (ct X) fm n vs H Q (WE W σ))
    (ha : PAm X W (e :: es) ma) (hc : X.calm = true := by rfl) (hg : Gl X x := by rfl) (hdb : (x == ("__debug__" : Str)) = false := by decide)
    (he : starEach (e :: es) X.env = (false, eval e X.env) :: starEach es X.env := by rfl) (hpl : (backTo pos (starEach es X.env)).any (·.1) = false := by rfl) : PEm X W (.Call (.Name x p) (e :: es) [] pos) (fun env G => (ma env G).bind fun ds G1 => g (ds ++ dfl) G1) := by
  obtain ⟨f, fd, ps, dvs, ds, h1, h2, h3, h4, h5, h6⟩ := F
  rw [ct_calm hc] at h1 h6
  refine PE.imp (pe_callW h1 (hr.mono hjk) hg h2 h3 h4 h5 tk ha hdb he hpl) fun σ H Q h => ?_
  obtain ⟨F, ro, G, env, ok, ev, h⟩ := h
  refine ⟨F, ro, G, env, ok, ev, (PostB (R := RA (ct X)) h).imp fun vs H1 ⟨F1, ro1, d1, G1, n1, ok1, r1, h2⟩ => ?_⟩
  exact hg2 σ Q F1 ro1 H1 G1 _ _ ok1 (r1.append (h6 F1 ro1)) h2
theorem em_cA (F : FnG X.prog X.w X.K X.mg X.base j x n dfl fm) (hr : Room k X.A) (hjk : j ≤ k) (tk : Takes X W) (ha : PAm X W (e :: es) ma) (hc : X.calm = true := by rfl) (hg : Gl X x := by rfl) (hdb : (x == ("__debug__" : Str)) = false := by decide)
    (he : starEach (e :: es) X.env = (false, eval e X.env) :: starEach es X.env := by rfl) (hpl : (backTo pos (starEach es X.env)).any (·.1) = false := by rfl) : PEm X W (.Call (.Name x p) (e :: es) [] pos) (mCallA fm n dfl ma) :=
  em_cX (g := callA fm n) F hr hjk tk (fun σ Q F ro H G ds vs ok r h => sp_callA ok r h) ha hc hg hdb he hpl
theorem em_cS (F : FnG X.prog X.w X.K X.mg X.base j x n dfl fm) (hr : Room k X.A) (hjk : j ≤ k) (tk : Takes X W) (ha : PAm X W (e :: es) ma) (hc : X.calm = true := by rfl) (hg : Gl X x := by rfl) (hdb : (x == ("__debug__" : Str)) = false := by decide)
    (he : starEach (e :: es) X.env = (false, eval e X.env) :: starEach es X.env := by rfl) (hpl : (backTo pos (starEach es X.env)).any (·.1) = false := by rfl) : PEm X W (.Call (.Name x p) (e :: es) [] pos) (mCallS fm n dfl ma) :=
  em_cX (g := fun ds G => if ds.length = n then fm ds G else .bad) F hr hjk tk (fun σ Q F ro H G ds vs ok r h => by
    split at h
    · rename_i hl
      exact ⟨F, ro, G, ds, ok, r, by rw [← Reps.length r]; exact hl, h.we⟩
    · exact h.elim) ha hc hg hdb he hpl
end

/-! ### freezing -/
def fzC (G : Gp) : Mi.D → Option Gp
  | .cel n => (match G[n]? with
    | some (.lst xs) => if noCs xs then some (G.set n (.frz (.lst xs))) else none
    | some (.frz _) => some G
    | _ => none)
  | _ => some G
theorem Ok.frz1 {Z : Ct} {F H : Hp} {ro : List Addr} {G : Gp} (ok : Ok Z F ro H G) {n : Nat} {a : Addr} {xs : List Mi.D} {vs : List V} (h2 : ro[n]? = some a) (hf : F a = none) (hH : H a = some (.lst vs)) (r : Reps Z F ro xs vs) (hx : noCs xs = true) :
    Ok Z (upd F a (.lst vs)) ro H (G.set n (.frz (.lst xs))) ∧ Nx F ro H (upd F a (.lst vs)) ro H := by
  have sH : Same (upd F a (.lst vs)) H := fun b u e => by
    by_cases hb : b = a
    · subst hb; rw [upd_same] at e; rw [hH]; exact e
    · rw [upd_ne hb] at e; exact ok.sub _ _ e
  refine ⟨⟨sH, by simp [ok.len], ok.nd, fun m ob b h3 h4 => ?_⟩, ⟨same_upd hf, sH, ⟨[], by simp⟩, fun q z => .inl z, fun q u e1 e2 e3 => ?_, fun _ _ _ e => e⟩⟩
  · by_cases hm : m = n
    · subst hm
      rw [h2] at h4
      cases h4
      have hl := (List.getElem?_eq_some_iff.mp h2).1
      rw [List.getElem?_set_self (by rw [← ok.len]; exact hl)] at h3
      cases h3
      exact .inl ⟨_, rfl, .lst upd_same (Reps.noC (r.mono (same_upd hf) fun _ _ z => z) hx), _, upd_same, fun ws z => by cases z⟩
    · rw [List.getElem?_set_ne (Ne.symm hm)] at h3
      have ne : b ≠ a := fun z => hm (nodup_at ok.nd (z ▸ h4) h2)
      rcases ok.cell m ob b h3 h4 with ⟨d, e, r, u, q1, q2⟩ | ⟨q, c⟩
      · exact .inl ⟨d, e, r.mono (same_upd hf) (fun _ _ z => z), u, by rw [upd_ne ne]; exact q1, q2⟩
      · exact .inr ⟨by rw [upd_ne ne]; exact q, c.mono (same_upd hf) fun _ _ z => z⟩
  · have ne : q ≠ a := fun z => e3 (z ▸ List.mem_iff_getElem?.mpr ⟨n, h2⟩)
    exact ⟨e1, by rw [upd_ne ne]; exact e2⟩
def mFz (a : Ex) : Ex := fun env G => (a env G).bind fun d G1 => match fzC G1 d with
  | some G2 => .ok d G2
  | none => .bad
theorem em_fz {X : Cx} {W : WX} {e : Expr} {m : Ex} (h : PEm X W e m) : PEm X W e (mFz m) := PE.imp h fun σ H Q ⟨F, ro, G, env, ok, ev, h⟩ => by
  refine ⟨F, ro, G, env, ok, ev, (PostB (R := RD (ct X)) h).imp fun v H1 ⟨F1, ro1, d1, G1, n1, ok1, r1, h1⟩ => ?_⟩
  have plain : fzC G1 d1 = some G1 → Q v H1 := fun e => by rw [e] at h1; exact h1.ok ok1 r1
  have r1' := r1
  cases r1 with
  | @cel n a e =>
    obtain ⟨ob, ho⟩ := ok1.cell_in e
    cases ob with
    | lst xs =>
      obtain ⟨a', vs, ea, e1, e2, e3, e4⟩ := cell_lst ok1 r1' ho
      cases ea
      simp only [fzC, ho] at h1
      split at h1
      · rename_i G2 eq
        split at eq
        · rename_i hx
          cases eq
          obtain ⟨x, y⟩ := ok1.frz1 e1 e2 e3 e4 hx
          exact h1 _ _ _ _ y x (.cel e1)
        · cases eq
      · exact h1.elim
    | frz d => exact plain (by simp only [fzC, ho])
    | dct _ => simp only [fzC, ho] at h1; exact h1.elim
    | ins _ _ => simp only [fzC, ho] at h1; exact h1.elim
    | lck _ => simp only [fzC, ho] at h1; exact h1.elim
  | _ => exact plain rfl
end Mi

set_option maxHeartbeats 4000000
/-! MiH: defs with defaults. -/
namespace Mi
open PySem PySem.Spec PyProof.Rows L2 NdefX
section
variable {P : Program} {w : World} {K : PySem.W.Frag} {mg : Str → Option Value} {base : Heap}
/-- a def with defaults: n values are given, the first j defaults are not used -/
theorem FnG.mkD {x qual : Str} {params : Arguments} {body : List Stmt} {scope : Scope} {dvs : List V} {kws : List (Str × V)} {f : Addr} {fd : FuncData} {N ps : List Str} {k : Nat} {b : Sx} {dd : List Mi.D} (n j : Nat) (F : FunD K x qual params body scope dvs kws f fd) (S : FnScope N ps scope) (hm : mg x = some (.ref f))
    (hd : dvs ≠ []) (hn : n + (dvs.length - j) = ps.length)
    (hbind : ∀ (T : Addr) (kV doc pm : Value) (an : Option Addr) (cdv ct : Value) (us its : List Value), us.length = n → its.length = dvs.length →
      ∃ k, bindArgs (PySem.W.fnOf x qual params body scope (.ref T) kV doc pm an cdv ct) ⟨us, []⟩ = seqItems? (.ref T) >>= k ∧ k (some its.toArray) = pure (ps.zip (us ++ its.drop j)))
    (hdd : ∀ F ro, Reps ⟨K, mg, w, none⟩ F ro dd (dvs.drop j))
    (hb : ∀ (cdv : Value) (A : Around) (outer : List Env) (s : Shared) (H : Hp) (E : XK), Room k (A.deeper (envOfC qual scope s.heap.objs.size f cdv)) → PSsm (cxOf (L2.CX P w) P w K mg base N qual scope f cdv A outer s H E) (WE1 E) body b) :
    FnG P w K mg base (k + 1) x ps.length dd (fnM N.length b) := by
  obtain ⟨ds, hv, hB⟩ := F.binds1 (ps := ps) n j hd hn hbind
  exact ⟨f, fd, ps, _, ds, fn_ok F S hb, hm, F.kp, hB, hv, hdd⟩
end
/-! ### whatever is walked -/
def anyL (G : Gp) (d : Mi.D) : Option (List Mi.D) := match fseq G d with
  | some xs => some xs
  | none => match d with
    | .str x => some (x.cps.toList.map fun c => .str ⟨#[c]⟩)
    | d => (fdct G d).map fun xs => xs.map fun p => kD p.1
def iAny (a : Ex) : Ix := fun env G => (a env G).bind fun d G1 => match anyL G1 d with
  | some xs => .ok xs G1
  | none => .bad
theorem iAny_is (a : Ex) (env : Ev) (G : Gp) : iAny a env G = iSeq a env G ∨ iAny a env G = iStrm a env G ∨ iAny a env G = iKey a env G := by
  unfold iAny iSeq iStrm iKey
  cases a env G with
  | exc c fs g => exact .inl rfl
  | bad => exact .inl rfl
  | ok d G1 =>
    simp only [Out.bind_ok, anyL]
    cases e : fseq G1 d with
    | some xs => exact .inl rfl
    | none =>
      cases d <;> first | exact .inr (.inl rfl) | (refine .inr (.inr ?_); simp only; generalize fdct G1 _ = o; cases o <;> rfl)
theorem im_any {X : Cx} {W : WX} {tg l : Expr} {ml : Ex} (hl : PEm X W l ml) : PIm X W tg l (iAny ml) := ⟨fun pins s σ H R I h => by
  obtain ⟨F, ro, G, env, ok, ev, h⟩ := h
  rcases iAny_is ml env G with e | e | e
  · exact (im_seq hl).run pins s σ H R I ⟨F, ro, G, env, ok, ev, by rw [← e]; exact h⟩
  · exact (im_str hl).run pins s σ H R I ⟨F, ro, G, env, ok, ev, by rw [← e]; exact h⟩
  · exact (im_key hl).run pins s σ H R I ⟨F, ro, G, env, ok, ev, by rw [← e]; exact h⟩⟩
@[simp] theorem x_iAny (a : Ex) (env : Ev) (G : Gp) : iAny a env G = (a env G).bind fun d G1 => match anyL G1 d with
  | some xs => .ok xs G1
  | none => .bad := (rfl)
@[simp] theorem anyL_lst (xs : List Mi.D) (G : Gp) : anyL G (.lst xs) = some xs := (rfl)
@[simp] theorem anyL_tup (xs : List Mi.D) (G : Gp) : anyL G (.tup xs) = some xs := (rfl)
@[simp] theorem anyL_scr (xs : List Mi.D) (G : Gp) : anyL G (.scr xs) = some xs := (rfl)
@[simp] theorem anyL_str (x : Str) (G : Gp) : anyL G (.str x) = some (x.cps.toList.map fun c => .str ⟨#[c]⟩) := (rfl)
@[simp] theorem anyL_dct (xs : List (Key × Mi.D)) (G : Gp) : anyL G (.dct xs) = some (xs.map fun p => kD p.1) := (rfl)
/-! ### what a call does, in words -/
@[simp] theorem x_mCallA (f : Fm) (n : Nat) (dfl : List Mi.D) (x : Ax) (env : Ev) (G : Gp) : mCallA f n dfl x env G = (x env G).bind fun ds G1 => callA f n (ds ++ dfl) G1 := (rfl)
@[simp] theorem x_mFz (a : Ex) (env : Ev) (G : Gp) : mFz a env G = (a env G).bind fun d G1 => match fzC G1 d with
  | some G2 => .ok d G2
  | none => .bad := (rfl)
end Mi

set_option maxHeartbeats 4000000
/-! MiP: plain tools: texts, digits, split and join. -/
namespace Mi
open PySem PySem.Spec PyProof.Rows L2
abbrev chs (x : Str) : List Nat := x.cps.toList
theorem str_ext {a b : Str} (h : chs a = chs b) : a = b := Str.ext' (Array.toList_inj.mp h)
theorem chs_app (a b : Str) : chs (a ++ b) = chs a ++ chs b := by show (a.cps ++ b.cps).toList = _; simp
theorem chs_mk (l : List Nat) : chs ⟨l.toArray⟩ = l := by simp [chs]
theorem len_chs (a : Str) : a.length = (chs a).length := by simp [chs, Str.length]
/-! join and split at one sign -/
theorem join_nil (s : Str) : Str.join s [] = Str.empty := rfl
theorem join_one (s x : Str) : Str.join s [x] = x := rfl
theorem join_two (s x y : Str) (r : List Str) : Str.join s (x :: y :: r) = x ++ s ++ Str.join s (y :: r) := rfl
theorem head_free {c : Nat} : ∀ {x y A B : List Nat}, c ∉ x → c ∉ y → x ++ c :: A = y ++ c :: B → x = y ∧ A = B
  | [], [], A, B, _, _, h => by simpa using h
  | [], b :: y, A, B, _, h2, h => by
    simp at h
    exact absurd (h.1 ▸ List.mem_cons_self ..) h2
  | a :: x, [], A, B, h1, _, h => by
    simp at h
    exact absurd (h.1 ▸ List.mem_cons_self ..) h1
  | a :: x, b :: y, A, B, h1, h2, h => by
    simp at h
    obtain ⟨e1, e2⟩ := h
    obtain ⟨e3, e4⟩ := head_free (fun z => h1 (List.mem_cons_of_mem _ z)) (fun z => h2 (List.mem_cons_of_mem _ z)) e2
    exact ⟨by rw [e1, e3], e4⟩
theorem join_inj (c : Nat) : ∀ {ws vs : List Str}, ws ≠ [] → vs ≠ [] → (∀ w ∈ ws, c ∉ chs w) → (∀ w ∈ vs, c ∉ chs w) → Str.join ⟨#[c]⟩ ws = Str.join ⟨#[c]⟩ vs → ws = vs
  | [], _, h, _, _, _, _ => absurd rfl h
  | _, [], _, h, _, _, _ => absurd rfl h
  | [x], [y], _, _, _, _, h => by rw [join_one, join_one] at h; rw [h]
  | [x], y :: z :: r, _, _, h1, _, h => by
    rw [join_one, join_two] at h
    refine absurd ?_ (h1 x (by simp))
    rw [h, chs_app, chs_app]
    simp
  | x :: z :: r, [y], _, _, _, h1, h => by
    rw [join_one, join_two] at h
    refine absurd ?_ (h1 y (by simp))
    rw [← h, chs_app, chs_app]
    simp
  | x :: x2 :: r, y :: y2 :: s, _, _, h1, h2, h => by
    rw [join_two, join_two] at h
    have e := congrArg chs h
    simp only [chs_app, List.append_assoc] at e
    obtain ⟨e1, e2⟩ := head_free (h1 x (by simp)) (h2 y (by simp)) (show chs x ++ c :: _ = chs y ++ c :: _ from e)
    have ih := join_inj c (ws := x2 :: r) (vs := y2 :: s) (by simp) (by simp) (fun w hw => h1 w (List.mem_cons_of_mem _ hw)) (fun w hw => h2 w (List.mem_cons_of_mem _ hw)) (str_ext e2)
    rw [str_ext e1, ih]
theorem split_ne (x y : Str) : Txt.split x y ≠ [] := fun h => by
  have := split_pos x y
  rw [h] at this
  exact absurd this (by decide)
theorem split_free1 (x : Str) (c : Nat) : ∀ w ∈ Txt.split x ⟨#[c]⟩, c ∉ chs w := StrLaws.split_free x c
/-- the texts without the sign come back -/
theorem split_join (c : Nat) {ws : List Str} (h : ws ≠ []) (hf : ∀ w ∈ ws, c ∉ chs w) : Txt.split (Str.join ⟨#[c]⟩ ws) ⟨#[c]⟩ = ws :=
  join_inj c (split_ne _ _) h (split_free1 _ c) hf (StrLaws.join_split _ _)
theorem join_app (s : Str) : ∀ {a b : List Str}, a ≠ [] → b ≠ [] → Str.join s (a ++ b) = Str.join s a ++ s ++ Str.join s b
  | [], _, h, _ => absurd rfl h
  | [x], y :: b, _, _ => by rw [join_one, List.singleton_append, join_two]
  | [x], [], _, h => absurd rfl h
  | x :: y :: r, b, _, h => by
    rw [List.cons_append, List.cons_append, join_two, ← List.cons_append, join_app s (by simp) h, join_two]
    simp only [Str.append_assoc]
theorem join_flat (s : Str) : ∀ ws : List Str, Str.join s (ws.flatMap fun w => Txt.split w s) = Str.join s ws
  | [] => rfl
  | [x] => by rw [List.flatMap_cons, List.flatMap_nil, List.append_nil, StrLaws.join_split, join_one]
  | x :: y :: r => by
    have hne : (y :: r).flatMap (fun w => Txt.split w s) ≠ [] := by
      rw [List.flatMap_cons]
      exact fun h => split_ne y s (List.append_eq_nil_iff.mp h).1
    rw [List.flatMap_cons, join_app s (split_ne x s) hne, StrLaws.join_split, join_flat s (y :: r), join_two]
/-- split of any texts joined -/
theorem split_flat (c : Nat) {ws : List Str} (h : ws ≠ []) : Txt.split (Str.join ⟨#[c]⟩ ws) ⟨#[c]⟩ = ws.flatMap fun w => Txt.split w ⟨#[c]⟩ := by
  rw [← join_flat]
  refine split_join c ?_ fun w hw => ?_
  · cases ws with
    | nil => exact absurd rfl h
    | cons x r =>
      rw [List.flatMap_cons]
      exact fun h => split_ne x _ (List.append_eq_nil_iff.mp h).1
  · obtain ⟨x, _, hx⟩ := List.mem_flatMap.mp hw
    exact split_free1 x c w hx
theorem txt_join (s : Str) (l : List Str) : Txt.join s l = Str.join s l := StrLaws.glued_eq_join s l
theorem join_len (s : Str) : ∀ l : List Str, (Str.join s l).length ≤ (l.map (·.length)).sum + l.length * s.length := StrLaws.join_length_le s
/-! numbers as texts -/
abbrev numS (n : Int) : Str := Str.ofString (toString n)
theorem numS_chs (m : Nat) : chs (numS (m : Int)) = (Nat.toDigits 10 m).map Char.toNat := PySem.W.KIN.signs_num m
theorem numS_dig (m : Nat) : NumText.AllDigits (chs (numS (m : Int))) := by
  intro c hc
  rw [numS_chs] at hc
  obtain ⟨ch, hch, e⟩ := List.mem_map.mp hc
  rw [← e]
  exact digit_range (Nat.isDigit_of_mem_toDigits (by decide) (by decide) hch)
theorem digits_ne (m : Nat) : Nat.toDigits 10 m ≠ [] := fun h => by
  have e := PySem.W.KIN.val_back m
  have := toDigits_len_ge 10 m
  rw [h] at this
  exact absurd this (by decide)
theorem numS_ne (m : Nat) : chs (numS (m : Int)) ≠ [] := by
  rw [numS_chs]
  exact fun h => digits_ne m (List.map_eq_nil_iff.mp h)
theorem numS_len {m k : Nat} (hk : 0 < k) (h : m < 10 ^ k) : (numS (m : Int)).length ≤ k := toString_length_le (by omega) hk (by exact_mod_cast h)
theorem numS_int {m : Nat} (h : (numS (m : Int)).length ≤ 4300) : intText? (numS (m : Int)) = some (m : Int) := by
  have e := intText_digits (numS_dig m) (numS_ne m) h
  rw [show (numS (m : Int)).cps.toList = _ from numS_chs m, PySem.W.KIN.val_back] at e
  exact e
theorem head_dig : ∀ m : Nat, 0 < m → ∃ c r, chs (numS (m : Int)) = c :: r ∧ 49 ≤ c ∧ c ≤ 57 := fun m => by
  induction m using Nat.strongRecOn with
  | _ m ih =>
    intro h0
    simp only [numS_chs] at ih ⊢
    by_cases h : m < 10
    · rw [Nat.toDigits_of_lt_base h]
      have : ∀ d : Nat, d < 10 → 0 < d → 49 ≤ (Nat.digitChar d).toNat ∧ (Nat.digitChar d).toNat ≤ 57 := by decide
      exact ⟨_, [], rfl, this m h h0⟩
    · have hm : m % 10 < 10 := Nat.mod_lt m (by decide)
      have t : Nat.toDigits 10 (m / 10) ++ Nat.toDigits 10 (m % 10) = Nat.toDigits 10 (10 * (m / 10) + m % 10) := Nat.toDigits_append_toDigits (by decide) (by omega) hm
      rw [Nat.div_add_mod] at t
      rw [← t, List.map_append]
      obtain ⟨c, r, e, b⟩ := ih (m / 10) (by omega) (by omega)
      rw [e]
      exact ⟨c, r ++ _, rfl, b⟩
/-! lists -/
theorem at_map {α β : Type} (f : α → β) (l : List α) (k : Nat) (h : k < l.length) : atI (l.map f) (k : Int) = some (f l[k]) := by
  have h2 : ((k : Int) < (l.length : Int)) := by omega
  unfold atI ixN
  simp [h2, h]

theorem sizeL : sizeLine = 16777216 := by rw [sizeLine_eq]

theorem rng_ints (n : Nat) : rngD 0 n = ((List.range n).map fun i : Nat => (i : Int)).map .int := by
  unfold rngD
  rw [List.map_map]
  congr 1
  funext i
  simp

/-! loops that change nothing but their own name -/
theorem forL_keep {g : Gx} {b : Sx} {G : Gp} (I : Ev → Prop) : ∀ {xs : List Mi.D} {env : Ev}, (∀ d ∈ xs, ∀ e, I e → ∃ e1, g d e G = .ok e1 G ∧ ∃ e2, b e1 G = .nx e2 G ∧ I e2) → I env → ∃ e', forL g b xs env G = .nx e' G ∧ I e'
  | [], env, _, h => ⟨env, rfl, h⟩
  | d :: xs, env, hs, h => by
    obtain ⟨e1, h1, e2, h2, h3⟩ := hs d (List.mem_cons_self ..) env h
    obtain ⟨e', h4, h5⟩ := forL_keep I (fun d hd => hs d (List.mem_cons_of_mem _ hd)) h3
    refine ⟨e', ?_, h5⟩
    rw [forL_cons, h1]
    simp only [h2]
    exact h4
theorem mem_rng {d : Mi.D} {n : Nat} (h : d ∈ rngD 0 n) : ∃ j : Nat, d = .int j ∧ j < n := by
  unfold rngD at h
  obtain ⟨j, hj, rfl⟩ := List.mem_map.mp h
  exact ⟨j, by simp, by simpa using hj⟩

theorem ne_str (z : Str) (G : Gp) : dNe (.str z) (.str z) G = .ok (.bl false) G := by simp [dNe, dEqB, dScal]

theorem dMod_pos (i j : Int) (h : 0 < j) (G : Gp) : dMod (.int i) (.int j) G = .ok (.int (i % j)) G := if_pos h

theorem sum_one : ∀ l : List Str, (∀ z ∈ l, z.length = 1) → (l.map (·.length)).sum = l.length
  | [], _ => rfl
  | z :: l, h => by
    rw [List.map_cons, List.sum_cons, h z (List.mem_cons_self ..), sum_one l fun z hz => h z (List.mem_cons_of_mem _ hz), List.length_cons]; omega
theorem cut_ints (ks : List Int) (lo hi : Option Int) : cutD (ks.map .int) lo hi = ((ks.drop (HT.sIx ks.length 0 lo)).take (HT.sIx ks.length ks.length hi - HT.sIx ks.length 0 lo)).map .int := by
  unfold cutD
  rw [List.length_map, List.map_take, List.map_drop]

theorem for_rng {g : Gx} {b : Sx} {env : Ev} {G : Gp} (n : Int) (h0 : 0 ≤ n) (h : n ≤ 1000000) : mFor (iRng1m (mCons (mC (.int n)) mNil)) g b env G = forL g b (rngD 0 n.toNat) env G := by simp [h0, h]
/-! loops told by what is done -/
theorem forL_rel {g : Gx} {b : Sx} (P : List Mi.D → Ev → Gp → Prop) : ∀ {xs ys dn : List Mi.D} {env : Ev} {G : Gp}, (∀ dn d, d ∈ xs → ∀ env G, P dn env G → ∃ e1 G1, g d env G = .ok e1 G1 ∧ ∃ e2 G2, b e1 G1 = .nx e2 G2 ∧ P (dn ++ [d]) e2 G2) → P dn env G →
    ∃ e' G', forL g b (xs ++ ys) env G = forL g b ys e' G' ∧ P (dn ++ xs) e' G'
  | [], ys, dn, env, G, _, h => ⟨env, G, rfl, by simpa using h⟩
  | d :: xs, ys, dn, env, G, hs, h => by
    obtain ⟨e1, G1, h1, e2, G2, h2, h3⟩ := hs dn d (List.mem_cons_self ..) env G h
    obtain ⟨e', G', h4, h5⟩ := forL_rel P (xs := xs) (ys := ys) (fun dn d hd => hs dn d (List.mem_cons_of_mem _ hd)) h3
    refine ⟨e', G', ?_, by simpa using h5⟩
    rw [List.cons_append, forL_cons, h1]
    simp only [h2]
    exact h4
theorem forL_all {g : Gx} {b : Sx} (P : List Mi.D → Ev → Gp → Prop) {xs : List Mi.D} {env : Ev} {G : Gp} (hs : ∀ dn d, d ∈ xs → ∀ env G, P dn env G → ∃ e1 G1, g d env G = .ok e1 G1 ∧ ∃ e2 G2, b e1 G1 = .nx e2 G2 ∧ P (dn ++ [d]) e2 G2) (h : P [] env G) :
    ∃ e' G', forL g b xs env G = .nx e' G' ∧ P xs e' G' := by
  obtain ⟨e', G', h1, h2⟩ := forL_rel P (xs := xs) (ys := []) hs h
  rw [List.append_nil] at h1
  exact ⟨e', G', h1, by simpa using h2⟩
theorem lcL_map {i : Nat} {t : Tx} {e : Ex} {env : Ev} {G : Gp} (f : Mi.D → Mi.D) : ∀ {xs acc : List Mi.D}, (∀ d ∈ xs, t (env.set i (some d)) G = .ok true G ∧ e (env.set i (some d)) G = .ok (f d) G) → acc.length + xs.length ≤ sizeLine → lcL i t e env xs acc G = .ok (acc ++ xs.map f) G
  | [], acc, _, _ => by simp [lcL]
  | d :: xs, acc, hs, hl => by
    obtain ⟨h1, h2⟩ := hs d (List.mem_cons_self ..)
    have hl1 : acc.length < sizeLine := by simp at hl; omega
    have ih := lcL_map (t := t) (e := e) (env := env) (G := G) (i := i) f (xs := xs) (acc := acc ++ [f d]) (fun d hd => hs d (List.mem_cons_of_mem _ hd)) (by simp at hl ⊢; omega)
    unfold lcL
    simp only [h1, Out.nox, Out.bind_ok, if_true, h2, hl1, ih]
    simp
theorem lcL_filter {i : Nat} {t : Tx} {e : Ex} {env : Ev} {G : Gp} (p : Mi.D → Bool) (f : Mi.D → Mi.D) : ∀ {xs acc : List Mi.D}, (∀ d ∈ xs, t (env.set i (some d)) G = .ok (p d) G ∧ (p d = true → e (env.set i (some d)) G = .ok (f d) G)) → acc.length + xs.length ≤ sizeLine → lcL i t e env xs acc G = .ok (acc ++ (xs.filter p).map f) G
  | [], acc, _, _ => by simp [lcL]
  | d :: xs, acc, hs, hl => by
    obtain ⟨h1, h2⟩ := hs d (List.mem_cons_self ..)
    have hl1 : acc.length < sizeLine := by simp at hl; omega
    unfold lcL
    cases hp : p d with
    | true =>
      have ih := lcL_filter (t := t) (e := e) (env := env) (G := G) (i := i) p f (xs := xs) (acc := acc ++ [f d]) (fun d hd => hs d (List.mem_cons_of_mem _ hd)) (by simp at hl ⊢; omega)
      simp only [h1, hp, Out.nox, Out.bind_ok, if_true, h2 hp, hl1, ih]
      simp [hp]
    | false =>
      have ih := lcL_filter (t := t) (e := e) (env := env) (G := G) (i := i) p f (xs := xs) (acc := acc) (fun d hd => hs d (List.mem_cons_of_mem _ hd)) (by simp at hl ⊢; omega)
      simp only [h1, hp, Out.nox, Out.bind_ok, Bool.false_eq_true, if_false, ih]
      simp [hp]
theorem strsOf_map : ∀ l : List Str, strsOf (l.map .str) = some l
  | [] => rfl
  | x :: l => by simp [strsOf, strsOf_map l]
theorem log_lt {m k : Nat} (hk : 0 < k) (h : m < 2 ^ k) : m.log2 < k := by
  by_cases h0 : m = 0
  · subst h0; simpa [Nat.log2_zero] using hk
  · exact (Nat.log2_lt h0).mpr h
theorem dStr_nat (m : Nat) (h : m < 10 ^ 60) (G : Gp) : dStr [.int (m : Int)] G = .ok (.str (numS (m : Int))) G := by
  have h2 : m < 2 ^ 200 := Nat.lt_trans h (by decide)
  have h3 : (m : Int).natAbs.log2 < 1920 := Nat.lt_trans (log_lt (k := 200) (by decide) (by rw [Int.natAbs_natCast]; exact h2)) (by decide)
  exact if_pos h3
theorem dInt_nat (m : Nat) (h : m < 10 ^ 60) (G : Gp) : dInt [.str (numS (m : Int))] G = .ok (.int (m : Int)) G := by
  have hl := numS_len (k := 60) (by decide) h
  simp only [dInt, numS_int (m := m) (by omega), if_pos (show (numS (m : Int)).length ≤ 640 by omega)]
theorem bsOf_map : ∀ l : List Bool, bsOf (l.map .bl) = some l
  | [] => rfl
  | x :: l => by simp [bsOf, bsOf_map l]
theorem dAll_bls (l : List Bool) (G : Gp) : dAll [.lst (l.map .bl)] G = .ok (.bl (l.all fun b => b)) G := by simp [dAll, lstOf, bsOf_map]
theorem dAny_bls (l : List Bool) (G : Gp) : dAny [.lst (l.map .bl)] G = .ok (.bl (l.any fun b => b)) G := by simp [dAny, lstOf, bsOf_map]
theorem ix0_str (c : Nat) (r : List Nat) (x : Str) (hx : chs x = c :: r) (hl : x.length ≤ sizeLine) (G : Gp) : dIx (.str x) (.int 0) G = .ok (.str ⟨#[c]⟩) G := by
  have h : atI x.cps.toList 0 = some c := by
    rw [show x.cps.toList = c :: r from hx]
    have := at_map id (c :: r) 0 (by simp)
    simpa using this
  simp only [dIx, seqOf, lstOf, hl, if_true, h]
theorem cut_to1 (c : Nat) (r : List Nat) (x : Str) (hx : chs x = c :: r) : cutS x none (some 1) = ⟨#[c]⟩ := by
  have hl : x.length = r.length + 1 := by rw [len_chs, hx, List.length_cons]
  have e : HT.sIx x.length x.length (some 1) = 1 := by
    have := HT.sIx_nat x.length x.length 1
    rw [show ((1 : Nat) : Int) = 1 from rfl] at this
    rw [this]; omega
  unfold cutS
  rw [e, HT.sIx_none, show x.cps.toList = c :: r from hx]
  rfl
theorem cut_from1 (c : Nat) (r : List Nat) (x : Str) (hx : chs x = c :: r) : cutS x (some 1) none = ⟨r.toArray⟩ := by
  have hl : x.length = r.length + 1 := by rw [len_chs, hx, List.length_cons]
  have e : HT.sIx x.length 0 (some 1) = 1 := by
    have := HT.sIx_nat x.length 0 1
    rw [show ((1 : Nat) : Int) = 1 from rfl] at this
    rw [this]; omega
  unfold cutS
  rw [e, HT.sIx_none, show x.cps.toList = c :: r from hx]
  simp [hl]
theorem mk_chs (x : Str) : (⟨(chs x).toArray⟩ : Str) = x := str_ext (by simp [chs])
theorem cons_app (c : Nat) (x : Str) : chs (⟨#[c]⟩ ++ x) = c :: chs x := by rw [chs_app]; rfl
/-! equality of single values -/
theorem dEq_str (a b : Str) (G : Gp) : dEq (.str a) (.str b) G = .ok (.bl (decide (a = b))) G := (rfl)
theorem dNe_str (a b : Str) (G : Gp) : dNe (.str a) (.str b) G = .ok (.bl (!decide (a = b))) G := (rfl)
theorem dEq_int (a b : Int) (G : Gp) : dEq (.int a) (.int b) G = .ok (.bl (decide (a = b))) G := (rfl)
theorem dNe_int (a b : Int) (G : Gp) : dNe (.int a) (.int b) G = .ok (.bl (!decide (a = b))) G := (rfl)
theorem dLen_str (x : Str) (h : x.length ≤ sizeLine) (G : Gp) : dLen [.str x] G = .ok (.int x.length) G := if_pos h
theorem dLen_lst (xs : List Mi.D) (G : Gp) : dLen [.lst xs] G = .ok (.int xs.length) G := (rfl)
theorem dLen_tup (xs : List Mi.D) (G : Gp) : dLen [.tup xs] G = .ok (.int xs.length) G := (rfl)
theorem one_sign {c d : Nat} : ((⟨#[c]⟩ : Str) = ⟨#[d]⟩) ↔ c = d := by
  constructor
  · intro h
    have := congrArg chs h
    simpa [chs] using this
  · rintro rfl; rfl
/-! calls -/
theorem callF_gen {f : Fm} {n : Nat} {ds ds' : List Mi.D} {G G2 : Gp} {d t : Mi.D} (hu : ds.map (untie G) = ds') (hn : ds.length = n) (hc : noCs ds' = true) (e : f ds' [] = .ok d G2) (ht : tree G2 d = some t) : callF f n ds G = .ok t G := by
  unfold callF
  rw [hu, if_pos ⟨hn, hc⟩, e]
  simp [ht]
theorem callA_ok {f : Fm} {n : Nat} {ds : List Mi.D} {G G2 : Gp} {d : Mi.D} (hn : ds.length = n) (hc : noCs ds = true) (e : f ds [] = .ok d G2) : callA f n ds G = .ok (shD G.length d) (G ++ G2.map (shO G.length)) := by
  unfold callA
  rw [unties_noC G ds hc, if_pos ⟨hn, hc⟩, e]
theorem shDs_ints (k : Nat) : ∀ l : List Int, shDs k (l.map .int) = l.map .int
  | [] => rfl
  | i :: l => by simp [shDs, shD, shDs_ints k l]
theorem map_len {α β : Type} (f : α → β) (l : List α) : (l.map f).length = l.length := List.length_map ..
/-! isinstance -/
theorem isi_str_str (z : Str) (G : Gp) : dIsi [.str z, .ty "str"] G = .ok (.bl true) G := by rfl
theorem isi_str_int (z : Str) (G : Gp) : dIsi [.str z, .ty "int"] G = .ok (.bl false) G := by rfl
theorem isi_str_bool (z : Str) (G : Gp) : dIsi [.str z, .ty "bool"] G = .ok (.bl false) G := by rfl
theorem isi_str_tuple (z : Str) (G : Gp) : dIsi [.str z, .ty "tuple"] G = .ok (.bl false) G := by rfl
theorem isi_str_list (z : Str) (G : Gp) : dIsi [.str z, .ty "list"] G = .ok (.bl false) G := by rfl
theorem isi_str_dict (z : Str) (G : Gp) : dIsi [.str z, .ty "dict"] G = .ok (.bl false) G := by rfl
theorem isi_int_str (z : Int) (G : Gp) : dIsi [.int z, .ty "str"] G = .ok (.bl false) G := by rfl
theorem isi_int_int (z : Int) (G : Gp) : dIsi [.int z, .ty "int"] G = .ok (.bl true) G := by rfl
theorem isi_int_bool (z : Int) (G : Gp) : dIsi [.int z, .ty "bool"] G = .ok (.bl false) G := by rfl
theorem isi_int_tuple (z : Int) (G : Gp) : dIsi [.int z, .ty "tuple"] G = .ok (.bl false) G := by rfl
theorem isi_int_list (z : Int) (G : Gp) : dIsi [.int z, .ty "list"] G = .ok (.bl false) G := by rfl
theorem isi_int_dict (z : Int) (G : Gp) : dIsi [.int z, .ty "dict"] G = .ok (.bl false) G := by rfl
theorem isi_bl_str (z : Bool) (G : Gp) : dIsi [.bl z, .ty "str"] G = .ok (.bl false) G := by rfl
theorem isi_bl_int (z : Bool) (G : Gp) : dIsi [.bl z, .ty "int"] G = .ok (.bl true) G := by rfl
theorem isi_bl_bool (z : Bool) (G : Gp) : dIsi [.bl z, .ty "bool"] G = .ok (.bl true) G := by rfl
theorem isi_bl_tuple (z : Bool) (G : Gp) : dIsi [.bl z, .ty "tuple"] G = .ok (.bl false) G := by rfl
theorem isi_bl_list (z : Bool) (G : Gp) : dIsi [.bl z, .ty "list"] G = .ok (.bl false) G := by rfl
theorem isi_bl_dict (z : Bool) (G : Gp) : dIsi [.bl z, .ty "dict"] G = .ok (.bl false) G := by rfl
theorem isi_non_str  (G : Gp) : dIsi [.non, .ty "str"] G = .ok (.bl false) G := by rfl
theorem isi_non_int  (G : Gp) : dIsi [.non, .ty "int"] G = .ok (.bl false) G := by rfl
theorem isi_non_bool  (G : Gp) : dIsi [.non, .ty "bool"] G = .ok (.bl false) G := by rfl
theorem isi_non_tuple  (G : Gp) : dIsi [.non, .ty "tuple"] G = .ok (.bl false) G := by rfl
theorem isi_non_list  (G : Gp) : dIsi [.non, .ty "list"] G = .ok (.bl false) G := by rfl
theorem isi_non_dict  (G : Gp) : dIsi [.non, .ty "dict"] G = .ok (.bl false) G := by rfl
theorem isi_tup_str (z : List Mi.D) (G : Gp) : dIsi [.tup z, .ty "str"] G = .ok (.bl false) G := by rfl
theorem isi_tup_int (z : List Mi.D) (G : Gp) : dIsi [.tup z, .ty "int"] G = .ok (.bl false) G := by rfl
theorem isi_tup_bool (z : List Mi.D) (G : Gp) : dIsi [.tup z, .ty "bool"] G = .ok (.bl false) G := by rfl
theorem isi_tup_tuple (z : List Mi.D) (G : Gp) : dIsi [.tup z, .ty "tuple"] G = .ok (.bl true) G := by rfl
theorem isi_tup_list (z : List Mi.D) (G : Gp) : dIsi [.tup z, .ty "list"] G = .ok (.bl false) G := by rfl
theorem isi_tup_dict (z : List Mi.D) (G : Gp) : dIsi [.tup z, .ty "dict"] G = .ok (.bl false) G := by rfl
theorem isi_lst_str (z : List Mi.D) (G : Gp) : dIsi [.lst z, .ty "str"] G = .ok (.bl false) G := by rfl
theorem isi_lst_int (z : List Mi.D) (G : Gp) : dIsi [.lst z, .ty "int"] G = .ok (.bl false) G := by rfl
theorem isi_lst_bool (z : List Mi.D) (G : Gp) : dIsi [.lst z, .ty "bool"] G = .ok (.bl false) G := by rfl
theorem isi_lst_tuple (z : List Mi.D) (G : Gp) : dIsi [.lst z, .ty "tuple"] G = .ok (.bl false) G := by rfl
theorem isi_lst_list (z : List Mi.D) (G : Gp) : dIsi [.lst z, .ty "list"] G = .ok (.bl true) G := by rfl
theorem isi_lst_dict (z : List Mi.D) (G : Gp) : dIsi [.lst z, .ty "dict"] G = .ok (.bl false) G := by rfl
theorem isi_dct_str (z : List (Key × Mi.D)) (G : Gp) : dIsi [.dct z, .ty "str"] G = .ok (.bl false) G := by rfl
theorem isi_dct_int (z : List (Key × Mi.D)) (G : Gp) : dIsi [.dct z, .ty "int"] G = .ok (.bl false) G := by rfl
theorem isi_dct_bool (z : List (Key × Mi.D)) (G : Gp) : dIsi [.dct z, .ty "bool"] G = .ok (.bl false) G := by rfl
theorem isi_dct_tuple (z : List (Key × Mi.D)) (G : Gp) : dIsi [.dct z, .ty "tuple"] G = .ok (.bl false) G := by rfl
theorem isi_dct_list (z : List (Key × Mi.D)) (G : Gp) : dIsi [.dct z, .ty "list"] G = .ok (.bl false) G := by rfl
theorem isi_dct_dict (z : List (Key × Mi.D)) (G : Gp) : dIsi [.dct z, .ty "dict"] G = .ok (.bl true) G := by rfl
end Mi

set_option maxHeartbeats 4000000
/-! MiI: attributes, stores by place, dicts: displays, get, comprehensions, locks. -/
namespace Mi
open PySem PySem.Spec PyProof.Rows L2

/-! ### attributes -/
/-- classes whose instances keep the name f -/
def AtC (K : PySem.W.Frag) (mg : Str → Option Value) (cs : List Str) (f : Str) : Prop := ∀ c, cs.contains c = true → ∀ C, mg c = some (.ref C) → Cls K C ∧ NoAttr K C f
def mFld (cs : List Str) (f : Str) (a : Ex) : Ex := fun env G => (a env G).bind fun d G1 => match insOf G1 d with
  | some (c, fs) => if cs.contains c = true then (match fs.lookup f with
    | some v => .ok v G1
    | none => .bad) else .bad
  | none => .bad
/-- put in its place, or at the end -/
def putFD (f : Str) (v : Mi.D) : List (Str × Mi.D) → List (Str × Mi.D)
  | [] => [(f, v)]
  | (g, x) :: r => if g = f then (g, v) :: r else (g, x) :: putFD f v r
theorem RepF.put {Z : Ct} {F : Hp} {ro : List Addr} {f : Str} {d : Mi.D} {v : V} (rv : Rep Z F ro d v) : ∀ {ds : List (Str × Mi.D)} {vs : List (Str × V)}, RepF Z F ro ds vs → RepF Z F ro (putFD f d ds) (putF f v vs)
  | _, _, .nil => .cons rv .nil
  | _, _, .cons (k := k) r rs => by
    unfold putFD putF
    by_cases e : k = f
    · rw [if_pos e, if_pos e]; exact .cons rv rs
    · rw [if_neg e, if_neg e]; exact .cons r (RepF.put rv rs)
theorem RepF.length {Z : Ct} {F : Hp} {ro : List Addr} : ∀ {ds : List (Str × Mi.D)} {vs : List (Str × V)}, RepF Z F ro ds vs → ds.length = vs.length
  | _, _, .nil => rfl
  | _, _, .cons _ rs => by simp [RepF.length rs]
theorem RepF.no {Z : Ct} {F : Hp} {ro : List Addr} {f : Str} : ∀ {ds : List (Str × Mi.D)} {vs : List (Str × V)}, RepF Z F ro ds vs → ds.lookup f = none → vs.lookup f = none
  | _, _, .nil, _ => rfl
  | _, _, .cons (k := k) r rs, h => by
    simp only [List.lookup_cons] at h ⊢
    split at h
    · cases h
    · exact RepF.no rs h
theorem cell_ins {Z : Ct} {F H : Hp} {ro : List Addr} {G : Gp} (ok : Ok Z F ro H G) {n : Nat} {v : V} {c : Str} {xs : List (Str × Mi.D)} (r : Rep Z F ro (.cel n) v) (h : G[n]? = some (.ins c xs)) :
    ∃ a C dx vs, v = .ref a ∧ ro[n]? = some a ∧ F a = none ∧ Z.mg c = some (.ref C) ∧ H a = some (.ins C dx vs) ∧ RepF Z F ro xs vs := by
  cases r with
  | @cel n a e =>
    rcases ok.cell n _ a h e with ⟨d, q, _⟩ | ⟨q, c⟩
    · cases q
    · generalize eH : H a = oh at c
      cases c with
      | ins hc rs => exact ⟨a, _, _, _, rfl, e, q, hc, eH, rs⟩
/-- o.f = v by values -/
def rFldS (K : PySem.W.Frag) (f : Str) : V → V → Hp → (Hp → Prop) → Prop := fun x y H Q => ∃ a C dx fs, x = .ref a ∧ H a = some (.ins C dx fs) ∧ Cls K C ∧ NoAttr K C f ∧ fs.length < 1000 ∧ Q (upd H a (.ins C dx (putF f y fs)))
def fFldS (cs : List Str) (f : Str) : Mi.D → Mi.D → Gp → Option Gp
  | .cel n, v, G => (match G[n]? with
    | some (.ins c fs) => if cs.contains c = true ∧ fs.length < 1000 then some (G.set n (.ins c (putFD f v fs))) else none
    | _ => none)
  | _, _, _ => none
section
variable {X : Cx} {W : WX} {pos pos' : Pos} {cs : List Str} {f : Str} {e o : Expr} {me mo : Ex}
theorem em_fld (hT : AtC X.K X.mg cs f) (he : PEm X W e me) (hb : attributeBase e f X.env (eval e X.env) = eval e X.env := by rfl) : PEm X W (.Attribute e f pos) (mFld cs f me) :=
  PE.imp (pe_fld he hb) fun σ H Q ⟨F, ro, G, env, ok, ev, h⟩ => by
    refine ⟨F, ro, G, env, ok, ev, (PostB (R := RD (ct X)) h).imp fun v H1 ⟨F1, ro1, d1, G1, n1, ok1, r1, h1⟩ => ?_⟩
    cases e1 : insOf G1 d1 with
    | none => rw [e1] at h1; exact h1.elim
    | some p =>
      obtain ⟨c, fs⟩ := p
      rw [e1] at h1
      simp only at h1
      split at h1
      · rename_i hc
        cases e2 : fs.lookup f with
        | none => rw [e2] at h1; exact h1.elim
        | some d =>
          rw [e2] at h1
          obtain ⟨a, C, dx, vs, rfl, hC, hH, rf⟩ := insOf_ok ok1 r1 e1
          obtain ⟨v, hl, rv⟩ := RepF.look rf e2
          obtain ⟨c1, c2⟩ := hT c hc C hC
          exact ⟨a, C, dx, vs, v, rfl, hH, c1, c2, hl, h1.ok ok1 rv⟩
      · exact h1.elim
/-- o.f as a target -/
def gFldV (K : PySem.W.Frag) (to : TE) (f : Str) : L2.TG := fun v σ H Q => to σ H fun x H1 => rFldS K f x v H1 fun H2 => Q σ H2
theorem pg_fld {to : TE} (ho : PE X o to) : PG X (.Attribute o f pos) (gFldV X.K to f) := by
  refine ⟨fun pins s σ H v u Q I r h => ?_⟩
  rw [arm_assign_Attribute]
  refine wpAny_bind (wpAny_holding (thn (ho.run pins s σ H _ I h) fun ov s1 ⟨x, H1, I1, r1, a, C, dx, fs, ex, ea, c, n, l, q1⟩ => ?_))
  subst ex
  obtain rfl : ov = Value.ref a := r1
  refine wpAny_bind (wpAny_standAt (wpAny_bind (wpAny_holding (setattr_ok I1 ea c n l r fun s3 I3 => ?_))))
  exact wpAny_release ⟨σ, _, I3, q1⟩
def gFld (cs : List Str) (f : Str) (o : Ex) : Gx := fun v env G => (o env G).bind fun x G1 => match fFldS cs f x v G1 with
  | some G2 => .ok env G2
  | none => .bad
/-- a target that is asked for its place first: nothing is raised in it -/
theorem post_tg {α : Type} {Z : Ct} {R : Hp → List Addr → α → V → Prop} {F H : Hp} {ro : List Addr} {σ : L2.St} {Q : L2.St → Hp → Prop} {k : α → Gp → Out Ev} : ∀ {r : Out α}, (match r.bind k with
    | .ok e' G' => ∀ F' ro' H' σ', Nx F ro H F' ro' H' → Ok Z F' ro' H' G' → Evs Z F' ro' e' σ' → Q σ' H'
    | _ => False) → Post Z WF R F ro H σ (fun v H1 => ∃ F1 ro1 d G1, Nx F ro H F1 ro1 H1 ∧ Ok Z F1 ro1 H1 G1 ∧ R F1 ro1 d v ∧ (match k d G1 with
      | .ok e' G' => ∀ F' ro' H' σ', Nx F1 ro1 H1 F' ro' H' → Ok Z F' ro' H' G' → Evs Z F' ro' e' σ' → Q σ' H'
      | _ => False)) r
  | .ok d G', h => fun F2 ro2 H2 v n2 ok r => by
    refine ⟨F2, ro2, d, G', n2, ok, r, ?_⟩
    simp only [Out.bind_ok] at h
    cases q : k d G' with
    | ok e2 G2 => rw [q] at h; exact fun F' ro' H' σ' n => h F' ro' H' σ' (n2.trans n)
    | exc _ _ _ => rw [q] at h; exact h
    | bad => rw [q] at h; exact h
  | .exc c fs G', h => h.elim
  | .bad, h => h.elim
theorem Ok.wr_fld {Z : Ct} {F H : Hp} {ro : List Addr} {G G2 : Gp} (ok : Ok Z F ro H G) {x d : Mi.D} {vx v : V} (hT : AtC Z.K Z.mg cs f) (rx : Rep Z F ro x vx) (rd : Rep Z F ro d v) (h : fFldS cs f x d G = some G2) {Q : Hp → Prop}
    (q : ∀ H', Ok Z F ro H' G2 → Nx F ro H F ro H' → Q H') : rFldS Z.K f vx v H Q := by
  have rx' := rx
  cases rx with
  | @cel n a e =>
    simp only [fFldS] at h
    split at h
    · rename_i c fs hG
      split at h
      · rename_i hc
        cases h
        obtain ⟨a', C, dx, vs, ea, e1, e2, e3, e4, e5⟩ := cell_ins ok rx' hG
        cases ea
        obtain ⟨c1, c2⟩ := hT c hc.1 C e3
        have hl : vs.length < 1000 := by rw [← RepF.length e5]; exact hc.2
        obtain ⟨y1, y2⟩ := ok.write e1 e2 (.ins e3 (RepF.put rd e5) : CellIs Z F ro (.ins c (putFD f d fs)) (some (.ins C dx (putF f v vs)))) (nofrz e4 fun o w z => by cases z)
        exact ⟨a, C, dx, vs, rfl, e4, c1, c2, hl, q _ y1 y2⟩
      · cases h
    · cases h
  | _ => simp [fFldS] at h
theorem gm_fld (hT : AtC X.K X.mg cs f) (ho : PEm X WF o mo) : PGm X (.Attribute o f pos) (gFld cs f mo) := PG.imp (pg_fld ho) fun v σ H Q ⟨F, ro, G, env, d, ok, ev, r, h⟩ => by
  refine ⟨F, ro, G, env, ok, ev, (post_tg (R := RD (ct X)) h).imp fun vx H1 ⟨F1, ro1, x, G1, n1, ok1, rx, h1⟩ => ?_⟩
  cases e : fFldS cs f x d G1 with
  | none => rw [e] at h1; exact h1.elim
  | some G2 =>
    rw [e] at h1
    exact ok1.wr_fld hT rx (r.nx n1) e fun H' ok2 n2 => h1 F1 ro1 H' σ n2 ok2 ((ev.nx n1).nx n2)
end
/-! ### stores by place -/
def putD (xs : List (Key × Mi.D)) (k : Key) (v : Mi.D) : List (Key × Mi.D) := if (xs.any fun kv => decide (kv.1 = k)) = true then xs.map (fun kv => if kv.1 = k then (kv.1, v) else kv) else xs ++ [(k, v)]
theorem RepK.any {Z : Ct} {F : Hp} {ro : List Addr} (k : Key) : ∀ {xs : List (Key × Mi.D)} {vs : List (Key × V)}, RepK Z F ro xs vs → (xs.any fun kv => decide (kv.1 = k)) = vs.any fun kv => decide (kv.1 = k)
  | _, _, .nil => rfl
  | _, _, .cons r rs => by simp only [List.any_cons, RepK.any k rs]
theorem RepK.append {Z : Ct} {F : Hp} {ro : List Addr} : ∀ {a b : List (Key × Mi.D)} {x y : List (Key × V)}, RepK Z F ro a x → RepK Z F ro b y → RepK Z F ro (a ++ b) (x ++ y)
  | _, _, _, _, .nil, r => r
  | _, _, _, _, .cons r rs, q => .cons r (RepK.append rs q)
theorem RepK.repl {Z : Ct} {F : Hp} {ro : List Addr} (k : Key) {d : Mi.D} {v : V} (rv : Rep Z F ro d v) : ∀ {xs : List (Key × Mi.D)} {vs : List (Key × V)}, RepK Z F ro xs vs →
    RepK Z F ro (xs.map fun kv => if kv.1 = k then (kv.1, d) else kv) (vs.map fun kv => if kv.1 = k then (kv.1, v) else kv)
  | _, _, .nil => .nil
  | _, _, .cons (k := k2) r rs => by
    simp only [List.map_cons]
    by_cases e : k2 = k
    · rw [if_pos e, if_pos e]; exact .cons rv (RepK.repl k rv rs)
    · rw [if_neg e, if_neg e]; exact .cons r (RepK.repl k rv rs)
theorem RepK.put {Z : Ct} {F : Hp} {ro : List Addr} (k : Key) {d : Mi.D} {v : V} (rv : Rep Z F ro d v) {xs : List (Key × Mi.D)} {vs : List (Key × V)} (r : RepK Z F ro xs vs) : RepK Z F ro (putD xs k d) (putK vs k v) := by
  unfold putD putK
  rw [RepK.any k r]
  by_cases h : (vs.any fun kv => decide (kv.1 = k)) = true
  · rw [if_pos h, if_pos h]; exact RepK.repl k rv r
  · rw [if_neg h, if_neg h]; exact RepK.append r (.cons rv .nil)
def fSub : Mi.D → Mi.D → Mi.D → Gp → Option Gp
  | .cel n, i, v, G => (match G[n]? with
    | some (.lst xs) => (match i with
      | .int k => (ixN xs.length k).map fun j => G.set n (.lst (xs.set j v))
      | _ => none)
    | some (.dct xs) => (match keyOf i with
      | some k => if xs.length < sizeLine then some (G.set n (.dct (putD xs k v))) else none
      | none => none)
    | _ => none)
  | _, _, _, _ => none
theorem Reps.set {Z : Ct} {F : Hp} {ro : List Addr} {d : Mi.D} {v : V} (r : Rep Z F ro d v) : ∀ {xs : List Mi.D} {vs : List V} (j : Nat), Reps Z F ro xs vs → Reps Z F ro (xs.set j d) (vs.set j v)
  | _, _, _, .nil => by simp only [List.set_nil]; exact .nil
  | _, _, 0, .cons _ rs => .cons r rs
  | _, _, j + 1, .cons q rs => .cons q (Reps.set r j rs)
abbrev rSubA : TSet := fun o i v H Q => rSetL o i v H Q ∨ rSetD o i v H Q
section
variable {X : Cx} {W : WX} {pos pos' : Pos} {e o i : Expr} {me mo mi : Ex}
theorem PSet.or {t u : TSet} (h : PSet X t) (k : PSet X u) : PSet X (fun o i v H Q => t o i v H Q ∨ u o i v H Q) := fun pins s σ H o i v ov iv w Q I ro ri rv q => q.elim (h pins s σ H o i v ov iv w Q I ro ri rv) (k pins s σ H o i v ov iv w Q I ro ri rv)
theorem set_any (hu : X.A.units + 1 < cLine) : PSet X rSubA := PSet.or set_list (set_dict hu)
theorem Ok.wr_sub {Z : Ct} {F H : Hp} {ro : List Addr} {G G2 : Gp} (ok : Ok Z F ro H G) {x y d : Mi.D} {vx vy v : V} (rx : Rep Z F ro x vx) (ry : Rep Z F ro y vy) (rd : Rep Z F ro d v) (h : fSub x y d G = some G2) {Q : Hp → Prop}
    (q : ∀ H', Ok Z F ro H' G2 → Nx F ro H F ro H' → Q H') : rSubA vx vy v H Q := by
  have rx' := rx
  cases rx with
  | @cel n a e =>
    simp only [fSub] at h
    split at h
    · rename_i xs hG
      split at h
      · rename_i k
        cases ry
        cases ej : ixN xs.length k with
        | none => rw [ej] at h; cases h
        | some j =>
          rw [ej] at h
          cases h
          obtain ⟨a', vs, ea, e1, e2, e3, e4⟩ := cell_lst ok rx' hG
          cases ea
          obtain ⟨y1, y2⟩ := ok.write e1 e2 (.lst (Reps.set rd j e4) : CellIs Z F ro (.lst (xs.set j d)) (some (.lst (vs.set j v)))) (nofrz e3 fun o w z => by cases z)
          exact .inl ⟨a, vs, k, j, rfl, rfl, e3, by rw [← Reps.length e4]; exact ej, q _ y1 y2⟩
      · cases h
    · rename_i xs hG
      cases ek : keyOf y with
      | none => rw [ek] at h; cases h
      | some k =>
        rw [ek] at h
        simp only at h
        split at h
        · rename_i hl
          cases h
          obtain ⟨a', vs, ea, e1, e2, e3, e4⟩ := cell_dct ok rx' hG
          cases ea
          have ev := key_rep ry ek
          subst ev
          obtain ⟨y1, y2⟩ := ok.write e1 e2 (.dct (RepK.put k rd e4) : CellIs Z F ro (.dct (putD xs k d)) (some (.dK (putK vs k v)))) (nofrz e3 fun o w z => by cases z)
          exact .inr ⟨a, _, rfl, DPut.k e3 (by rw [← RepK.length e4]; exact hl), q _ y1 y2⟩
        · cases h
    · cases h
  | _ => simp [fSub] at h
def gSubM (o i : Ex) : Gx := fun v env G => (o env G).bind fun x G1 => (i env G1).bind fun y G2 => match fSub x y v G2 with
  | some G3 => .ok env G3
  | none => .bad
theorem gm_sub (hu : X.A.units + 1 < cLine) (ho : PEm X WF o mo) (hi : PEm X WF i mi) (ha : ∀ v, assign (.Subscript o i pos) X.env v = (do
      let ov ← holding [v] (eval o X.env)
      let iv ← holding [v, ov] (eval i X.env)
      standAt pos
      holding [v, ov, iv] (setItem ov iv v)
      release [v, ov, iv] []) := by intro _; rfl) : PGm X (.Subscript o i pos) (gSubM mo mi) := PG.imp (pg_sub ho hi (set_any hu) ha) fun v σ H Q ⟨F, ro, G, env, d, ok, ev, r, h⟩ => by
  refine ⟨F, ro, G, env, ok, ev, (post_tg (R := RD (ct X)) h).imp fun vx H1 ⟨F1, ro1, x, G1, n1, ok1, rx, h1⟩ => ?_⟩
  refine ⟨F1, ro1, G1, env, ok1, ev.nx n1, (post_tg (R := RD (ct X)) h1).imp fun vy H2 ⟨F2, ro2, y, G2, n2, ok2, ry, h2⟩ => ?_⟩
  cases e : fSub x y d G2 with
  | none => rw [e] at h2; exact h2.elim
  | some G3 =>
    rw [e] at h2
    exact ok2.wr_sub (rx.nx n2) ry ((r.nx n1).nx n2) e fun H' ok3 n3 => h2 F2 ro2 H' σ n3 ok3 (((ev.nx n1).nx n2).nx n3)
end
end Mi

set_option maxHeartbeats 4000000
/-! MiJ0: {**d, k: v}. -/
namespace Mi
open PySem PySem.Spec PyProof.Rows L2
section
variable {prog : Program} {w : World} {κ : Type} [DecidableEq κ] {kd : KeyKind prog w κ} {A : Around} {E : Value → Shared → Prop} {s : Shared}
theorem put_pairs {D : Addr} {ws : List (κ × Value)} {k : κ} {y u : Value} {Q : Unit → Shared → Prop} (hy : kd.is k y = true) (dd : s.heap.DictOf kd D ws)
    (q : ∀ h', h'.DictOf kd D (stored ws k u) → Heap.SameBut D s.heap h' → Q () { s with heap := h' }) (hz : ws.length ≤ sizeLine) : wpAny (model prog w) A (dictPut D (kd.hash k) y u) Q E s := by
  obtain ⟨ob, en, ne, g1, g2, g3, g4, g5, g6⟩ := dd
  have z2 : en.size ≤ sizeLine := by
    have := g5.length
    have e2 : en.toList.length = en.size := by simp
    omega
  unfold dictPut
  refine wpAny_bind (wpAny_dictFind_of hy g1 g3 g4 ?_)
  have fi : (en.findIdx? fun e => kd.is k e.key) = ws.findIdx? fun kv => decide (kv.1 = k) := by
    rw [← g5.findIdx k]
    obtain ⟨l⟩ := en
    simp
  cases hi : en.findIdx? fun e => kd.is k e.key with
  | some i =>
    refine wpAny_updateDict g1 g3 (q _ ⟨_, _, ne, Heap.get?_update_self _ g1 (Obj.isFreed_of_dict (Obj.data_mapDict g3 _)), g2.mapDict _, Obj.data_mapDict g3 _, g4.modify _ _, ?_, ?_⟩ (Heap.SameBut.update ..))
    · rw [stored, if_pos (any_of_findIdx_some (fi ▸ hi))]
      have hl : (en.toList.findIdx? fun e => kd.is k e.key) = some i := by
        rw [← hi]
        obtain ⟨l⟩ := en
        simp
      have := g5.modify g6 hl u
      obtain ⟨l⟩ := en
      simpa using this
    · rw [stored, if_pos (any_of_findIdx_some (fi ▸ hi)), keys_map_store]
      exact g6
  | none =>
    have nin : k ∉ ws.map (·.1) := not_mem_of_findIdx_none (fi ▸ hi)
    have nany : ¬ (ws.any fun kv => decide (kv.1 = k)) = true := by
      rw [List.any_eq_true]
      rintro ⟨kv, m1, m2⟩
      exact nin (List.mem_map.mpr ⟨kv, m1, of_decide_eq_true m2⟩)
    refine wpAny_updateDictKeys (hz := z2) g1 g3 (q _ ⟨_, _, ne + 1, Heap.get?_update_self _ g1 (Obj.isFreed_of_dict (Obj.data_mapDictKeys g3 _)), g2.mapDictKeys _, Obj.data_mapDictKeys g3 _, g4.push hy _, ?_, ?_⟩ (Heap.SameBut.update ..))
    · rw [stored, if_neg nany]
      have := g5.append hy (kd.hash k) u
      obtain ⟨l⟩ := en
      simpa using this
    · rw [stored, if_neg nany, List.map_append, List.nodup_append]
      refine ⟨g6, by simp, fun a ha b hb => ?_⟩
      simp only [List.map_cons, List.map_nil, List.mem_singleton] at hb
      subst hb
      exact fun e => nin (e ▸ ha)
theorem merge_pairs {D S : Addr} {ws more : List (κ × Value)} {Q : Unit → Shared → Prop} (hDS : D ≠ S) (hS : (S == sysModules) = false) (dD : s.heap.DictOf kd D ws) (dS : s.heap.DictOf kd S more) (nr : ∀ k v, kd.is k v = true → ∀ a, v ≠ .ref a)
    (q : ∀ h', h'.DictOf kd D (merged ws more) → h'.DictOf kd S more → Heap.SameBut D s.heap h' → Q () { s with heap := h' }) (hz : ws.length + more.length ≤ sizeLine) : wpAny (model prog w) A (mergeMapping D (.ref S) false) Q E s := by
  obtain ⟨oD, eD, nD, a1, a2, a3, a4, a5, a6⟩ := id dD
  obtain ⟨oS, eS, nS, b1, b2, b3, b4, b5, b6⟩ := id dS
  unfold mergeMapping
  refine wpAny_bind (wpAny_isInstance dS.typeIs isSubtype_dict_dict ?_)
  simp only [if_true]
  refine wpAny_bind (wpAny_specialOf dS.typeIs F.slot_dict_iter.lookup (wpAny_bind (wpAny_pure ?_)))
  simp only [beq_self_eq_true, hS, Bool.false_eq_true, if_false]
  have loop : ∀ (P : Unit → Shared → Prop), (∀ h', h'.DictOf kd D (merged ws more) → h'.DictOf kd S more → Heap.SameBut D s.heap h' → P () { s with heap := h' }) → wpAny (model prog w) A (do
      let l ← dictEntries S
      let size : Nat := l.size
      let epoch ← dictEpoch S
      forIn (List.range size) PUnit.unit fun i (_ : PUnit) => (do
        let l2 ← dictEntries S
        match l2[i]? with
        | some e => do
          holding [e.key, e.val] (dictPut D e.hash e.key e.val)
          let ep ← dictEpoch S
          if (ep != epoch) = true then do
            unsupported "dict.changed-during-merge"
            pure (ForInStep.yield PUnit.unit)
          else pure (ForInStep.yield PUnit.unit)
        | _ => do
          unsupported "dict.changed-during-merge"
          pure (ForInStep.yield PUnit.unit) : Sem (ForInStep PUnit))
      pure ()) P E s := by
    intro P hP
    have hlen : more.length = eS.size := by rw [← b5.length]; simp
    refine wpAny_bind (wpAny_dictEntries b1 b3 (wpAny_bind (wpAny_dictEpoch b1 b3 (wpAny_bind ?_))))
    refine wpAny_forIn_list _ (fun rest _ s2 => ∃ h2 j, s2 = { s with heap := h2 } ∧ rest = (List.range eS.size).drop j ∧ j ≤ eS.size ∧ h2.DictOf kd D (merged ws (more.take j)) ∧ h2.get? S = some oS ∧ Heap.SameBut D s.heap h2)
      _ ?_ ?_ _ _ ⟨s.heap, 0, rfl, by simp, Nat.zero_le _, by simpa [merged] using dD, b1, Heap.SameBut.refl _ _⟩
    · rintro x rest b s2 ⟨h2, j, rfl, hr, hj, dj, gj, sj⟩
      have hlt : j < eS.size := by
        rcases Nat.lt_or_ge j eS.size with h | h
        · exact h
        · rw [List.drop_of_length_le (by simpa using h)] at hr
          cases hr
      rw [List.drop_eq_getElem_cons (by simpa using hlt)] at hr
      injection hr with e1 e2
      have e3 : x = j := by simpa using e1
      subst e3
      refine wpAny_bind (wpAny_dictEntries gj b3 ?_)
      rw [Array.getElem?_eq_getElem hlt]
      obtain ⟨⟨k, v⟩, hkv⟩ : ∃ kv, more[x]? = some kv := ⟨more[x]'(by rw [hlen]; exact hlt), List.getElem?_eq_getElem _⟩
      obtain ⟨c1, c2⟩ := b5.get? (e := eS[x]) (by simp [hlt]) hkv
      obtain ⟨k2, c3, c4⟩ := b4 eS[x] (Array.getElem_mem hlt)
      obtain rfl : k2 = k := kd.inj _ _ _ c3 c1
      show wpAny _ _ (holding [eS[x].key, eS[x].val] (dictPut D eS[x].hash eS[x].key eS[x].val) >>= _) _ _ _
      rw [c4, c2]
      have hm2 : (merged ws (more.take x)).length ≤ sizeLine := by
        have q1 := merged_length_le ws (more.take x)
        have q2 : (more.take x).length ≤ more.length := by rw [List.length_take]; omega
        omega
      refine wpAny_bind (wpAny_holding (put_pairs c1 dj (fun h3 d3 s3 => ?_) hm2))
      have g3 : h3.get? S = some oS := (s3.2 S (Ne.symm hDS)).trans gj
      refine wpAny_bind (wpAny_dictEpoch g3 b3 ?_)
      rw [if_neg (by simp)]
      exact wpAny_pure ⟨h3, x + 1, rfl, e2, hlt, by rw [merged_take_succ ws more x (k2, v) hkv]; exact d3, g3, sj.trans s3⟩
    · rintro b s2 ⟨h2, j, rfl, hr, hj, dj, gj, sj⟩
      have hje : j = eS.size := by
        rcases Nat.lt_or_ge j eS.size with h | h
        · rw [List.drop_eq_getElem_cons (by simpa using h)] at hr
          cases hr
        · exact Nat.le_antisymm hj h
      refine wpAny_pure (hP h2 ?_ ⟨oS, eS, nS, gj, b2, b3, b4, b5, b6⟩ sj)
      rw [hje, ← hlen, List.take_length] at dj
      exact dj
  refine wpAny_bind (wpAny_dictEntries a1 a3 ?_)
  by_cases hem : eD.isEmpty = true
  · simp only [hem, if_true]
    refine wpAny_bind (wpAny_dictEntries b1 b3 ?_)
    refine wpAny_bind ?_
    rw [← Array.forIn_toList]
    refine wpAny_forIn_list _ (fun rest _ s2 => s2 = s ∧ ∀ e ∈ rest, e ∈ eS.toList) _ ?_ ?_ _ _ ⟨rfl, fun e m => m⟩
    · rintro x rest b s2 ⟨rfl, hr⟩
      obtain ⟨k, c1, c2⟩ := b4 x (by simpa using hr x (List.mem_cons_self ..))
      have nx := nr k _ c1
      have hgo : ∀ e ∈ rest, e ∈ eS.toList := fun e m => hr e (List.mem_cons_of_mem _ m)
      cases hk : x.key with
      | ref a => exact absurd hk (nx a)
      | _ => exact wpAny_pure ⟨rfl, hgo⟩
    · rintro b s2 ⟨rfl, hr⟩
      exact loop _ q
  · simp only [hem, if_false]
    refine loop _ q
end
theorem mix_nr (P : Program) (w : World) : ∀ (k : Key) (v : Value), (mixKind P w).is k v = true → ∀ a, v ≠ .ref a := fun k v h a z => by
  subst z
  rcases keyIs_shape h with ⟨i, t, _, e⟩ | ⟨x, t, _, e⟩ <;> cases e
theorem disp_star (m k v : Sem Value) : dictDisplay [(none, m), (some k, v)] = (do
    let d ← alloc { cls := .type "dict", data := .dict #[] }
    let mv ← holding [.ref d] m
    (((holding [.ref d, mv] (mergeMapping d mv false)).onRaise fun x => do let _ ← holding [.ref d, mv, x] (runValue (.builtin "proto.let_go" {}))).tryCatch fun e => do
      if ← isInstance e (.type "AttributeError") then
        rule "dict.display.not-a-mapping"; raiseError "TypeError" s!"'{← typeNameOf mv}' object is not a mapping"
      throw e).onRaise fun x => do let _ ← holding [.ref d, x] (runValue (.builtin "proto.let_go" {}))
    let sub ← holding [.ref d] (subDict [(k, v)])
    (holding [.ref d, .ref sub] (mergeMapping d (.ref sub) false)).onRaise fun x => do let _ ← holding [.ref d, x] (runValue (.builtin "proto.let_go" {}))
    pure (.ref d)) := by
  unfold dictDisplay
  simp
/-- {**m, k: v}: D the new dict, p the one of the pair -/
def tStar (tm tk tv : TE) : TE := fun σ H Q => ∀ D, H D = none → tm σ (upd H D (.dK [])) fun x H1 => H1 D = some (.dK []) ∧ ∃ a kvs, x = .ref a ∧ a ≠ D ∧ Rd H1 a (.dK kvs) ∧ ∀ p, upd H1 D (.dK kvs) p = none →
  tPairs [(tk, tv)] σ (upd (upd H1 D (.dK kvs)) p (.dK [])) fun ps H3 => ∃ y z, ps = [(y, z)] ∧ H3 p = some (.dK []) ∧ H3 D = some (.dK kvs) ∧ ∃ k, y = kV k ∧ kvs.length < sizeLine ∧ Q (.ref D) (upd (upd H3 p (.dK [(k, z)])) D (.dK (putK kvs k z)))
theorem pe_star {X : Cx} {pos : Pos} {m k v : Expr} {tm tk tv : TE} (hm : PE X m tm) (hk : PE X k tk) (hv : PE X v tv) : PE X (.Dict [none, some k] [m, v] pos) (tStar tm tk tv) := by
  refine ⟨fun pins s σ H Q I q => ?_⟩
  rw [arm_eval_Dict]
  show wpAny _ _ (do standAt pos; dictDisplay [(none, do let x ← eval m X.env; standAt pos; pure x), (some (eval k X.env), do let x ← eval v X.env; standAt pos; pure x)]) _ _ _
  rw [disp_star]
  refine wpAny_bind (wpAny_standAt (wpAny_bind (wpAny_alloc ?_)))
  have I1 := I.laid (a := s.heap.objs.size) (o := .dK []) (h' := s.heap.push { cls := .type "dict", data := .dict #[] }) (t' := s.toks) (fun _ _ q => Heap.get?_push_of_some _ q) (Nat.le_refl _) (dk_empty s.heap I.big)
  refine wpAny_bind (wpAny_holding (wpAny_bind (thn (hm.run pins _ σ _ _ I1 (q _ (I.hok.fresh (Nat.le_refl _)))) fun u s2 ⟨x, H1, I2, rx, eD, a, kvs, ex, na, ra, q2⟩ => ?_)))
  subst ex
  obtain rfl : u = Value.ref a := rx
  refine wpAny_bind (wpAny_standAt (wpAny_pure ?_))
  obtain ⟨z1, hd1, vs1, r1, dd1⟩ := dk_rd I2.hok ra
  obtain ⟨z2, hd2, vs2, r2, dd2⟩ := dk_of I2.hok eD
  have e2 : vs2 = [] := by cases r2; rfl
  subst e2
  have nd : (vs1.map (·.1)).Nodup := let ⟨_, _, _, _, _, _, _, _, h⟩ := dd1; h
  have hz1 : vs1.length ≤ sizeLine := by rw [← r1.length]; exact z1
  refine wpAny_bind (wpAny_onRaise (wpAny_tryCatch (wpAny_onRaise (wpAny_holding (merge_pairs (Ne.symm na) hd1 dd2 dd1 (mix_nr _ _) (fun h2 dd3 dd4 sb => ?_) (by simpa using hz1))))))
  rw [merged_nil_of_nodup _ nd] at dd3
  have I3 := d_write (t' := s2.toks) I2 (by rw [eD]; exact True.intro) sb (let ⟨q, _, _, hq, _⟩ := dd3; ⟨q, hq⟩) (dk_new z1 hd2 r1 dd3)
  have I4 := I3.laid (a := h2.objs.size) (o := .dK []) (h' := h2.push { cls := .type "dict", data := .dict #[] }) (t' := s2.toks) (fun _ _ q => Heap.get?_push_of_some _ q) (Nat.le_refl _) (dk_empty h2 I3.big)
  have q3 := q2 _ (I3.hok.fresh (Nat.le_refl _))
  refine wpAny_bind (wpAny_holding (wpAny_subDict (knd := mixKind X.prog X.w) (by simp) ?_))
  have pp := (pps_cons (pos := pos) hk hv pps_nil).run pins _ σ _ _ I4 q3
  have nDp : s.heap.objs.size ≠ h2.objs.size := fun z => by
    have e := I3.hok.fresh (Nat.le_refl h2.objs.size)
    rw [← z, upd_same] at e
    cases e
  refine thn pp fun ws s3 ⟨ps, H3, I5, rel, y, z, eps, c1, c2, k, ek, hl, q4⟩ => ?_
  subst eps ek
  obtain ⟨rs, ca, rk⟩ := carries_of (P := X.prog) (w := X.w) (kvs := [(k, z)]) rel
  obtain ⟨z6, hd6, vs6, r6, dd6⟩ := dk_of I5.hok c1
  have e6 : vs6 = [] := by cases r6; rfl
  subst e6
  refine ⟨rs, ca, dd6, fun h4 dd7 sb4 => ?_⟩
  have hs1 : ([(k, z)] : List (Key × V)).length ≤ sizeLine := by rw [sizeLine_eq]; simp
  have I6 := d_write (t' := s3.toks + ws.length) I5 (by rw [c1]; exact True.intro) sb4 (let ⟨q, _, _, hq, _⟩ := dd7; ⟨q, hq⟩) (dk_new (kvs := [(k, z)]) hs1 hd6 (rk.merge .nil) dd7)
  have c3 : upd H3 h2.objs.size (.dK [(k, z)]) s.heap.objs.size = some (.dK kvs) := by rw [upd_ne nDp]; exact c2
  obtain ⟨z7, hd7, vs7, r7, dd8⟩ := dk_of I6.hok c3
  obtain ⟨z8, hd8, vs8, r8, dd9⟩ := dk_of I6.hok (a := h2.objs.size) (kvs := [(k, z)]) upd_same
  obtain ⟨u8, e8, ru8⟩ : ∃ u8, vs8 = [(k, u8)] ∧ RelV z u8 := by
    cases r8 with
    | @cons a b as bs h t =>
      cases t
      obtain ⟨h1, h2⟩ := h
      obtain ⟨b1, b2⟩ := b
      cases h1
      exact ⟨b2, rfl, h2⟩
  subst e8
  have hz7 : vs7.length + ([(k, u8)] : List (Key × Value)).length ≤ sizeLine := by rw [← r7.length]; simp; omega
  refine wpAny_bind (wpAny_onRaise (wpAny_holding (merge_pairs nDp hd8 dd8 dd9 (mix_nr _ _) (fun h5 dd10 dd11 sb5 => ?_) hz7)))
  have I7 := d_write (t' := s3.toks + ws.length) I6 (by rw [c3]; exact True.intro) sb5 (let ⟨q, _, _, hq, _⟩ := dd10; ⟨q, hq⟩) (dk_new (kvs := putK kvs k z) (by have := length_putK kvs k z; omega) hd7 (r7.put k ru8) dd10)
  exact wpAny_pure ⟨.ref s.heap.objs.size, _, I7, rfl, q4⟩
end Mi

set_option maxHeartbeats 4000000
/-! MiJ: dicts: new ones, displays, get, comprehensions, walks of a live dict. -/
namespace Mi
open PySem PySem.Spec PyProof.Rows L2

/-- a part is asked later than the beginning that its whole is told from -/
theorem PostK {Z : Ct} {W : WX} {α β γ δ : Type} {R : Hp → List Addr → α → β → Prop} {R2 : Hp → List Addr → γ → δ → Prop} {F H F1 H1 : Hp} {ro ro1 : List Addr} {σ : L2.St} {Q : δ → Hp → Prop} {k : α → Gp → Out γ} (n0 : Nx F ro H F1 ro1 H1) : ∀ {r : Out α}, Post Z W R2 F ro H σ Q (r.bind k) →
    Post Z W R F1 ro1 H1 σ (fun v H2 => ∃ F2 ro2 d G2, Nx F1 ro1 H1 F2 ro2 H2 ∧ Ok Z F2 ro2 H2 G2 ∧ R F2 ro2 d v ∧ Post Z W R2 F ro H σ Q (k d G2)) r
  | .ok d G', h => fun F2 ro2 H2 v n2 ok r => ⟨F2, ro2, d, G', n2, ok, r, h⟩
  | .exc c fs G', h => fun F2 ro2 H2 C dd ws n2 ok a b r => h F2 ro2 H2 C dd ws (n0.trans n2) ok a b r
  | .bad, h => h
/-- a hidden dict becomes known, locked -/
theorem Ok.showD {Z : Ct} {F1 H1 F H : Hp} {ro1 ro : List Addr} {G : Gp} {p : Addr} {vs : List (Key × V)} {ds : List (Key × Mi.D)} {R : Hp → List Addr → Mi.D → V → Prop} {W : WX} {σ : L2.St} {Q : VK} (n : Nx F1 ro1 H1 F ro H) (ok : Ok Z F ro H G) (hf : F p = none) (hr : p ∉ ro) (h1 : H1 p = none)
    (r : RepK Z F ro ds vs) (h : Post Z W (RD Z) F1 ro1 H1 σ Q (.ok (.dct ds) G)) : Lk (upd H p (.dK vs)) (Q (.ref p)) := lk_new fun o => by
  have ok2 := ok.hidW (.frz o (.dK vs)) hf hr
  have n2 : Nx F1 ro1 H1 F ro (upd H p (.frz o (.dK vs))) := n.hid hf h1 fun q hq => upd_ne hq
  obtain ⟨a, b⟩ := ok2.show n2 upd_same hf hr h1
  exact h _ _ _ _ b a (.dct upd_same (r.mono (same_upd hf) fun _ _ z => z))
theorem Ok.showDC {Z : Ct} {F1 H1 F H : Hp} {ro1 ro : List Addr} {G : Gp} {p : Addr} {vs : List (Key × V)} {ds : List (Key × Mi.D)} {W : WX} {σ : L2.St} {Q : VK} (n : Nx F1 ro1 H1 F ro H) (ok : Ok Z F ro H G) (hf : F p = none) (hr : p ∉ ro) (h1 : H1 p = none)
    (r : RepK Z F ro ds vs) (h : Post Z W (RD Z) F1 ro1 H1 σ Q (.ok (.cel G.length) (G ++ [.dct ds]))) : Lk (upd H p (.dK vs)) (Q (.ref p)) := lkd (by
  have ok2 := ok.hidW (.dK vs) hf hr
  have n2 : Nx F1 ro1 H1 F ro (upd H p (.dK vs)) := n.hid hf h1 fun q hq => upd_ne hq
  obtain ⟨a, b⟩ := ok2.showC n2 upd_same hf hr h1 (.dct r)
  exact h _ _ _ _ b a (.cel (ok2.last p)))
section
variable {X : Cx} {W : WX} {pos : Pos}
/-! ### {} -/
def mDn : Ex := fun _ G => .ok (.dct []) G
def mDnC : Ex := fun _ G => .ok (.cel G.length) (G ++ [.dct []])
theorem em_dn : PEm X W (.Dict [] [] pos) mDn := PE.imp (PE.lk pe_dnewK) fun σ H Q ⟨F, ro, G, env, ok, ev, h⟩ p hp => by
  obtain ⟨a, b⟩ := ok.free hp
  exact Ok.showD (R := RD (ct X)) (Nx.refl ok.sub) ok a b hp .nil h
theorem em_dnC : PEm X W (.Dict [] [] pos) mDnC := PE.imp (PE.lk pe_dnewK) fun σ H Q ⟨F, ro, G, env, ok, ev, h⟩ p hp => by
  obtain ⟨a, b⟩ := ok.free hp
  exact Ok.showDC (Nx.refl ok.sub) ok a b hp .nil h
/-! ### {**m, k: v} -/
def mStar (m k v : Ex) : Ex := fun env G => (m env G).bind fun d G1 => match dctOf G1 d with
  | some kvs => (k env G1).bind fun y G2 => (v env G2).bind fun z G3 => match keyOf y with
    | some key => if kvs.length < sizeLine then .ok (.dct (putD kvs key z)) G3 else .bad
    | none => .bad
  | none => .bad
theorem dctOf_known {Z : Ct} {F H : Hp} {ro : List Addr} {G : Gp} (ok : Ok Z F ro H G) {d : Mi.D} {v : V} {xs : List (Key × Mi.D)} (r : Rep Z F ro d v) (h : dctOf G d = some xs) :
    ∃ a vs, v = .ref a ∧ (F a ≠ none ∨ a ∈ ro) ∧ Rd H a (.dK vs) ∧ RepK Z F ro xs vs := by
  obtain ⟨a, vs, e, q1, q2⟩ := dctOf_ok ok r h
  refine ⟨a, vs, e, ?_, q1, q2⟩
  subst e
  cases r with
  | dct e q => exact .inl (by rw [e]; simp)
  | cel e => exact .inr (List.mem_iff_getElem?.mpr ⟨_, e⟩)
  | _ => simp [dctOf] at h
theorem em_star {m k v : Expr} {mm mk mv : Ex} (hm : PEm X W m mm) (hk : PEm X W k mk) (hv : PEm X W v mv) : PEm X W (.Dict [none, some k] [m, v] pos) (mStar mm mk mv) :=
  PE.imp (PE.lk (pe_star hm hk hv)) fun σ H Q ⟨F, ro, G, env, ok, ev, h⟩ D hD => by
    obtain ⟨fD, rD⟩ := ok.free hD
    obtain ⟨ok0, n0⟩ := ok.hide (.dK []) hD
    refine ⟨F, ro, G, env, ok0, ev.nx n0, ?_⟩
    refine (PostK (R := RD (ct X)) n0 h).imp fun vx H1 ⟨F1, ro1, d, G1, n1, ok1, r1, h1⟩ => ?_
    obtain ⟨kD1, kD2, kD3⟩ := n1.keepH (upd_same : upd H D (HO.dK []) D = _) fD rD
    refine ⟨kD1, ?_⟩
    cases e2 : dctOf G1 d with
    | none => rw [e2] at h1; exact h1.elim
    | some kvs =>
      rw [e2] at h1
      simp only at h1
      obtain ⟨a, vs, rfl, kn, ra, rk⟩ := dctOf_known ok1 r1 e2
      have na : a ≠ D := fun z => by
        subst z
        rcases kn with q | q
        · exact q kD2
        · exact kD3 q
      refine ⟨a, vs, rfl, na, ra, fun p hp => ?_⟩
      have ok2 := ok1.hidW (.dK vs) kD2 kD3
      have n2 : Nx F ro H F1 ro1 (upd H1 D (.dK vs)) := (n0.trans n1).hid kD2 hD fun q hq => upd_ne hq
      obtain ⟨fp, rp⟩ := ok2.free hp
      obtain ⟨ok3, n3⟩ := ok2.hide (.dK []) hp
      have nDp : D ≠ p := fun z => by subst z; rw [upd_same] at hp; cases hp
      have n23 := n2.trans n3
      refine ⟨F1, ro1, G1, env, ok3, ev.nx n23, (PostK (R := RD (ct X)) n23 h1).imp fun vy H4 ⟨F4, ro4, y, G4, n4, ok4, ry, h4⟩ => ?_⟩
      refine ⟨F4, ro4, G4, env, ok4, (ev.nx n23).nx n4, (PostK (R := RD (ct X)) (n23.trans n4) h4).imp fun vz H5 ⟨F5, ro5, z, G5, n5, ok5, rz, h5⟩ => ?_⟩
      have n45 := n4.trans n5
      obtain ⟨p1, p2, p3⟩ := n45.keepH (upd_same : upd (upd H1 D (HO.dK vs)) p (HO.dK []) p = _) fp rp
      obtain ⟨d1, d2, d3⟩ := n45.keepH (show upd (upd H1 D (HO.dK vs)) p (HO.dK []) D = some (.dK vs) by rw [upd_ne nDp, upd_same]) kD2 kD3
      refine ⟨vy, vz, rfl, p1, d1, ?_⟩
      cases ek : keyOf y with
      | none => rw [ek] at h5; exact h5.elim
      | some key =>
        rw [ek] at h5
        simp only at h5
        split at h5
        · rename_i hl
          have ev := key_rep ry ek
          subst ev
          refine ⟨key, rfl, by rw [← RepK.length rk]; exact hl, ?_⟩
          have hpn : H p = none := by
            cases q : H p with
            | none => rfl
            | some u =>
              have q1 : F p = none := by
                cases q2 : F p with
                | none => rfl
                | some w => have := n2.sub _ _ q2; rw [fp] at this; cases this
              have q3 : p ∉ ro := fun z => rp (by obtain ⟨r, e⟩ := n2.pre; rw [e]; exact List.mem_append_left _ z)
              have := (n2.out p u q q1 q3).1
              rw [hp] at this; cases this
          have ok6 := ok5.hidW (.dK [(key, vz)]) p2 p3
          have n6 : Nx F ro H F5 ro5 (upd H5 p (.dK [(key, vz)])) := (n23.trans n45).hid p2 hpn fun q hq => upd_ne hq
          exact Ok.showD (R := RD (ct X)) n6 ok6 d2 d3 hD (RepK.put key rz ((rk.mono n45.sub n45.get))) h5
        · exact h5.elim

/-! ### d.get(k), d.get(k, x) -/
def mGet1 (d k : Ex) : Ex := fun env G => (d env G).bind fun x G1 => match dctOf G1 x with
  | some _ => (k env G1).bind fun y G2 => (match keyOf y, dctOf G2 x with
    | some key, some kvs => .ok ((getK kvs key).getD .non) G2
    | _, _ => .bad)
  | none => .bad
def mGet2 (d k v : Ex) : Ex := fun env G => (d env G).bind fun x G1 => match dctOf G1 x with
  | some _ => (k env G1).bind fun y G2 => (v env G2).bind fun z G3 => (match keyOf y, dctOf G3 x with
    | some key, some kvs => .ok ((getK kvs key).getD z) G3
    | _, _ => .bad)
  | none => .bad
variable {o e f : Expr} {apos cpos : Pos} {mo me mf : Ex}
theorem em_get1 (hu : X.A.units + 1 < cLine) (ho : PEm X W o mo) (he : PEm X W e me) (m : M1 X o "get" apos e cpos := by exact ⟨rfl, rfl, rfl, rfl⟩) : PEm X W (.Call (.Attribute o "get" apos) [e] [] cpos) (mGet1 mo me) :=
  PE.imp (pe_dget1 hu ho he m) fun σ H Q ⟨F, ro, G, env, ok, ev, h⟩ => by
    refine ⟨F, ro, G, env, ok, ev, (PostB (R := RD (ct X)) h).imp fun vx H1 ⟨F1, ro1, x, G1, n1, ok1, rx, h1⟩ => ?_⟩
    cases e1 : dctOf G1 x with
    | none => rw [e1] at h1; exact h1.elim
    | some kvs0 =>
      rw [e1] at h1
      simp only at h1
      obtain ⟨a, vs, rfl, ra, _⟩ := dctOf_ok ok1 rx e1
      refine ⟨a, rfl, .inl ⟨vs, ra⟩, F1, ro1, G1, env, ok1, ev.nx n1, (PostB (R := RD (ct X)) h1).imp fun vy H2 ⟨F2, ro2, y, G2, n2, ok2, ry, h2⟩ => ?_⟩
      split at h2
      · rename_i key kvs ek ed
        obtain ⟨a', vs', ea, ra', rk⟩ := dctOf_ok ok2 (rx.nx n2) ed
        cases ea
        have ek' := key_rep ry ek
        subst ek'
        refine ⟨valV vs' key, .inl ⟨vs', key, ra', rfl, rfl⟩, ?_⟩
        rcases getK_rep key rk with ⟨a1, a2⟩ | ⟨d, v, a1, a2, a3⟩
        · rw [a1] at h2; rw [a2]; exact h2.ok ok2 .non
        · rw [a1] at h2; rw [a2]; exact h2.ok ok2 a3
      · exact h2.elim
theorem em_get2 (hu : X.A.units + 1 < cLine) (ho : PEm X W o mo) (he : PEm X W e me) (hf : PEm X W f mf) (m : M2 X o "get" apos e f cpos := by exact ⟨rfl, rfl, rfl, rfl⟩) : PEm X W (.Call (.Attribute o "get" apos) [e, f] [] cpos) (mGet2 mo me mf) :=
  PE.imp (pe_dget2 hu ho he hf m) fun σ H Q ⟨F, ro, G, env, ok, ev, h⟩ => by
    refine ⟨F, ro, G, env, ok, ev, (PostB (R := RD (ct X)) h).imp fun vx H1 ⟨F1, ro1, x, G1, n1, ok1, rx, h1⟩ => ?_⟩
    cases e1 : dctOf G1 x with
    | none => rw [e1] at h1; exact h1.elim
    | some kvs0 =>
      rw [e1] at h1
      simp only at h1
      obtain ⟨a, vs, rfl, ra, _⟩ := dctOf_ok ok1 rx e1
      refine ⟨a, rfl, .inl ⟨vs, ra⟩, F1, ro1, G1, env, ok1, ev.nx n1, (PostB (R := RD (ct X)) h1).imp fun vy H2 ⟨F2, ro2, y, G2, n2, ok2, ry, h2⟩ => ?_⟩
      refine ⟨F2, ro2, G2, env, ok2, (ev.nx n1).nx n2, (PostB (R := RD (ct X)) h2).imp fun vz H3 ⟨F3, ro3, z, G3, n3, ok3, rz, h3⟩ => ?_⟩
      split at h3
      · rename_i key kvs ek ed
        obtain ⟨a', vs', ea, ra', rk⟩ := dctOf_ok ok3 ((rx.nx n2).nx n3) ed
        cases ea
        have ek' := key_rep ry ek
        subst ek'
        refine ⟨valV vs' key, .inl ⟨vs', key, ra', rfl, rfl⟩, ?_⟩
        rcases getK_rep key rk with ⟨a1, a2⟩ | ⟨d, v, a1, a2, a3⟩
        · rw [a1] at h3; rw [a2]; exact h3.ok ok3 rz
        · rw [a1] at h3; rw [a2]; exact h3.ok ok3 a3
      · exact h3.elim
/-! ### {k: v, ..} -/
def mPairs : List (Ex × Ex) → Ev → Gp → Out (List (Key × Mi.D))
  | [], _, G => .ok [] G
  | (k, v) :: r, env, G => (k env G).bind fun y G1 => (v env G1).bind fun z G2 => (mPairs r env G2).bind fun ps G3 => match keyOf y with
    | some key => .ok ((key, z) :: ps) G3
    | none => .bad
abbrev RP (Z : Ct) (F : Hp) (ro : List Addr) (ps : List (Key × Mi.D)) (vs : List (V × V)) : Prop := ∃ ws : List (Key × V), vs = ws.map (fun kv => (kV kv.1, kv.2)) ∧ RepK Z F ro ps ws
theorem t_pairs {Z : Ct} {W : WX} {σ : L2.St} : ∀ {l : List (Ex × Ex)} {F H : Hp} {ro : List Addr} {G : Gp} {env : Ev} {Q : List (V × V) → Hp → Prop}, Ok Z F ro H G → Evs Z F ro env σ → Post Z W (RP Z) F ro H σ Q (mPairs l env G) → tPairs (l.map fun p => (T Z W p.1, T Z W p.2)) σ H Q
  | [], F, H, ro, G, env, Q, ok, ev, h => Post.ok (R := RP Z) (v := ([] : List (V × V))) ok h ⟨[], rfl, .nil⟩
  | (k, v) :: r, F, H, ro, G, env, Q, ok, ev, h => by
    refine ⟨F, ro, G, env, ok, ev, (PostB (R := RD Z) h).imp fun vy H1 ⟨F1, ro1, y, G1, n1, ok1, ry, h1⟩ => ?_⟩
    refine ⟨F1, ro1, G1, env, ok1, ev.nx n1, (PostB (R := RD Z) h1).imp fun vz H2 ⟨F2, ro2, z, G2, n2, ok2, rz, h2⟩ => ?_⟩
    refine t_pairs ok2 ((ev.nx n1).nx n2) ((PostB (R := RP Z) h2).imp fun vs H3 ⟨F3, ro3, ps, G3, n3, ok3, ⟨ws, e, rk⟩, h3⟩ => ?_)
    subst e
    cases ek : keyOf y with
    | none => rw [ek] at h3; exact h3.elim
    | some key =>
      rw [ek] at h3
      have ev := key_rep ry ek
      subst ev
      exact Post.ok (R := RP Z) ok3 h3 ⟨(key, vz) :: ws, rfl, .cons (rz.nx n3) rk⟩
def putsD (xs : List (Key × Mi.D)) (ps : List (Key × Mi.D)) : List (Key × Mi.D) := ps.foldl (fun acc kv => putD acc kv.1 kv.2) xs
theorem RepK.puts {Z : Ct} {F : Hp} {ro : List Addr} : ∀ {ps : List (Key × Mi.D)} {ws : List (Key × V)} {xs : List (Key × Mi.D)} {vs : List (Key × V)}, RepK Z F ro ps ws → RepK Z F ro xs vs → RepK Z F ro (putsD xs ps) (mergeK vs ws)
  | _, _, _, _, .nil, r => r
  | _, _, _, _, .cons (k := k) (d := d) (v := v) (ds := ds) (vs := vs) r rs, q => by
    have := RepK.puts rs (RepK.put k r q)
    exact this
def mDisp (l : List (Ex × Ex)) : Ex := fun env G => (mPairs l env G).bind fun ps G1 => if ps.length ≤ 15 then .ok (.dct (putsD [] ps)) G1 else .bad
def mDispC (l : List (Ex × Ex)) : Ex := fun env G => (mPairs l env G).bind fun ps G1 => if ps.length ≤ 15 then .ok (.cel G1.length) (G1 ++ [.dct (putsD [] ps)]) else .bad
theorem em_disp {keys : List (Option Expr)} {values : List Expr} {l : List (Ex × Ex)} (h : PPs X pos keys values (l.map fun p => (T (ct X) W p.1, T (ct X) W p.2))) (hall : keys.all (·.isSome) = true) (hl : keys.length = values.length) (h0 : keys ≠ []) (h15 : keys.length ≤ 15) : PEm X W (.Dict keys values pos) (mDisp l) :=
  PE.imp (PE.lk (pe_disp h hall hl h0 h15)) fun σ H Q ⟨F, ro, G, env, ok, ev, h⟩ D hD => by
    obtain ⟨fD, rD⟩ := ok.free hD
    obtain ⟨ok0, n0⟩ := ok.hide (.dK []) hD
    refine t_pairs ok0 (ev.nx n0) ((PostK (R := RP (ct X)) n0 h).imp fun vs H1 ⟨F1, ro1, ps, G1, n1, ok1, ⟨ws, e, rk⟩, h1⟩ => ?_)
    subst e
    obtain ⟨d1, d2, d3⟩ := n1.keepH (upd_same : upd H D (HO.dK []) D = _) fD rD
    split at h1
    · rename_i hz
      exact ⟨d1, ws, rfl, by rw [← RepK.length rk]; exact hz, Ok.showD (R := RD (ct X)) (n0.trans n1) ok1 d2 d3 hD (RepK.puts rk .nil) h1⟩
    · exact h1.elim
theorem em_dispC {keys : List (Option Expr)} {values : List Expr} {l : List (Ex × Ex)} (h : PPs X pos keys values (l.map fun p => (T (ct X) W p.1, T (ct X) W p.2))) (hall : keys.all (·.isSome) = true) (hl : keys.length = values.length) (h0 : keys ≠ []) (h15 : keys.length ≤ 15) : PEm X W (.Dict keys values pos) (mDispC l) :=
  PE.imp (PE.lk (pe_disp h hall hl h0 h15)) fun σ H Q ⟨F, ro, G, env, ok, ev, h⟩ D hD => by
    obtain ⟨fD, rD⟩ := ok.free hD
    obtain ⟨ok0, n0⟩ := ok.hide (.dK []) hD
    refine t_pairs ok0 (ev.nx n0) ((PostK (R := RP (ct X)) n0 h).imp fun vs H1 ⟨F1, ro1, ps, G1, n1, ok1, ⟨ws, e, rk⟩, h1⟩ => ?_)
    subst e
    obtain ⟨d1, d2, d3⟩ := n1.keepH (upd_same : upd H D (HO.dK []) D = _) fD rD
    split at h1
    · rename_i hz
      exact ⟨d1, ws, rfl, by rw [← RepK.length rk]; exact hz, Ok.showDC (n0.trans n1) ok1 d2 d3 hD (RepK.puts rk .nil) h1⟩
    · exact h1.elim
/-! ### {k: v for x in it if t} -/
def dcL (i : Nat) (t : Tx) (k v : Ex) (env : Ev) : List Mi.D → List (Key × Mi.D) → Gp → Out (List (Key × Mi.D))
  | [], acc, G => .ok acc G
  | d :: r, acc, G => (t (env.set i (some d)) G).nox.bind fun b G2 => if b then (k (env.set i (some d)) G2).nox.bind fun y G3 => (v (env.set i (some d)) G3).nox.bind fun z G4 => (match keyOf y with
    | some key => if acc.length < sizeLine then dcL i t k v env r (putD acc key z) G4 else .bad
    | none => .bad) else dcL i t k v env r acc G2
def mDc (i : Nat) (vs : List Nat) (it : Ix) (t : Tx) (k v : Ex) : Ex := fun env G => (it env G).bind fun xs G1 => (dcL i t k v (wipeE env vs) xs [] G1).bind fun acc G2 => .ok (.dct acc) G2
def mDcC (i : Nat) (vs : List Nat) (it : Ix) (t : Tx) (k v : Ex) : Ex := fun env G => (it env G).bind fun xs G1 => (dcL i t k v (wipeE env vs) xs [] G1).bind fun acc G2 => .ok (.cel G2.length) (G2 ++ [.dct acc])
theorem dc_T {tm : Tx} {km vm : Ex} {i : Nat} {vs : List Nat} (hi : i ∈ vs) {mi : Ix} {fin : List (Key × Mi.D) → Gp → Out Mi.D}
    (hfin : ∀ F1 ro1 H1 F ro H G p xs ds (Q : VK) (σ : L2.St), Nx F1 ro1 H1 F ro H → Ok (ct X) F ro H G → H p = some (.dK xs) → F p = none → p ∉ ro → H1 p = none → RepK (ct X) F ro ds xs → Post (ct X) W (RD (ct X)) F1 ro1 H1 σ Q (fin ds G) → Lk H (Q (.ref p)))
    (σ : L2.St) (H : Hp) (Q : VK)
    (h : T (ct X) W (fun env G => (mi env G).bind fun xs G1 => (dcL i tm km vm (wipeE env vs) xs [] G1).bind fin) σ H Q) :
    tDc (Mi.TG (ct X) W (RI (ct X)) mi) (gName i) (Mi.TT (ct X) WF tm) (T (ct X) WF km) (T (ct X) WF vm) vs σ H (fun v H' => Lk H' (Q v)) := by
  obtain ⟨F, ro, G, env, ok, ev, h⟩ := h
  refine ⟨F, ro, G, env, ok, ev, (PostB (R := RI (ct X)) h).imp fun J H1 ⟨F1, ro1, xs, G1, n1, ok1, r1, h1⟩ => ?_⟩
  intro p hp
  obtain ⟨okp, np⟩ := ok1.hide (HO.dK []) hp
  obtain ⟨hf0, hr0⟩ := ok1.free hp
  have ev1 := (ev.nx n1).wipe vs
  refine ⟨fun i' m H => ∃ F2 ro2 G2 acc ws, m = xs.length - i' ∧ i' ≤ xs.length ∧ Nx F1 ro1 H1 F2 ro2 H ∧ Ok (ct X) F2 ro2 H G2 ∧ H p = some (.dK ws) ∧ F2 p = none ∧ p ∉ ro2 ∧ RepK (ct X) F2 ro2 acc ws ∧
      Post (ct X) W (RD (ct X)) F1 ro1 H1 σ Q ((dcL i tm km vm (wipeE env vs) (xs.drop i') acc G2).bind fin),
    ⟨xs.length, F1, ro1, G1, [], [], rfl, Nat.zero_le _, np, okp, upd_same, hf0, hr0, .nil, h1⟩, ?_⟩
  rintro j m H ⟨F2, ro2, G2, acc, ws, rfl, hle, n2, ok2, hpw, hpf, hpr, ra, h2⟩
  obtain ⟨hgo, hst⟩ := r1 F2 ro2 H n2.sub n2.up n2.pre j
  by_cases hlt : j < xs.length
  · obtain ⟨d, hd⟩ : ∃ d, xs[j]? = some d := ⟨_, List.getElem?_eq_getElem hlt⟩
    obtain ⟨go, yl⟩ := hgo d hd
    have hdrop : xs.drop j = d :: xs.drop (j + 1) := by
      have := (List.getElem?_eq_some_iff.mp hd).2
      rw [← this]
      exact List.drop_eq_getElem_cons hlt
    rw [hdrop] at h2
    refine .inr ⟨go, fun H' => ∃ F3 ro3 G3 acc ws, Nx F1 ro1 H1 F3 ro3 H' ∧ Ok (ct X) F3 ro3 H' G3 ∧ H' p = some (.dK ws) ∧ F3 p = none ∧ p ∉ ro3 ∧ RepK (ct X) F3 ro3 acc ws ∧ Post (ct X) W (RD (ct X)) F1 ro1 H1 σ Q ((dcL i tm km vm (wipeE env vs) (xs.drop (j + 1)) acc G3).bind fin),
      fun H' ⟨F3, ro3, G3, acc, ws, n3, ok3, a1, a2, a3, r3, h3⟩ => ⟨xs.length - (j + 1), by omega, F3, ro3, G3, acc, ws, rfl, hlt, n3, ok3, a1, a2, a3, r3, h3⟩, fun x H' y => ?_⟩
    obtain ⟨rfl, rx⟩ := yl x H' y
    refine ⟨wipe_set hi, F2, ro2, G2, (wipeE env vs).set i (some d), ok2, (ev1.nx n2).set rx i, ?_⟩
    unfold dcL at h2
    refine post_nox (P := fun r => Post (ct X) W (RD (ct X)) F1 ro1 H1 σ Q (r.bind fin)) h2 (fun z => z) fun b G3 et h3 F3 ro3 H3 b' n3 ok3 rb => ?_
    cases rb
    obtain ⟨b1, b2, b3⟩ := n3.keepH hpw hpf hpr
    cases b
    · refine iteF ⟨F3, ro3, G3, acc, ws, n2.trans n3, ok3, b1, b2, b3, ra.mono n3.sub n3.get, h3⟩
    · refine iteT ⟨F3, ro3, G3, (wipeE env vs).set i (some d), ok3, ((ev1.nx n2).set rx i).nx n3, ?_⟩
      simp only [if_true] at h3
      refine post_nox (P := fun r => Post (ct X) W (RD (ct X)) F1 ro1 H1 σ Q (r.bind fin)) h3 (fun z => z) fun y G4 ee h4 F4 ro4 H4 vy n4 ok4 ry => ?_
      obtain ⟨c1, c2, c3⟩ := n4.keepH b1 b2 b3
      refine ⟨F4, ro4, G4, (wipeE env vs).set i (some d), ok4, (((ev1.nx n2).set rx i).nx n3).nx n4, ?_⟩
      refine post_nox (P := fun r => Post (ct X) W (RD (ct X)) F1 ro1 H1 σ Q (r.bind fin)) h4 (fun z => z) fun z G5 ee5 h5 F5 ro5 H5 vz n5 ok5 rz => ?_
      obtain ⟨c1, c2, c3⟩ := n5.keepH c1 c2 c3
      cases ek : keyOf y with
      | none => rw [ek] at h5; exact h5.elim
      | some key =>
        rw [ek] at h5
        simp only at h5
        by_cases hl : acc.length < sizeLine
        · rw [if_pos hl] at h5
          have ekv := key_rep ry ek
          subst ekv
          have n345 := (n3.trans n4).trans n5
          refine ⟨ws, key, rfl, c1, by rw [← RepK.length ra]; exact hl, F5, ro5, G5, putD acc key z, putK ws key vz, ?_, ok5.hidW _ c2 c3, upd_same, c2, c3, RepK.put key rz (ra.mono n345.sub n345.get), h5⟩
          exact (n2.trans n345).hid c2 hp fun q hq => upd_ne hq
        · rw [if_neg hl] at h5
          exact h5.elim
  · have hj : j = xs.length := by omega
    subst hj
    rw [List.drop_length] at h2
    exact .inl ⟨hst (Nat.le_refl _), hfin F1 ro1 H1 F2 ro2 H G2 p ws acc Q σ n2 ok2 hpw hpf hpr hp ra h2⟩
theorem upd_self {H : Hp} {p : Addr} {o : HO} (h : H p = some o) : upd H p o = H := by
  funext q
  by_cases e : q = p
  · subst e; rw [upd_same, h]
  · rw [upd_ne e]
theorem dfin_F (F1 : Hp) (ro1 : List Addr) (H1 F : Hp) (ro : List Addr) (H : Hp) (G : Gp) (p : Addr) (xs : List (Key × V)) (ds : List (Key × Mi.D)) (Q : VK) (σ : L2.St) (n : Nx F1 ro1 H1 F ro H) (ok : Ok (ct X) F ro H G) (hp : H p = some (.dK xs)) (hf : F p = none) (hr : p ∉ ro) (h1 : H1 p = none) (r : RepK (ct X) F ro ds xs)
    (h : Post (ct X) W (RD (ct X)) F1 ro1 H1 σ Q (.ok (.dct ds) G)) : Lk H (Q (.ref p)) := by
  have := Ok.showD (R := RD (ct X)) n ok hf hr h1 r h
  rwa [upd_self hp] at this
theorem dfin_C (F1 : Hp) (ro1 : List Addr) (H1 F : Hp) (ro : List Addr) (H : Hp) (G : Gp) (p : Addr) (xs : List (Key × V)) (ds : List (Key × Mi.D)) (Q : VK) (σ : L2.St) (n : Nx F1 ro1 H1 F ro H) (ok : Ok (ct X) F ro H G) (hp : H p = some (.dK xs)) (hf : F p = none) (hr : p ∉ ro) (h1 : H1 p = none) (r : RepK (ct X) F ro ds xs)
    (h : Post (ct X) W (RD (ct X)) F1 ro1 H1 σ Q (.ok (.cel G.length) (G ++ [.dct ds]))) : Lk H (Q (.ref p)) := by
  have := Ok.showDC n ok hf hr h1 r h
  rwa [upd_self hp] at this
/-- what a dict comprehension asks of its block -/
structure DcB (X : Cx) (W : WX) (kx vx tg iter : Expr) (ifs : List Expr) (scope : Scope) (own : List (Str × Nat)) (i : Nat) (mi : Ix) (tm : Tx) (km vm : Ex) : Prop where
  hi : PIm X W tg iter mi
  ok : BlkOk X.N X.env.scope scope own
  hg : ∀ (s : Shared) (H : Hp) (C : Addr) (cl : List (Str × Addr)) (fp : List Addr), PG (X.blk s H scope (compEnvC scope cl C X.env) fp) tg (gName i)
  ht : ∀ (s : Shared) (H : Hp) (C : Addr) (cl : List (Str × Addr)) (fp : List Addr), PTs (X.blk s H scope (compEnvC scope cl C X.env) fp) ifs (Mi.TT (ct X) WF tm)
  hk : ∀ (s : Shared) (H : Hp) (C : Addr) (cl : List (Str × Addr)) (fp : List Addr), PE (X.blk s H scope (compEnvC scope cl C X.env) fp) kx (T (ct X) WF km)
  he : ∀ (s : Shared) (H : Hp) (C : Addr) (cl : List (Str × Addr)) (fp : List Addr), PE (X.blk s H scope (compEnvC scope cl C X.env) fp) vx (T (ct X) WF vm)
theorem em_dc {kx vx tg iter : Expr} {ifs : List Expr} {scope : Scope} {own : List (Str × Nat)} {i : Nat} {mi : Ix} {tm : Tx} {km vm : Ex} (hc : X.calm = true) (hN : X.N.Nodup) (b : DcB X W kx vx tg iter ifs scope own i mi tm km vm) (hv : i ∈ own.map (·.2) := by decide)
    (hs : ∀ x, foldedSetIterable iter X.env x = pure x := by intro _; rfl) : PEm X W (.DictComp kx vx [⟨tg, iter, ifs, 0⟩] scope pos) (mDc i (own.map (·.2)) mi tm km vm) :=
  PE.imp (PE.lk (pe_dc hc hN b.hi b.ok b.hg b.ht b.hk b.he hs)) (dc_T hv dfin_F)
theorem em_dcC {kx vx tg iter : Expr} {ifs : List Expr} {scope : Scope} {own : List (Str × Nat)} {i : Nat} {mi : Ix} {tm : Tx} {km vm : Ex} (hc : X.calm = true) (hN : X.N.Nodup) (b : DcB X W kx vx tg iter ifs scope own i mi tm km vm) (hv : i ∈ own.map (·.2) := by decide)
    (hs : ∀ x, foldedSetIterable iter X.env x = pure x := by intro _; rfl) : PEm X W (.DictComp kx vx [⟨tg, iter, ifs, 0⟩] scope pos) (mDcC i (own.map (·.2)) mi tm km vm) :=
  PE.imp (PE.lk (pe_dc hc hN b.hi b.ok b.hg b.ht b.hk b.he hs)) (dc_T hv dfin_C)
end
end Mi

set_option maxHeartbeats 4000000
/-! MiK: walks of a live dict; own classes: made, their methods, properties. -/
namespace Mi
open PySem PySem.Spec PyProof.Rows L2

/-! ### for x in d, d a live dict in slot i -/
def unlk (n : Nat) (xs : List (Key × Mi.D)) : Res → Res
  | .nx e G => (match G[n]? with
    | some (.lck _) => .nx e (G.set n (.dct xs))
    | _ => .bad)
  | .rt d G => (match G[n]? with
    | some (.lck _) => .rt d (G.set n (.dct xs))
    | _ => .bad)
  | .bk e G => (match G[n]? with
    | some (.lck _) => .bk e (G.set n (.dct xs))
    | _ => .bad)
  | .ct e G => (match G[n]? with
    | some (.lck _) => .ct e (G.set n (.dct xs))
    | _ => .bad)
  | .exc c fs e G => (match G[n]? with
    | some (.lck _) => .exc c fs e (G.set n (.dct xs))
    | _ => .bad)
  | .bad => .bad
/-- a wish, also where a thing is locked -/
def WU (X : Cx) (W : WX) : WX := fun c d σ H => ∃ a od u, H a = some (.frz od u) ∧ (∀ o' u', X.H_0 a ≠ some (.frz o' u')) ∧ W c d σ (upd H a u)
theorem takes_unlk {X : Cx} {W : WX} (t : Takes X W) : Takes X (WU X W) := fun u s' ⟨a, B, sI, pins, σ, H, cls, d, e, I, nb, up, sky, na, os, ag, p, od, o, hp, hz, w⟩ =>
  t u s' ⟨a, B, sI, pins, σ, upd H p o, cls, d, e, I.unlock hp hz, nb, up, sky, by rw [upd_ne (fun z => by rw [z, hp] at na; cases na)]; exact na, os, ag, w⟩
theorem PS.impI {X : Cx} {st : Stmt} {t t' : TS} (h : PS X st t) (k : ∀ pins s σ H D, Inv X pins σ H s → t' D σ H → t D σ H) : PS X st t' := ⟨fun pins s σ H D I q => h.run pins s σ H D I (k pins s σ H D I q)⟩
def mForK (i : Nat) (g : Gx) (b : Sx) : Sx := fun env G => match env[i]? with
  | some (some (.cel n)) => (match G[n]? with
    | some (.dct xs) => unlk n xs (forL g b (xs.map fun p => kD p.1) env (G.set n (.lck xs)))
    | _ => mFor (iAny (mV i)) g b env G)
  | _ => mFor (iAny (mV i)) g b env G
theorem PS.or {X : Cx} {st : Stmt} {t u : TS} (h : PS X st t) (k : PS X st u) : PS X st (fun D σ H => t D σ H ∨ u D σ H) := ⟨fun pins s σ H D I q => q.elim (h.run pins s σ H D I) (k.run pins s σ H D I)⟩
theorem Ok.lock {Z : Ct} {F H : Hp} {ro : List Addr} {G : Gp} (ok : Ok Z F ro H G) {n : Nat} {a : Addr} {xs : List (Key × Mi.D)} {vs : List (Key × V)} (h2 : ro[n]? = some a) (hf : F a = none) (hH : H a = some (.dK vs)) (r : RepK Z F ro xs vs) (od : Obj) :
    Ok Z F ro (upd H a (.frz od (.dK vs))) (G.set n (.lck xs)) := (ok.write h2 hf (.lck r : CellIs Z F ro (.lck xs) (some (.frz od (.dK vs)))) (nofrz hH fun o w z => by cases z)).1
theorem Ok.unlock {Z : Ct} {F H F' H' : Hp} {ro ro' : List Addr} {G G' : Gp} (ok : Ok Z F ro H G) {n : Nat} {a : Addr} {xs ys : List (Key × Mi.D)} {vs : List (Key × V)} {od : Obj} (h2 : ro[n]? = some a) (hf : F a = none) (hH : H a = some (.dK vs)) (r : RepK Z F ro xs vs)
    (n0 : Nx F ro (upd H a (.frz od (.dK vs))) F' ro' H') (ok' : Ok Z F' ro' H' G') (hG : G'[n]? = some (.lck ys)) : H' a = some (.frz od (.dK vs)) ∧ Ok Z F' ro' (upd H' a (.dK vs)) (G'.set n (.dct xs)) ∧ Nx F ro H F' ro' (upd H' a (.dK vs)) := by
  have h2' := n0.get n a h2
  have ha : a ∈ ro := List.mem_iff_getElem?.mpr ⟨n, h2⟩
  have hf' : F' a = none := by
    rcases ok'.cell n _ a hG h2' with ⟨d, q, _⟩ | ⟨q, _⟩
    · cases q
    · exact q
  have hz := n0.frz a od (.dK vs) upd_same
  have sH : Same F' (upd H' a (.dK vs)) := fun b u e => by rw [upd_ne (ne_of_none e hf')]; exact ok'.sub _ _ e
  have old : ∀ p, p ≠ a → H p = upd H a (.frz od (.dK vs)) p := fun p hp => by rw [upd_ne hp]
  refine ⟨hz, ⟨sH, by simp [ok'.len], ok'.nd, fun m ob b h3 h4 => ?_⟩, ⟨n0.sub, sH, n0.pre, fun p hp => ?_, fun p o e1 e2 e3 => ?_, fun p o u e => ?_⟩⟩
  · by_cases hm : m = n
    · subst hm
      rw [h2'] at h4
      cases h4
      have hl := (List.getElem?_eq_some_iff.mp h2').1
      rw [List.getElem?_set_self (by rw [← ok'.len]; exact hl)] at h3
      cases h3
      exact .inr ⟨hf', by rw [upd_same]; exact .dct (r.mono n0.sub n0.get)⟩
    · rw [List.getElem?_set_ne (Ne.symm hm)] at h3
      have ne : b ≠ a := fun z => hm (nodup_at ok'.nd (z ▸ h4) h2')
      rcases ok'.cell m ob b h3 h4 with q | ⟨q, c⟩
      · exact .inl q
      · exact .inr ⟨q, by rw [upd_ne ne]; exact c⟩
  · rcases n0.new p hp with q | q
    · exact .inl q
    · by_cases e : p = a
      · subst e; exact .inl ha
      · exact .inr (by rw [old p e]; exact q)
  · have ne : p ≠ a := fun z => e3 (z ▸ ha)
    obtain ⟨x, y⟩ := n0.out p o (by rw [← old p ne]; exact e1) e2 e3
    exact ⟨by rw [upd_ne ne]; exact x, y⟩
  · have ne : p ≠ a := fun z => by subst z; rw [hH] at e; cases e
    rw [upd_ne ne]
    exact n0.frz p o u (by rw [← old p ne]; exact e)
section
variable {X : Cx} {W : WX} {pos pos' : Pos}
theorem sm_forK {tg : Expr} {x : Str} {i : Nat} {body : List Stmt} {g : Gx} {mb : Sx} (hp : PassesOwn (model X.prog X.w) X.A X.env X.xe) (hc : X.calm = true) (tk : Takes X W) (hg : PGm X tg g) (hb : ∀ W2, Takes X W2 → PSsm X W2 body mb)
    (hN : X.N[i]? = some x := by rfl) (hv : Vis X.env.scope x := by first | exact Or.inl rfl | exact Or.inr (Or.inl rfl) | exact Or.inr (Or.inr rfl)) (hd : (x == ("__debug__" : Str)) = false := by decide)
    (hcd : (x == ("__classdict__" : Str)) = false := by decide) (hs : ∀ y, foldedSetIterable (.Name x pos') X.env y = pure y := by intro _; rfl) : PSm X W (.For tg (.Name x pos') body [] pos) (mForK i g mb) := by
  have hx : exNo X i := by unfold exNo; rw [exA_calm hc]; rfl
  have ev0 : PEm X W (.Name x pos') (mV i) := em_v i hN hv hd hcd hx
  refine PS.impI (PS.or (ps_lock (ps_for hp hc (pi_keys (pv i hN hv hd hcd)) hg (hb _ (takes_unlk tk)) hs)) (sm_for hp hc (im_any ev0) hg (hb W tk) hs)) fun pins s σ H D I ⟨F, ro, G, env, ok, ev, h⟩ => ?_
  unfold mForK at h
  split at h
  · rename_i n he
    split at h
    · rename_i xs hG
      refine .inl ?_
      obtain ⟨v, hσ, rv⟩ := ev.2.1 i _ he hx.ne
      obtain ⟨a, vs, rfl, e1, e2, e3, rk⟩ := cell_dct ok rv hG
      refine ⟨a, .dK vs, e3, trivial, fun od => ?_⟩
      have ok1 := ok.lock e1 e2 e3 rk od
      refine ⟨.ref a, hσ, a, od, rfl, .inl ⟨vs, upd_same, ?_⟩⟩
      have hlen : xs.length = vs.length := RepK.length rk
      generalize hL : xs.map (fun p => kD p.1) = ks at h
      have hkl : ks.length = vs.length := by rw [← hL, List.length_map, hlen]
      -- the turns
      refine ⟨fun j m σ2 H2 => ∃ F2 ro2 G2 env2, m = ks.length - j ∧ j ≤ ks.length ∧ Nx F ro (upd H a (.frz od (.dK vs))) F2 ro2 H2 ∧ Ok (ct X) F2 ro2 H2 G2 ∧ Evs (ct X) F2 ro2 env2 σ2 ∧
          PostS (ct X) W F ro H D (unlk n xs (forL g mb (ks.drop j) env2 G2)),
        ⟨ks.length, F, ro, G.set n (.lck xs), env, rfl, Nat.zero_le _, Nx.refl ok1.sub, ok1, ev, h⟩, ?_⟩
      rintro j m σ2 H2 ⟨F2, ro2, G2, env2, rfl, hle, n2, ok2, ev2, h2⟩
      have hz := n2.frz a od (.dK vs) upd_same
      -- behind the loop
      have fin : ∀ {F3 ro3 H3 σ3 G3 e3 G4}, Nx F ro (upd H a (.frz od (.dK vs))) F3 ro3 H3 → Ok (ct X) F3 ro3 H3 G3 → Evs (ct X) F3 ro3 e3 σ3 → (∃ ys, G3[n]? = some (.lck ys)) → G4 = G3.set n (.dct xs) → (∀ F' ro' H' σ', Nx F ro H F' ro' H' → Ok (ct X) F' ro' H' G4 → Evs (ct X) F' ro' e3 σ' → D.nx σ' H') → H3 a = some (.frz od (.dK vs)) ∧ D.nx σ3 (upd H3 a (.dK vs)) := by
        rintro F3 ro3 H3 σ3 G3 e3' G4 n3 ok3 ev3 ⟨ys, hy⟩ rfl q
        obtain ⟨u1, u2, u3⟩ := ok.unlock e1 e2 e3 rk n3 ok3 hy
        exact ⟨u1, q _ _ _ _ u3 u2 ev3⟩
      by_cases hlt : j < ks.length
      · obtain ⟨d, hd'⟩ : ∃ d, ks[j]? = some d := ⟨_, List.getElem?_eq_getElem hlt⟩
        have hdrop : ks.drop j = d :: ks.drop (j + 1) := by
          have := (List.getElem?_eq_some_iff.mp hd').2
          rw [← this]
          exact List.drop_eq_getElem_cons hlt
        rw [hdrop] at h2
        have hjv : j < vs.length := by omega
        refine .inr ⟨⟨hz, hjv⟩, fun σ' H' => ∃ F3 ro3 G3 env3, Nx F ro (upd H a (.frz od (.dK vs))) F3 ro3 H' ∧ Ok (ct X) F3 ro3 H' G3 ∧ Evs (ct X) F3 ro3 env3 σ' ∧ PostS (ct X) W F ro H D (unlk n xs (forL g mb (ks.drop (j + 1)) env3 G3)),
          fun σ' H' ⟨F3, ro3, G3, env3, n3, ok3, ev3, h3⟩ => ⟨ks.length - (j + 1), by omega, F3, ro3, G3, env3, rfl, hlt, n3, ok3, ev3, h3⟩, fun x' H' y => ?_⟩
        obtain ⟨y1, k, v', y2, y3⟩ := y
        subst y1 y3
        have ed : d = kD k := by
          rw [← hL, List.getElem?_map] at hd'
          cases ex : xs[j]? with
          | none => rw [ex] at hd'; cases hd'
          | some kd =>
            rw [ex] at hd'
            cases hd'
            obtain ⟨v2, hv2, _⟩ := RepK.get (k := kd.1) (d := kd.2) rk ex
            rw [hv2] at y2
            cases y2
            rfl
        subst ed
        refine ⟨F2, ro2, G2, env2, kD k, ok2, ev2, kD_rep k, ?_⟩
        unfold forL at h2
        cases eg : g (kD k) env2 G2 with
        | exc c fs G3 => rw [eg] at h2; exact h2
        | bad => rw [eg] at h2; exact h2
        | ok e3' G3 =>
          rw [eg] at h2
          simp only at h2
          intro F3 ro3 H3 σ3 n3 ok3 ev3
          refine ⟨F3, ro3, G3, e3', ok3, ev3, ?_⟩
          cases eb : mb e3' G3 with
          | nx e4 G4 =>
            rw [eb] at h2
            exact fun F4 ro4 H4 σ4 n4 ok4 ev4 => ⟨F4, ro4, G4, e4, (n2.trans n3).trans n4, ok4, ev4, h2⟩
          | ct e4 G4 =>
            rw [eb] at h2
            exact fun F4 ro4 H4 σ4 n4 ok4 ev4 => ⟨F4, ro4, G4, e4, (n2.trans n3).trans n4, ok4, ev4, h2⟩
          | bk e4 G4 =>
            rw [eb] at h2
            simp only [unlk] at h2
            split at h2
            · rename_i ys hy
              exact fun F4 ro4 H4 σ4 n4 ok4 ev4 => fin ((n2.trans n3).trans n4) ok4 ev4 ⟨_, hy⟩ rfl h2
            · exact h2.elim
          | rt d G4 =>
            rw [eb] at h2
            simp only [unlk] at h2
            split at h2
            · rename_i ys hy
              intro F4 ro4 H4 v4 n4 ok4 r4
              obtain ⟨u1, u2, u3⟩ := ok.unlock e1 e2 e3 rk ((n2.trans n3).trans n4) ok4 hy
              exact ⟨u1, h2 _ _ _ _ u3 u2 r4⟩
            · exact h2.elim
          | exc c fs e G4 =>
            rw [eb] at h2
            simp only [unlk] at h2
            split at h2
            · rename_i ys hy
              intro F4 ro4 H4 σ4 C dd ws n4 ok4 ev4 hm hd4 rf
              obtain ⟨u1, u2, u3⟩ := ok.unlock e1 e2 e3 rk ((n2.trans n3).trans n4) ok4 hy
              exact ⟨a, od, .dK vs, u1, I.nofrz e3 trivial, h2 F4 ro4 _ σ4 C dd ws u3 u2 ev4 hm hd4 rf⟩
            · exact h2.elim
          | bad => rw [eb] at h2; exact h2.elim
      · have hj : j = ks.length := by omega
        subst hj
        rw [List.drop_length] at h2
        simp only [forL, unlk] at h2
        split at h2
        · rename_i ys hy
          exact .inl ⟨⟨hz, by rw [hkl]; exact Nat.le_refl _⟩, fin n2 ok2 ev2 ⟨_, hy⟩ rfl h2⟩
        · exact h2.elim
    · exact .inr ⟨F, ro, G, env, ok, ev, h⟩
  · exact .inr ⟨F, ro, G, env, ok, ev, h⟩
end
end Mi

set_option maxHeartbeats 4000000
/-! MiL: own classes: made, methods, properties. -/
namespace Mi
open PySem PySem.Spec PyProof.Rows L2

/-! ### how a call's reading is told -/
theorem SpF.imp {Z : Ct} {f : Fm} {n : Nat} {vs : List V} {H : Hp} {Q Q' : VK} {E : XK} (h : SpF Z f n vs H Q E) (k : ∀ v H, Q v H → Q' v H) : SpF Z f n vs H Q' E := by
  obtain ⟨F, ro, G, ds, a, b, c, d⟩ := h
  exact ⟨F, ro, G, ds, a, b, c, Post.imp d k⟩
def CallOk (Z : Ct) (W : WX) (fm : Fm) (n : Nat) (g : List Mi.D → Gp → Out Mi.D) : Prop := ∀ (σ : L2.St) (Q : VK) (F : Hp) (ro : List Addr) (H : Hp) (G : Gp) (ds : List Mi.D) (vs : List V), Ok Z F ro H G → Reps Z F ro ds vs → Post Z W (RD Z) F ro H σ Q (g ds G) → SpF Z fm n vs H (fun v H' => Lk H' (Q v)) (WE W σ)
def callS (fm : Fm) (n : Nat) (ds : List Mi.D) (G : Gp) : Out Mi.D := if ds.length = n then fm ds G else .bad
section
variable {Z : Ct} {W : WX} {fm : Fm} {n : Nat}
theorem ck_F : CallOk Z W fm n (callF fm n) := fun σ Q F ro H G ds vs ok r h => sp_callF ok r h.we
theorem ck_A : CallOk Z W fm n (callA fm n) := fun σ Q F ro H G ds vs ok r h => (sp_callA ok r h).imp fun v H q => lkd q
theorem ck_S : CallOk Z W fm n (callS fm n) := fun σ Q F ro H G ds vs ok r h => by
  unfold callS at h
  split at h
  · rename_i hl
    exact ⟨F, ro, G, ds, ok, r, by rw [← Reps.length r]; exact hl, (Post.imp h fun v H q => lkd q).we⟩
  · exact h.elim
end
/-! ### arguments with keywords -/
/-- h puts the positional values and the keywords' values in the parameters' order, defaults among them -/
def mKw (n l : Nat) (h : List Mi.D → List Mi.D → List Mi.D) (a k : Ax) : Ax := fun env G => (a env G).bind fun ds G1 => (k env G1).bind fun zs G2 => if ds.length = n ∧ zs.length = l then .ok (h ds zs) G2 else .bad
theorem PK.imp {X : Cx} {kws : List Keyword} {t t' : L2.TA} (h : PK X kws t) (k : ∀ σ H Q, t' σ H Q → t σ H Q) : PK X kws t' := ⟨fun pos pins s σ H Q I q => h.run pos pins s σ H Q I (k σ H Q q)⟩
section
variable {X : Cx} {W : WX} {e : Expr} {kws : List Keyword} {me : Ex} {mr : Ax} {nm : Option Str} {kpos : Pos}
variable (X W) in
abbrev PKm (kws : List Keyword) (m : Ax) : Prop := PK X kws (TA (ct X) W m)
theorem km_nil : PKm X W [] mNil := PK.imp pk_nil fun σ H Q ⟨F, ro, G, env, ok, ev, h⟩ => Post.ok (v := []) ok h .nil
theorem km_cons (ha : PEm X W e me) (hr : PKm X W kws mr) : PKm X W (⟨nm, e, kpos⟩ :: kws) (mCons me mr) :=
  PK.imp (pk_cons ha hr) fun σ H Q ⟨F, ro, G, env, ok, ev, h⟩ => by
    refine ⟨F, ro, G, env, ok, ev, (PostB (R := RD (ct X)) h).imp fun v H1 ⟨F1, ro1, d1, G1, n1, ok1, r1, h1⟩ => ?_⟩
    refine ⟨F1, ro1, G1, env, ok1, ev.nx n1, (PostB (R := RA (ct X)) h1).imp fun v2 H2 ⟨F2, ro2, d2, G2, n2, ok2, r2, h2⟩ => ?_⟩
    exact h2.ok ok2 (.cons (r1.nx n2) r2)
end
/-! ### a def's values by keywords -/
/-- n values and keywords ks bind all parameters: h, hV put them in order -/
structure KwD (Z : Ct) (n l : Nat) (h : List Mi.D → List Mi.D → List Mi.D) (hV : List V → List V → List V) : Prop where
  rep : ∀ (F : Hp) (ro : List Addr) (ds es : List Mi.D) (vs zs : List V), Reps Z F ro ds vs → Reps Z F ro es zs → Reps Z F ro (h ds es) (hV vs zs)
/-- the method m of instances of class c: n values beside the instance, keywords ks -/
def MtG (P : Program) (w : World) (K : PySem.W.Frag) (mg : Str → Option Value) (base : Heap) (k : Nat) (c m : Str) (n : Nat) (ks : List Str) (h : List Mi.D → List Mi.D → List Mi.D) (fm : Fm) (np : Nat) : Prop :=
  ∃ (C f : Addr) (fd : FuncData) (ps : List Str) (g : List Value → List Value → List Value) (gV hV : List V → List V → List V),
    mg c = some (.ref C) ∧ Cls K C ∧ Meth K C m f ∧ FnOk P w K mg base (L2.CX P w) k f fd ps (SpF ⟨K, mg, w, none⟩ fm np) ∧ KBn K fd ps (n + 1) ks g gV ∧ (∀ v vs zs, vs.length = n → zs.length = ks.length → gV (v :: vs) zs = v :: hV vs zs) ∧ KwD ⟨K, mg, w, none⟩ n ks.length h hV
/-- instances of class c are made -/
def MkG (P : Program) (w : World) (K : PySem.W.Frag) (mg : Str → Option Value) (base : Heap) (k : Nat) (c : Str) (n : Nat) (ks : List Str) (h : List Mi.D → List Mi.D → List Mi.D) (fm : Fm) (np : Nat) : Prop :=
  ∃ (C f : Addr) (fd : FuncData) (ps : List Str) (g : List Value → List Value → List Value) (gV hV : List V → List V → List V),
    mg c = some (.ref C) ∧ Mk K C f ∧ FnOk P w K mg base (L2.CX P w) k f fd ps (SpF ⟨K, mg, w, none⟩ fm np) ∧ KBn K fd ps (n + 1) ks g gV ∧ (∀ v vs zs, vs.length = n → zs.length = ks.length → gV (v :: vs) zs = v :: hV vs zs) ∧ KwD ⟨K, mg, w, none⟩ n ks.length h hV
section
variable {X : Cx} {W : WX} {k n : Nat} {f C : Addr} {fd : FuncData} {ps ks : List Str} {sp : Sp} {x m : Str} {p pos apos : Pos} {e o : Expr} {es : List Expr} {kws : List Keyword} {t tk ta : L2.TA} {to : TE} {g : List Value → List Value → List Value} {gV : List V → List V → List V}
theorem run_kw {pins : List (Addr × Obj)} {σ : L2.St} {H : Hp} {s : Shared} {Q : VK} {us ws : List Value} {vs zs : List V} (F : FnOk X.prog X.w X.K X.mg X.base (L2.CX X.prog X.w) k f fd ps sp) (hr : Room k X.A) (hb : KBn X.K fd ps n ks g gV) (tw : Takes X W)
    (I : Inv X pins σ H s) (r : Vals vs us) (rz : Vals zs ws) (l1 : vs.length = n) (l2 : zs.length = ks.length) (h : sp (gV vs zs) H Q (WE W σ)) : wpAny (model X.prog X.w) X.A (call (.ref f) us (ks.zip ws)) (EP X pins σ Q) X.xe s := by
  have r2 := hb.rel r rz
  refine wpAny_call (codeAny_mono (F.run X.A X.stack s H ⟨us, ks.zip ws⟩ (g us ws) (gV vs zs) Q (WE W σ) hr I.env0 (hb.to s us ws I.kIn (r.length.symm.trans l1) (rz.length.symm.trans l2)) r2 h) fun r s' hq => ?_)
  cases r with
  | error e => exact passAt tw σ pins H s e s' I hq
  | ok fl =>
    cases fl with
    | ret u => exact I.after hq
    | next => exact False.elim hq
    | brk => exact False.elim hq
    | cont => exact False.elim hq
theorem run_mkW {pins : List (Addr × Obj)} {σ : L2.St} {H : Hp} {s : Shared} {Q : VK} {us ws : List Value} {vs zs : List V} (M : Mk X.K C f) (F : FnOk X.prog X.w X.K X.mg X.base (L2.CX X.prog X.w) k f fd ps sp) (hr : Room (k + 1) X.A) (hb : KBn X.K fd ps (n + 1) ks g gV) (tw : Takes X W)
    (I : Inv X pins σ H s) (r : Vals vs us) (rz : Vals zs ws) (l1 : vs.length = n) (l2 : zs.length = ks.length)
    (h : ∀ x dx, H x = none → H dx = none → dx ≠ x → sp (gV (.ref x :: vs) zs) (upd (upd H dx (.own x)) x (.ins C dx [])) (fun v H2 => v = .non ∧ Q (.ref x) H2) (WE W σ)) :
    wpAny (model X.prog X.w) X.A (call (.ref C) us (ks.zip ws)) (EP X pins σ Q) X.xe s := by
  have q0 := h (s.heap.objs.size + 1) s.heap.objs.size (I.hok.fresh (Nat.le_succ _)) (I.hok.fresh (Nat.le_refl _)) (Nat.ne_of_lt (Nat.lt_succ_self _))
  have J := Inv.made (C := C) I
  have rv : Vals (V.ref (s.heap.objs.size + 1) :: vs) (Value.ref (s.heap.objs.size + 1) :: us) := .cons rfl r
  have n1 : (Value.ref (s.heap.objs.size + 1) :: us).length = n + 1 := by rw [List.length_cons, ← r.length, l1]
  refine wpAny_call (make_map (f := f) I.kIn M.makes M.init (beq_iff_eq.mp M.fn) (codeAny_mono (F.run _ X.stack _ _ ⟨Value.ref (s.heap.objs.size + 1) :: us, ks.zip ws⟩ (g (Value.ref (s.heap.objs.size + 1) :: us) ws) _ _ (WE W σ) (hr.make C us (ks.zip ws))
    (J.env0.make C us (ks.zip ws)) (hb.to _ (Value.ref (s.heap.objs.size + 1) :: us) ws J.kIn n1 (rz.length.symm.trans l2)) (hb.rel rv rz) q0) fun r s' hq => ?_))
  cases r with
  | error e => exact passAt tw σ pins _ _ e s' J hq
  | ok fl =>
    cases fl with
    | ret u =>
      obtain ⟨v, H', I3, rv, ev, q3⟩ := J.after hq
      subst ev
      exact ⟨rv, ⟨V.ref (s.heap.objs.size + 1), H', I3, rfl, q3⟩⟩
    | next => exact False.elim hq
    | brk => exact False.elim hq
    | cont => exact False.elim hq
/-- C(.., k = v, ..) under any wish -/
def tMakeW (C : Addr) (n l : Nat) (sp : Sp) (gV : List V → List V → List V) (W : WX) (t tk : L2.TA) : TE := fun σ H Q => t σ H fun vs H1 => tk σ H1 fun zs H2 => vs.length = n ∧ zs.length = l ∧ ∀ x dx, H2 x = none → H2 dx = none → dx ≠ x →
  sp (gV (.ref x :: vs) zs) (upd (upd H2 dx (.own x)) x (.ins C dx [])) (fun v H3 => v = .non ∧ Q (.ref x) H3) (WE W σ)
theorem pe_makeW (M : Mk X.K C f) (F : FnOk X.prog X.w X.K X.mg X.base (L2.CX X.prog X.w) k f fd ps sp) (hr : Room (k + 1) X.A) (hg : Gl X x) (hm : X.mg x = some (.ref C)) (hb : KBn X.K fd ps (n + 1) ks g gV) (tw : Takes X W) (ha : PA X (e :: es) t) (hkw : PK X kws tk)
    (hall : (backToKw pos (keywordEach kws X.env)).all (·.1.isSome) = true := by rfl) (hks : (backToKw pos (keywordEach kws X.env)).filterMap (·.1) = ks := by rfl) (hdb : (x == ("__debug__" : Str)) = false := by decide)
    (he : starEach (e :: es) X.env = (false, eval e X.env) :: starEach es X.env := by rfl) (hpl : ((backTo pos (starEach (e :: es) X.env)).any (·.1) || (backToKw pos (keywordEach kws X.env)).any (·.1.isNone)) = false := by rfl) :
    PE X (.Call (.Name x p) (e :: es) kws pos) (tMakeW C n ks.length sp gV W t tk) := by
  refine ⟨fun pins s σ H Q I h => ?_⟩
  refine wpAny_Call_Name_kw (ld_glob I hg hm ?_ hdb)
  refine PySem.W.callWith_KW (h₀ := X.base) I.ok.mod.kin M.kp hall (thn (ha.run pos pins s σ H _ I h) fun us s1 ⟨vs, H1, I1, r, q⟩ => ?_) hpl he
  refine thn (hkw.run pos pins s1 σ H1 _ I1 q) fun ws s2 ⟨zs, H2, I2, rz, l1, l2, q2⟩ => ⟨I2.kIn, ?_⟩
  rw [hks]
  exact run_mkW M F hr hb tw I2 r rz l1 l2 q2
theorem pe_makeW0 (M : Mk X.K C f) (F : FnOk X.prog X.w X.K X.mg X.base (L2.CX X.prog X.w) k f fd ps sp) (hr : Room (k + 1) X.A) (hg : Gl X x) (hm : X.mg x = some (.ref C)) (hb : KBn X.K fd ps 1 ks g gV) (tw : Takes X W) (hkw : PK X kws tk)
    (hall : (backToKw pos (keywordEach kws X.env)).all (·.1.isSome) = true := by rfl) (hks : (backToKw pos (keywordEach kws X.env)).filterMap (·.1) = ks := by rfl) (hdb : (x == ("__debug__" : Str)) = false := by decide)
    (hpl : ((backTo pos (starEach [] X.env)).any (·.1) || (backToKw pos (keywordEach kws X.env)).any (·.1.isNone)) = false := by rfl) :
    PE X (.Call (.Name x p) [] kws pos) (tMakeW C 0 ks.length sp gV W tNil tk) := by
  refine ⟨fun pins s σ H Q I h => ?_⟩
  refine wpAny_Call_Name_kw (ld_glob I hg hm ?_ hdb)
  refine PySem.W.callWith_KW0 (h₀ := X.base) I.ok.mod.kin M.kp hall ?_ hpl
  refine thn (hkw.run pos pins s σ H _ I h) fun ws s2 ⟨zs, H2, I2, rz, l1, l2, q2⟩ => ⟨I2.kIn, ?_⟩
  rw [hks]
  exact run_mkW (us := []) (vs := []) M F hr hb tw I2 .nil rz rfl l2 q2
/-- o.m(.., k = v, ..) under any wish -/
def tMethW (C : Addr) (m : Str) (n l : Nat) (sp : Sp) (gV : List V → List V → List V) (W : WX) (to : TE) (t tk : L2.TA) : TE := fun σ H Q => to σ H fun x H1 => ∃ a dx fs, x = .ref a ∧ H1 a = some (.ins C dx fs) ∧ fs.lookup m = none ∧
  t σ H1 fun vs H2 => tk σ H2 fun zs H3 => vs.length = n ∧ zs.length = l ∧ sp (gV (x :: vs) zs) H3 Q (WE W σ)
theorem pe_methW {pl : Sem Bool} (ho : PE X o to) (c : Cls X.K C) (hm : Meth X.K C m f) (F : FnOk X.prog X.w X.K X.mg X.base (L2.CX X.prog X.w) k f fd ps sp) (hr : Room k X.A) (hb : KBn X.K fd ps (n + 1) ks g gV) (tw : Takes X W) (ha : PA X (e :: es) t) (hkw : PK X kws tk)
    (hall : (backToKw pos (keywordEach kws X.env)).all (·.1.isSome) = true := by rfl) (hks : (backToKw pos (keywordEach kws X.env)).filterMap (·.1) = ks := by rfl)
    (hst : starEach (e :: es) X.env = (false, eval e X.env) :: starEach es X.env := by rfl) (hpl : ((backTo pos (starEach (e :: es) X.env)).any (·.1) || (backToKw pos (keywordEach kws X.env)).any (·.1.isNone)) = false := by rfl)
    (ht : eval (.Call (.Attribute o m apos) (e :: es) kws pos) X.env = (do
      let ov ← eval o X.env
      standAt apos.atName
      let (f, first) ← holding [ov] (getMethod ov m pl)
      callWith pos f first (backTo pos (starEach (e :: es) X.env)) (backToKw pos (keywordEach kws X.env))) := by rfl) :
    PE X (.Call (.Attribute o m apos) (e :: es) kws pos) (tMethW C m n ks.length sp gV W to t tk) := by
  refine ⟨fun pins s σ H Q I h => ?_⟩
  refine PySem.W.methodCall_KW (pl := pl) (thn (ho.run pins s σ H _ I h) fun u s1 ⟨x, H1, I1, rx, a, dx, fs, ex, ea, l, q⟩ => ?_) ht
  subst ex
  obtain rfl : u = Value.ref a := rx
  refine getmeth_ok I1 ea c hm l ?_
  refine PySem.W.callWith_KW (first := [.ref a]) (h₀ := X.base) I.ok.mod.kin hm.kp hall (thn (ha.run pos pins s1 σ H1 _ I1 q) fun us s2 ⟨vs, H2, I2, r, q2⟩ => ?_) hpl hst
  refine thn (hkw.run pos pins s2 σ H2 _ I2 q2) fun ws s3 ⟨zs, H3, I3, rz, l1, l2, q3⟩ => ⟨I3.kIn, ?_⟩
  rw [hks]
  exact run_kw (us := .ref a :: us) (vs := .ref a :: vs) F hr hb tw I3 (.cons rfl r) rz (by rw [List.length_cons, l1]) l2 q3
theorem pe_methW0 {pl : Sem Bool} (ho : PE X o to) (c : Cls X.K C) (hm : Meth X.K C m f) (F : FnOk X.prog X.w X.K X.mg X.base (L2.CX X.prog X.w) k f fd ps sp) (hr : Room k X.A) (hb : KBn X.K fd ps 1 ks g gV) (tw : Takes X W) (hkw : PK X kws tk)
    (hall : (backToKw pos (keywordEach kws X.env)).all (·.1.isSome) = true := by rfl) (hks : (backToKw pos (keywordEach kws X.env)).filterMap (·.1) = ks := by rfl)
    (hpl : ((backTo pos (starEach [] X.env)).any (·.1) || (backToKw pos (keywordEach kws X.env)).any (·.1.isNone)) = false := by rfl)
    (ht : eval (.Call (.Attribute o m apos) [] kws pos) X.env = (do
      let ov ← eval o X.env
      standAt apos.atName
      let (f, first) ← holding [ov] (getMethod ov m pl)
      callWith pos f first (backTo pos (starEach [] X.env)) (backToKw pos (keywordEach kws X.env))) := by rfl) :
    PE X (.Call (.Attribute o m apos) [] kws pos) (tMethW C m 0 ks.length sp gV W to tNil tk) := by
  refine ⟨fun pins s σ H Q I h => ?_⟩
  refine PySem.W.methodCall_KW (pl := pl) (thn (ho.run pins s σ H _ I h) fun u s1 ⟨x, H1, I1, rx, a, dx, fs, ex, ea, l, q⟩ => ?_) ht
  subst ex
  obtain rfl : u = Value.ref a := rx
  refine getmeth_ok I1 ea c hm l ?_
  refine PySem.W.callWith_KW0 (first := [.ref a]) (h₀ := X.base) I.ok.mod.kin hm.kp hall ?_ hpl
  refine thn (hkw.run pos pins s1 σ H1 _ I1 q) fun ws s3 ⟨zs, H3, I3, rz, l1, l2, q3⟩ => ⟨I3.kIn, ?_⟩
  rw [hks]
  exact run_kw (us := [.ref a]) (vs := [.ref a]) F hr hb tw I3 (.cons rfl .nil) rz rfl l2 q3
end
/-! ### the mirrors -/
/-- a method: the instance's class c, no attribute of that name -/
def mMe (c m : Str) (g : List Mi.D → Gp → Out Mi.D) (o : Ex) (a : Ax) : Ex := fun env G => (o env G).bind fun d G1 => match insOf G1 d with
  | some (c', fs) => if c' = c ∧ (fs.lookup m).isNone = true then (a env G1).bind fun ds G2 => g (d :: ds) G2 else .bad
  | none => .bad
/-- a new instance: on trees alone, a tree | adopted | on our own cells -/
def makeF (c : Str) (fm : Fm) (m : Nat) (ds : List Mi.D) (G : Gp) : Out Mi.D := if ds.length + 1 = m ∧ noCs (ds.map (untie G)) = true then (match fm (.cel 0 :: ds.map (untie G)) [.ins c []] with
  | .ok .non G2 => (match tree G2 (.cel 0) with
    | some t => .ok t G
    | none => .bad)
  | .exc c' fs _ => if noCf fs then .exc c' fs G else .bad
  | _ => .bad) else .bad
def makeA (c : Str) (fm : Fm) (m : Nat) (ds : List Mi.D) (G : Gp) : Out Mi.D := if ds.length + 1 = m ∧ noCs (ds.map (untie G)) = true then (match fm (.cel 0 :: ds.map (untie G)) [.ins c []] with
  | .ok .non G2 => .ok (.cel G.length) (G ++ G2.map (shO G.length))
  | .exc c' fs _ => if noCf fs then .exc c' fs G else .bad
  | _ => .bad) else .bad
def makeS (c : Str) (fm : Fm) (m : Nat) (ds : List Mi.D) (G : Gp) : Out Mi.D := if ds.length + 1 = m then (match fm (.cel G.length :: ds) (G ++ [.ins c []]) with
  | .ok .non G2 => .ok (.cel G.length) G2
  | .exc c' fs G2 => .exc c' fs G2
  | _ => .bad) else .bad
def MakeOk (Z : Ct) (W : WX) (c : Str) (fm : Fm) (m : Nat) (mk : List Mi.D → Gp → Out Mi.D) : Prop := ∀ (σ : L2.St) (Q : VK) (F : Hp) (ro : List Addr) (H : Hp) (G : Gp) (ds : List Mi.D) (vs : List V) (x dx C : Addr), Ok Z F ro H G → Reps Z F ro ds vs → Post Z W (RD Z) F ro H σ Q (mk ds G) →
  Z.mg c = some (.ref C) → H x = none → H dx = none → dx ≠ x → SpF Z fm m (.ref x :: vs) (upd (upd H dx (.own x)) x (.ins C dx [])) (fun v H3 => v = .non ∧ Lk H3 (Q (.ref x))) (WE W σ)
section
variable {Z : Ct} {W : WX} {c : Str} {fm : Fm} {m : Nat}
theorem new_ins {F H : Hp} {ro : List Addr} {G : Gp} {x dx C : Addr} (ok : Ok Z F ro H G) (hc : Z.mg c = some (.ref C)) (hx : H x = none) (hd : H dx = none) (n : dx ≠ x) :
    Ok Z F (ro ++ [x]) (upd (upd H dx (.own x)) x (.ins C dx [])) (G ++ [.ins c []]) ∧ Nx F ro H F (ro ++ [x]) (upd (upd H dx (.own x)) x (.ins C dx [])) := by
  obtain ⟨ok1, n1⟩ := ok.hide (.own x) hd
  obtain ⟨ok2, n2⟩ := ok1.newC (p := x) (ob := .ins c []) (o := .ins C dx []) (by rw [upd_ne (Ne.symm n)]; exact hx) (.ins hc .nil)
  exact ⟨ok2, n1.trans n2⟩
theorem mk_F : MakeOk Z W c fm m (makeF c fm m) := by
  intro σ Q F ro H G ds vs x dx C ok r h hc hx hd hn
  unfold makeF at h
  split at h
  · rename_i hl
    obtain ⟨ok1, n1⟩ := new_ins (ok_none ok) hc hx hd hn
    have r1 : Reps Z F ([] ++ [x]) (.cel 0 :: ds.map (untie G)) (.ref x :: vs) := .cons (.cel rfl) (Reps.noC (unties_ok ok r) hl.2)
    refine ⟨F, [] ++ [x], [] ++ [.ins c []], _, ok1, r1, by rw [List.length_cons, ← Reps.length r]; exact hl.1, ?_⟩
    show Post Z _ _ _ _ _ _ _ (fm (.cel 0 :: ds.map (untie G)) [.ins c []])
    cases e : fm (.cel 0 :: ds.map (untie G)) [.ins c []] with
    | bad => rw [e] at h; exact h
    | exc c' fs G2 =>
      rw [e] at h
      exact fun F2 ro2 H2 C' dd ws n2 ok2 h1 h2 h3 => exc_F ok h (n1.trans n2) ok2 h1 h2 h3
    | ok d G2 =>
      rw [e] at h
      intro F2 ro2 H2 v n2 ok2 rv
      cases d <;> try exact h.elim
      cases rv
      refine ⟨rfl, ?_⟩
      simp only at h
      cases et : tree G2 (.cel 0) with
      | none => rw [et] at h; exact h.elim
      | some t =>
        rw [et] at h
        have rc : Rep Z F2 ro2 (.cel 0) (.ref x) := .cel (n2.get 0 x rfl)
        refine ok2.freeze fun F3 H3 s1 s2 s3 s4 s5 cells => ?_
        obtain ⟨a, b⟩ := back_F ok (n1.trans n2) s1 s2 s3 s5
        unfold tree at et
        split at et
        · rename_i hct
          cases et
          exact h F3 ro H3 _ b a (Rep.noC (Rep.sub1 cells (Rep.sub1 cells (Rep.sub1 cells (rc.mono s1 fun _ _ z => z)))) hct)
        · cases et
  · exact h.elim
theorem mk_A : MakeOk Z W c fm m (makeA c fm m) := by
  intro σ Q F ro H G ds vs x dx C ok r h hc hx hd hn
  unfold makeA at h
  split at h
  · rename_i hl
    obtain ⟨ok1, n1⟩ := new_ins (ok_none ok) hc hx hd hn
    have r1 : Reps Z F ([] ++ [x]) (.cel 0 :: ds.map (untie G)) (.ref x :: vs) := .cons (.cel rfl) (Reps.noC (unties_ok ok r) hl.2)
    refine ⟨F, [] ++ [x], [] ++ [.ins c []], _, ok1, r1, by rw [List.length_cons, ← Reps.length r]; exact hl.1, ?_⟩
    show Post Z _ _ _ _ _ _ _ (fm (.cel 0 :: ds.map (untie G)) [.ins c []])
    cases e : fm (.cel 0 :: ds.map (untie G)) [.ins c []] with
    | bad => rw [e] at h; exact h
    | exc c' fs G2 =>
      rw [e] at h
      exact fun F2 ro2 H2 C' dd ws n2 ok2 h1 h2 h3 => exc_F ok h (n1.trans n2) ok2 h1 h2 h3
    | ok d G2 =>
      rw [e] at h
      intro F2 ro2 H2 v n2 ok2 rv
      cases d <;> try exact h.elim
      cases rv
      refine ⟨rfl, lkd ?_⟩
      obtain ⟨a, b⟩ := adopt ok (n1.trans n2) ok2
      refine h F2 (ro ++ ro2) H2 _ b a (.cel ?_)
      have e0 := n2.get 0 x rfl
      rw [← ok.len, List.getElem?_append_right (Nat.le_refl _), Nat.sub_self]
      exact e0
  · exact h.elim
theorem mk_S : MakeOk Z W c fm m (makeS c fm m) := by
  intro σ Q F ro H G ds vs x dx C ok r h hc hx hd hn
  unfold makeS at h
  split at h
  · rename_i hl
    obtain ⟨ok1, n1⟩ := new_ins ok hc hx hd hn
    have r1 : Reps Z F (ro ++ [x]) (.cel G.length :: ds) (.ref x :: vs) := .cons (.cel (ok.last x)) (r.nx n1)
    refine ⟨F, ro ++ [x], G ++ [.ins c []], _, ok1, r1, by rw [List.length_cons, ← Reps.length r]; exact hl, ?_⟩
    cases e : fm (.cel G.length :: ds) (G ++ [.ins c []]) with
    | bad => rw [e] at h; exact h
    | exc c' fs G2 =>
      rw [e] at h
      exact fun F2 ro2 H2 C' dd ws n2 ok2 h1 h2 h3 => h F2 ro2 H2 C' dd ws (n1.trans n2) ok2 h1 h2 h3
    | ok d G2 =>
      rw [e] at h
      intro F2 ro2 H2 v n2 ok2 rv
      cases d <;> try exact h.elim
      cases rv
      exact ⟨rfl, lkd (h F2 ro2 H2 _ (n1.trans n2) ok2 (.cel (n2.get _ _ (ok.last x))))⟩
  · exact h.elim
end
section
variable {X : Cx} {W : WX} {pos p apos : Pos} {j k n np : Nat} {c m : Str} {ks : List Str} {h : List Mi.D → List Mi.D → List Mi.D} {fm : Fm} {e o : Expr} {es : List Expr} {kws : List Keyword} {ma mk : Ax} {mo : Ex} {g : List Mi.D → Gp → Out Mi.D}
theorem em_mk {l : Nat} (F : MkG X.prog X.w X.K X.mg X.base j c n ks h fm np) (hg : MakeOk (ct X) W c fm np g) (hr : Room k X.A) (hjk : j + 1 ≤ k) (tw : Takes X W) (ha : PAm X W (e :: es) ma) (hkw : PKm X W kws mk) (hc : X.calm = true := by rfl) (hll : ks.length = l := by rfl) (hgl : Gl X c := by rfl)
    (hall : (backToKw pos (keywordEach kws X.env)).all (·.1.isSome) = true := by rfl) (hks : (backToKw pos (keywordEach kws X.env)).filterMap (·.1) = ks := by rfl) (hdb : (c == ("__debug__" : Str)) = false := by decide)
    (he : starEach (e :: es) X.env = (false, eval e X.env) :: starEach es X.env := by rfl) (hpl : ((backTo pos (starEach (e :: es) X.env)).any (·.1) || (backToKw pos (keywordEach kws X.env)).any (·.1.isNone)) = false := by rfl) :
    PEm X W (.Call (.Name c p) (e :: es) kws pos) (mCB g (mKw n l h ma mk)) := by
  subst hll
  obtain ⟨C, f, fd, ps, gg, gV, hV, h1, h2, h3, h4, h5, h6⟩ := F
  rw [ct_calm hc] at h3 h6
  refine PE.imp (PE.lk (pe_makeW h2 h3 (hr.mono hjk) hgl h1 h4 tw ha hkw hall hks hdb he hpl)) fun σ H Q ⟨F, ro, G, env, ok, ev, hh⟩ => ?_
  have hh' : Post (ct X) W (RD (ct X)) F ro H σ Q ((ma env G).bind fun ds G1 => (mk env G1).bind fun zs G2 => (if ds.length = n ∧ zs.length = ks.length then Out.ok (h ds zs) G2 else .bad).bind g) := by
    have e : mCB g (mKw n ks.length h ma mk) env G = ((ma env G).bind fun ds G1 => (mk env G1).bind fun zs G2 => (if ds.length = n ∧ zs.length = ks.length then Out.ok (h ds zs) G2 else .bad).bind g) := by
      unfold mCB mKw
      cases ma env G with
      | ok ds G1 =>
        simp only [Out.bind_ok]
        cases mk env G1 <;> rfl
      | _ => rfl
    rw [← e]; exact hh
  refine ⟨F, ro, G, env, ok, ev, (PostB (R := RA (ct X)) hh').imp fun vs H1 ⟨F1, ro1, ds, G1, n1, ok1, r1, q1⟩ => ?_⟩
  refine ⟨F1, ro1, G1, env, ok1, ev.nx n1, (PostB (R := RA (ct X)) q1).imp fun zs H2 ⟨F2, ro2, es, G2, n2, ok2, r2, q2⟩ => ?_⟩
  split at q2
  · rename_i hl
    have l1 : vs.length = n := by rw [← Reps.length r1]; exact hl.1
    have l2 : zs.length = ks.length := by rw [← Reps.length r2]; exact hl.2
    refine ⟨l1, l2, fun x dx hx hd hn => ?_⟩
    rw [h5 _ _ _ l1 l2]
    exact hg σ Q F2 ro2 H2 G2 _ _ x dx C ok2 (h6.rep F2 ro2 _ _ _ _ (r1.nx n2) r2) q2 h1 hx hd hn
  · exact q2.elim
theorem em_mk0 {l : Nat} (F : MkG X.prog X.w X.K X.mg X.base j c 0 ks h fm np) (hg : MakeOk (ct X) W c fm np g) (hr : Room k X.A) (hjk : j + 1 ≤ k) (tw : Takes X W) (hkw : PKm X W kws mk) (hc : X.calm = true := by rfl) (hll : ks.length = l := by rfl) (hgl : Gl X c := by rfl)
    (hall : (backToKw pos (keywordEach kws X.env)).all (·.1.isSome) = true := by rfl) (hks : (backToKw pos (keywordEach kws X.env)).filterMap (·.1) = ks := by rfl) (hdb : (c == ("__debug__" : Str)) = false := by decide)
    (hpl : ((backTo pos (starEach [] X.env)).any (·.1) || (backToKw pos (keywordEach kws X.env)).any (·.1.isNone)) = false := by rfl) :
    PEm X W (.Call (.Name c p) [] kws pos) (mCB g (mKw 0 l h mNil mk)) := by
  subst hll
  obtain ⟨C, f, fd, ps, gg, gV, hV, h1, h2, h3, h4, h5, h6⟩ := F
  rw [ct_calm hc] at h3 h6
  refine PE.imp (PE.lk (pe_makeW0 h2 h3 (hr.mono hjk) hgl h1 h4 tw hkw hall hks hdb hpl)) fun σ H Q ⟨F, ro, G, env, ok, ev, hh⟩ => ?_
  have hh' : Post (ct X) W (RD (ct X)) F ro H σ Q ((mk env G).bind fun zs G2 => (if zs.length = ks.length then Out.ok (h [] zs) G2 else .bad).bind g) := by
    have e : mCB g (mKw 0 ks.length h mNil mk) env G = ((mk env G).bind fun zs G2 => (if zs.length = ks.length then Out.ok (h [] zs) G2 else .bad).bind g) := by
      unfold mCB mKw mNil
      simp only [Out.bind_ok, List.length_nil, true_and]
      cases mk env G <;> rfl
    rw [← e]; exact hh
  refine ⟨F, ro, G, env, ok, ev, (PostB (R := RA (ct X)) hh').imp fun zs H2 ⟨F2, ro2, es, G2, n2, ok2, r2, q2⟩ => ?_⟩
  split at q2
  · rename_i hl
    have l2 : zs.length = ks.length := by rw [← Reps.length r2]; exact hl
    refine ⟨rfl, l2, fun x dx hx hd hn => ?_⟩
    rw [h5 _ _ _ rfl l2]
    exact hg σ Q F2 ro2 H2 G2 _ _ x dx C ok2 (h6.rep F2 ro2 _ _ _ _ .nil r2) q2 h1 hx hd hn
  · exact q2.elim
theorem ins_lookup {Z : Ct} {F H : Hp} {ro : List Addr} {G : Gp} (ok : Ok Z F ro H G) {d : Mi.D} {v : V} {c' c m : Str} {fs : List (Str × Mi.D)} {C : Addr} (r : Rep Z F ro d v) (hi : insOf G d = some (c', fs)) (hc : c' = c ∧ (fs.lookup m).isNone = true) (hm : Z.mg c = some (.ref C)) :
    ∃ a dx ws, v = .ref a ∧ H a = some (.ins C dx ws) ∧ ws.lookup m = none := by
  obtain ⟨rfl, h2⟩ := hc
  obtain ⟨a, C', dx, ws, rfl, hC, hH, rf⟩ := insOf_ok ok r hi
  rw [hm] at hC
  cases hC
  exact ⟨a, dx, ws, rfl, hH, RepF.no rf (Option.isNone_iff_eq_none.mp h2)⟩
theorem em_me {l : Nat} {pl : Sem Bool} (F : MtG X.prog X.w X.K X.mg X.base j c m n ks h fm np) (hg : CallOk (ct X) W fm np g) (hr : Room k X.A) (hjk : j ≤ k) (tw : Takes X W) (ho : PEm X W o mo) (ha : PAm X W (e :: es) ma) (hkw : PKm X W kws mk) (hc : X.calm = true := by rfl) (hll : ks.length = l := by rfl)
    (hall : (backToKw pos (keywordEach kws X.env)).all (·.1.isSome) = true := by rfl) (hks : (backToKw pos (keywordEach kws X.env)).filterMap (·.1) = ks := by rfl)
    (hst : starEach (e :: es) X.env = (false, eval e X.env) :: starEach es X.env := by rfl) (hpl : ((backTo pos (starEach (e :: es) X.env)).any (·.1) || (backToKw pos (keywordEach kws X.env)).any (·.1.isNone)) = false := by rfl)
    (ht : eval (.Call (.Attribute o m apos) (e :: es) kws pos) X.env = (do
      let ov ← eval o X.env
      standAt apos.atName
      let (f, first) ← holding [ov] (getMethod ov m pl)
      callWith pos f first (backTo pos (starEach (e :: es) X.env)) (backToKw pos (keywordEach kws X.env))) := by rfl) :
    PEm X W (.Call (.Attribute o m apos) (e :: es) kws pos) (mMe c m g mo (mKw n l h ma mk)) := by
  subst hll
  obtain ⟨C, f, fd, ps, gg, gV, hV, h1, h2, h2', h3, h4, h5, h6⟩ := F
  rw [ct_calm hc] at h3 h6
  refine PE.imp (PE.lk (pe_methW (pl := pl) ho h2 h2' h3 (hr.mono hjk) h4 tw ha hkw hall hks hst hpl ht)) fun σ H Q ⟨F, ro, G, env, ok, ev, hh⟩ => ?_
  refine ⟨F, ro, G, env, ok, ev, (PostB (R := RD (ct X)) hh).imp fun vo H0 ⟨F0, ro0, d, G0, n0, ok0, r0, q0⟩ => ?_⟩
  cases ei : insOf G0 d with
  | none => rw [ei] at q0; exact q0.elim
  | some pr =>
    obtain ⟨c', fs⟩ := pr
    rw [ei] at q0
    simp only at q0
    split at q0
    · rename_i hcm
      obtain ⟨a, dx, ws, rfl, hH, hl⟩ := ins_lookup ok0 r0 ei hcm h1
      refine ⟨a, dx, ws, rfl, hH, hl, F0, ro0, G0, env, ok0, ev.nx n0, ?_⟩
      have hh' : Post (ct X) W (RD (ct X)) F0 ro0 H0 σ Q ((ma env G0).bind fun ds G1 => (mk env G1).bind fun zs G2 => (if ds.length = n ∧ zs.length = ks.length then Out.ok (h ds zs) G2 else .bad).bind fun ds G2 => g (d :: ds) G2) := by
        have e : ((mKw n ks.length h ma mk env G0).bind fun ds G2 => g (d :: ds) G2) = ((ma env G0).bind fun ds G1 => (mk env G1).bind fun zs G2 => (if ds.length = n ∧ zs.length = ks.length then Out.ok (h ds zs) G2 else .bad).bind fun ds G2 => g (d :: ds) G2) := by
          unfold mKw
          cases ma env G0 with
          | ok ds G1 =>
            simp only [Out.bind_ok]
            cases mk env G1 <;> rfl
          | _ => rfl
        rw [← e]; exact q0
      refine (PostB (R := RA (ct X)) hh').imp fun vs H1 ⟨F1, ro1, ds, G1, n1, ok1, r1, q1⟩ => ?_
      refine ⟨F1, ro1, G1, env, ok1, (ev.nx n0).nx n1, (PostB (R := RA (ct X)) q1).imp fun zs H2 ⟨F2, ro2, es, G2, n2, ok2, r2, q2⟩ => ?_⟩
      split at q2
      · rename_i hl
        have l1 : vs.length = n := by rw [← Reps.length r1]; exact hl.1
        have l2 : zs.length = ks.length := by rw [← Reps.length r2]; exact hl.2
        refine ⟨l1, l2, ?_⟩
        rw [h5 _ _ _ l1 l2]
        exact hg σ Q F2 ro2 H2 G2 _ _ ok2 (.cons ((r0.nx n1).nx n2) (h6.rep F2 ro2 _ _ _ _ (r1.nx n2) r2)) q2
      · exact q2.elim
    · exact q0.elim
theorem em_me0 {l : Nat} {pl : Sem Bool} (F : MtG X.prog X.w X.K X.mg X.base j c m 0 ks h fm np) (hg : CallOk (ct X) W fm np g) (hr : Room k X.A) (hjk : j ≤ k) (tw : Takes X W) (ho : PEm X W o mo) (hkw : PKm X W kws mk) (hc : X.calm = true := by rfl) (hll : ks.length = l := by rfl)
    (hall : (backToKw pos (keywordEach kws X.env)).all (·.1.isSome) = true := by rfl) (hks : (backToKw pos (keywordEach kws X.env)).filterMap (·.1) = ks := by rfl)
    (hpl : ((backTo pos (starEach [] X.env)).any (·.1) || (backToKw pos (keywordEach kws X.env)).any (·.1.isNone)) = false := by rfl)
    (ht : eval (.Call (.Attribute o m apos) [] kws pos) X.env = (do
      let ov ← eval o X.env
      standAt apos.atName
      let (f, first) ← holding [ov] (getMethod ov m pl)
      callWith pos f first (backTo pos (starEach [] X.env)) (backToKw pos (keywordEach kws X.env))) := by rfl) :
    PEm X W (.Call (.Attribute o m apos) [] kws pos) (mMe c m g mo (mKw 0 l h mNil mk)) := by
  subst hll
  obtain ⟨C, f, fd, ps, gg, gV, hV, h1, h2, h2', h3, h4, h5, h6⟩ := F
  rw [ct_calm hc] at h3 h6
  refine PE.imp (PE.lk (pe_methW0 (pl := pl) ho h2 h2' h3 (hr.mono hjk) h4 tw hkw hall hks hpl ht)) fun σ H Q ⟨F, ro, G, env, ok, ev, hh⟩ => ?_
  refine ⟨F, ro, G, env, ok, ev, (PostB (R := RD (ct X)) hh).imp fun vo H0 ⟨F0, ro0, d, G0, n0, ok0, r0, q0⟩ => ?_⟩
  cases ei : insOf G0 d with
  | none => rw [ei] at q0; exact q0.elim
  | some pr =>
    obtain ⟨c', fs⟩ := pr
    rw [ei] at q0
    simp only at q0
    split at q0
    · rename_i hcm
      obtain ⟨a, dx, ws, rfl, hH, hl⟩ := ins_lookup ok0 r0 ei hcm h1
      refine ⟨a, dx, ws, rfl, hH, hl, F0, ro0, G0, env, ok0, ev.nx n0, ?_⟩
      have hh' : Post (ct X) W (RD (ct X)) F0 ro0 H0 σ Q ((mk env G0).bind fun zs G2 => (if zs.length = ks.length then Out.ok (h [] zs) G2 else .bad).bind fun ds G2 => g (d :: ds) G2) := by
        have e : ((mKw 0 ks.length h mNil mk env G0).bind fun ds G2 => g (d :: ds) G2) = ((mk env G0).bind fun zs G2 => (if zs.length = ks.length then Out.ok (h [] zs) G2 else .bad).bind fun ds G2 => g (d :: ds) G2) := by
          unfold mKw mNil
          simp only [Out.bind_ok, List.length_nil, true_and]
          cases mk env G0 <;> rfl
        rw [← e]; exact q0
      refine (PostB (R := RA (ct X)) hh').imp fun zs H2 ⟨F2, ro2, es, G2, n2, ok2, r2, q2⟩ => ?_
      split at q2
      · rename_i hl
        have l2 : zs.length = ks.length := by rw [← Reps.length r2]; exact hl
        refine ⟨rfl, l2, ?_⟩
        rw [h5 _ _ _ rfl l2]
        exact hg σ Q F2 ro2 H2 G2 _ _ ok2 (.cons (r0.nx n2) (h6.rep F2 ro2 _ _ _ _ .nil r2)) q2
      · exact q2.elim
    · exact q0.elim
end
end Mi

set_option maxHeartbeats 4000000
/-! MiM: what a row tells of its classes; comparisons by own methods; a live dict frozen. -/
namespace Mi
open PySem PySem.Spec PyProof.Rows L2 NdefX

/-! ### binding -/
section
variable {K : PySem.W.Frag} {x qual : Str} {params : Arguments} {body : List Stmt} {scope : Scope} {dvs : List V} {kws : List (Str × V)} {f : Addr} {fd : FuncData} {ps : List Str}
theorem kb_plain (F : FunD K x qual params body scope [] kws f fd) (hb : ∀ (kV doc pm : Value) (an : Option Addr) (cdv ct : Value) (us : List Value), us.length = ps.length → bindArgs (PySem.W.fnOf x qual params body scope .none kV doc pm an cdv ct) ⟨us, []⟩ = pure (ps.zip us)) :
    KBn K fd ps ps.length [] (fun us _ => us) (fun vs _ => vs) := by
  have B := F.bindsN hb
  refine ⟨fun s us ws X l1 l2 => ?_, fun r1 _ => r1⟩
  have e := B s us X (by rw [List.append_nil]; exact l1)
  rw [List.append_nil] at e
  exact e
end
section
variable {P : Program} {w : World} {K : PySem.W.Frag} {mg : Str → Option Value} {base : Heap} {c m qual : Str} {params : Arguments} {body : List Stmt} {scope : Scope} {dvs : List V} {kws : List (Str × V)} {fd : FuncData} {N ps ks : List Str} {k n : Nat} {b : Sx}
  {g : List Value → List Value → List Value} {gV hV : List V → List V → List V} {h : List Mi.D → List Mi.D → List Mi.D}
theorem MkG.mk (F : FunD K "__init__" qual params body scope dvs kws (He.ma K (He.ga K c) "__init__") fd) (S : FnScope N ps scope) (hm : mg c = some (.ref (He.ga K c))) (hk : (He.Fa.mkr c).ok K = true) (B : KBn K fd ps (n + 1) ks g gV) (hg : ∀ v vs zs, vs.length = n → zs.length = ks.length → gV (v :: vs) zs = v :: hV vs zs)
    (hr : ∀ (F : Hp) (ro : List Addr) (ds es : List Mi.D) (vs zs : List V), Reps ⟨K, mg, w, none⟩ F ro ds vs → Reps ⟨K, mg, w, none⟩ F ro es zs → Reps ⟨K, mg, w, none⟩ F ro (h ds es) (hV vs zs))
    (hb : ∀ (cdv : Value) (A : Around) (outer : List Env) (s : Shared) (H : Hp) (E : XK), Room k (A.deeper (envOfC qual scope s.heap.objs.size (He.ma K (He.ga K c) "__init__") cdv)) → PSsm (cxOf (L2.CX P w) P w K mg base N qual scope (He.ma K (He.ga K c) "__init__") cdv A outer s H E) (WE1 E) body b) :
    MkG P w K mg base (k + 1) c n ks h (fnM N.length b) ps.length := ⟨_, _, fd, ps, g, gV, hV, hm, He.mkr_ok hk, fn_ok F S hb, B, hg, ⟨hr⟩⟩
theorem MtG.mk (F : FunD K m qual params body scope dvs kws (He.ma K (He.ga K c) m) fd) (S : FnScope N ps scope) (hm : mg c = some (.ref (He.ga K c))) (hc : (He.Fa.cls c).ok K = true) (hk : (He.Fa.meth c m).ok K = true) (B : KBn K fd ps (n + 1) ks g gV) (hg : ∀ v vs zs, vs.length = n → zs.length = ks.length → gV (v :: vs) zs = v :: hV vs zs)
    (hr : ∀ (F : Hp) (ro : List Addr) (ds es : List Mi.D) (vs zs : List V), Reps ⟨K, mg, w, none⟩ F ro ds vs → Reps ⟨K, mg, w, none⟩ F ro es zs → Reps ⟨K, mg, w, none⟩ F ro (h ds es) (hV vs zs))
    (hb : ∀ (cdv : Value) (A : Around) (outer : List Env) (s : Shared) (H : Hp) (E : XK), Room k (A.deeper (envOfC qual scope s.heap.objs.size (He.ma K (He.ga K c) m) cdv)) → PSsm (cxOf (L2.CX P w) P w K mg base N qual scope (He.ma K (He.ga K c) m) cdv A outer s H E) (WE1 E) body b) :
    MtG P w K mg base (k + 1) c m n ks h (fnM N.length b) ps.length := ⟨_, _, fd, ps, g, gV, hV, hm, He.cls_ok hc, He.meth_ok hk, fn_ok F S hb, B, hg, ⟨hr⟩⟩
end
theorem AtC.nil {K : PySem.W.Frag} {mg : Str → Option Value} {f : Str} : AtC K mg [] f := fun c h => by simp at h
theorem AtC.cons {K : PySem.W.Frag} {mg : Str → Option Value} {c f : Str} {cs : List Str} (hm : mg c = some (.ref (He.ga K c))) (hc : (He.Fa.cls c).ok K = true) (hn : (He.Fa.noat c f).ok K = true) (r : AtC K mg cs f) : AtC K mg (c :: cs) f := fun x hx C hC => by
  by_cases e : x = c
  · subst e
    rw [hm] at hC
    cases hC
    exact ⟨He.cls_ok hc, He.noat_ok hn⟩
  · refine r x ?_ C hC
    simp only [List.contains_cons, Bool.or_eq_true, beq_iff_eq] at hx
    exact hx.resolve_left e
theorem Lk.const {P : Prop} {H : Hp} {Q : Hp → Prop} (l : Lk H (fun H' => P ∧ Q H')) : P ∧ Lk H Q := by
  generalize hQ : (fun H' => P ∧ Q H') = Q' at l
  induction l with
  | done q => subst hQ; exact ⟨q.1, .done q.2⟩
  | step a b c ih => exact ⟨(ih { cls := .type "dict", data := .dict #[] } hQ).1, .step a b fun od => (ih od hQ).2⟩
/-! ### a comparison by an own method -/
/-- the method of a class that a comparison asks: nothing is raised, a bool comes back -/
def CmG (P : Program) (w : World) (K : PySem.W.Frag) (mg : Str → Option Value) (base : Heap) (k : Nat) (c m : Str) (fm : Fm) : Prop :=
  ∃ (C f : Addr) (fd : FuncData) (ps : List Str), mg c = some (.ref C) ∧ Meth K C m f ∧ FnOk P w K mg base (L2.CX P w) k f fd ps (SpF ⟨K, mg, w, none⟩ fm 2) ∧ Binds K fd ps []
def dCmp (c : Str) (fm : Fm) (f : Mi.D → Mi.D → Gp → Out Mi.D) (x y : Mi.D) (G : Gp) : Out Mi.D := match insOf G x with
  | some (c1, _) => (match insOf G y with
    | some (c2, _) => if c1 = c ∧ c2 = c then (match callF fm 2 [x, y] G with
      | .ok (.bl b) G' => .ok (.bl b) G'
      | _ => .bad) else .bad
    | none => .bad)
  | none => f x y G
section
variable {X : Cx} {W : WX} {j k : Nat} {c m : Str} {fm : Fm} {op : CmpOp} {r : L2.R2} {f : Mi.D → Mi.D → Gp → Out Mi.D}
abbrev rCmp (Z : Ct) (C : Addr) (fm : Fm) : L2.R2 := fun x y H Q => ∃ a b dx dy fs gs, x = .ref a ∧ y = .ref b ∧ H a = some (.ins C dx fs) ∧ H b = some (.ins C dy gs) ∧ SpF Z fm 2 [x, y] H (fun v H' => (∃ b, v = .bl b) ∧ Lk H' (Q v)) fun _ _ _ => False
theorem op_cmp {C g : Addr} {fd : FuncData} {ps : List Str} (F : FnOk X.prog X.w X.K X.mg X.base (L2.CX X.prog X.w) k g fd ps (SpF (ct X) fm 2)) (hr : Room k X.A) (hb : Binds X.K fd ps []) (tw : Takes X W) (M : Meth X.K C m g) (hop : (cmpInfo op).2.1 = m) (hcm : ∀ v u, compareOp op v u = richCompare op v u) :
    OpR X (compareOp op) (rCmp (ct X) C fm) := by
  intro pins s σ H x y v u Q I rx ry h
  obtain ⟨a, b, dx, dy, fs, gs, rfl, rfl, ha, hb', hsp⟩ := h
  cases rx
  cases ry
  rw [hcm]
  obtain ⟨mA, J, _⟩ := ins_get I.hok ha
  obtain ⟨mB, J', _⟩ := ins_get I.hok hb'
  obtain ⟨od, J, _⟩ := J.look
  obtain ⟨od', J', _⟩ := J'.look
  obtain ⟨mm, hF⟩ := I.fr
  refine PySem.W.cmp_K (op := op) (tb := .ref C) hr.units0 hF I.ok.mod.kin J J'.type (by simp [PySem.W.notFirst]) (by rw [hop]; exact M.at_) M.fn ?_
  have r2 : Vals [V.ref a, V.ref b] [Value.ref a, Value.ref b] := .cons rfl (.cons rfl .nil)
  have hl := F.len _ _ _ _ hsp
  refine wpAny_call (codeAny_mono (F.run X.A X.stack s H ⟨[.ref a, .ref b], []⟩ [.ref a, .ref b] [.ref a, .ref b] _ _ hr I.env0 (by
    have := hb s [.ref a, .ref b] I.kIn (by simpa using hl)
    simpa using this) r2 hsp) fun r s' hq => ?_)
  cases r with
  | error e => exact passes_call tw (fun _ _ _ _ z => z.elim) pins σ H s e s' I hq
  | ok fl =>
    cases fl with
    | ret w =>
      obtain ⟨z, H', I', rz, ⟨bb, ez⟩, ex⟩ := I.after hq
      subst ez
      obtain ⟨H2, I2, q2⟩ := Lk.run ex I'
      cases rz
      exact ⟨.bl bb, H2, I2, rfl, q2⟩
    | next => exact False.elim hq
    | brk => exact False.elim hq
    | cont => exact False.elim hq
theorem ok_cmp {C : Addr} (hm : X.mg c = some (.ref C)) (hf : R2Ok X r f) : R2Ok X (fun x y H Q => rCmp (ct X) C fm x y H Q ∨ r x y H Q) (dCmp c fm f) := by
  intro W F ro H G x y vx vy σ Q ok rx ry h
  unfold dCmp at h
  cases e1 : insOf G x with
  | none => rw [e1] at h; exact .inr (hf W F ro H G x y vx vy σ Q ok rx ry h)
  | some p1 =>
    obtain ⟨c1, fs1⟩ := p1
    rw [e1] at h
    simp only at h
    cases e2 : insOf G y with
    | none => rw [e2] at h; exact h.elim
    | some p2 =>
      obtain ⟨c2, fs2⟩ := p2
      rw [e2] at h
      simp only at h
      split at h
      · rename_i hc
        obtain ⟨rfl, rfl⟩ := hc
        obtain ⟨a, C1, dx, ws, rfl, hC, hH, rf⟩ := insOf_ok ok rx e1
        obtain ⟨b, C2, dy, ws2, rfl, hC2, hH2, rf2⟩ := insOf_ok ok ry e2
        have e3 := hm.symm.trans hC
        have e4 := hm.symm.trans hC2
        cases e3
        cases e4
        refine .inl ⟨a, b, dx, dy, ws, ws2, rfl, rfl, hH, hH2, ?_⟩
        have key : Post (ct X) WF (RD (ct X)) F ro H σ (fun v H' => (∃ b, v = .bl b) ∧ Q v H') (callF fm 2 [x, y] G) := by
          cases e3 : callF fm 2 [x, y] G with
          | bad => rw [e3] at h; exact h
          | exc _ _ _ => rw [e3] at h; exact h.elim
          | ok d G' =>
            rw [e3] at h
            intro F' ro' H' v n ok' rv
            cases d <;> try exact h.elim
            cases rv
            exact ⟨⟨_, rfl⟩, h F' ro' H' _ n ok' (.bl _)⟩
        refine (sp_callF (E := fun _ _ _ => False) (σ := σ) ok (.cons rx (.cons ry .nil)) (by exact key)).imp fun v H' q => ?_
        exact Lk.const q
      · exact h.elim
theorem em_cmpO {a b : Expr} {ma mb : Ex} {pos : Pos} (F : CmG X.prog X.w X.K X.mg X.base j c m fm) (hr : Room k X.A) (hjk : j ≤ k) (tw : Takes X W) (ho : OpR X (compareOp op) r) (hf : R2Ok X r f) (ha : PEm X W a ma) (hb : PEm X W b mb) (hm : behindInMarks op b = false) (hop : (cmpInfo op).2.1 = m := by rfl) (hcm : ∀ v u, compareOp op v u = richCompare op v u := by intro _ _; rfl)
    (hc : X.calm = true := by rfl) : PEm X W (.Compare a [op] [b] pos) (m2 (dCmp c fm f) ma mb) := by
  obtain ⟨C, g, fd, ps, h1, h2, h3, h4⟩ := F
  rw [ct_calm hc] at h3
  exact em_cmp ((op_cmp h3 (hr.mono hjk) h4 tw h2 hop hcm).or ho) (ok_cmp h1 hf) ha hb hm
theorem tm_cmpO {a b : Expr} {ma mb : Ex} {pos : Pos} (F : CmG X.prog X.w X.K X.mg X.base j c m fm) (hr : Room k X.A) (hjk : j ≤ k) (tw : Takes X W) (ho : OpR X (compareOp op) r) (hf : R2Ok X r f) (ha : PEm X W a ma) (hb : PEm X W b mb) (hm : behindInMarks op b = false) (hop : (cmpInfo op).2.1 = m := by rfl) (hcm : ∀ v u, compareOp op v u = richCompare op v u := by intro _ _; rfl)
    (hc : X.calm = true := by rfl) : PTm X W (.Compare a [op] [b] pos) (mB (m2 (dCmp c fm f) ma mb)) := by
  obtain ⟨C, g, fd, ps, h1, h2, h3, h4⟩ := F
  rw [ct_calm hc] at h3
  exact tm_cmp ((op_cmp h3 (hr.mono hjk) h4 tw h2 hop hcm).or ho) (ok_cmp h1 hf) ha hb hm
end
end Mi

set_option maxHeartbeats 4000000
/-! MiN: properties, isinstance of an own class, what is never reached, calls without arguments adopted. -/
namespace Mi
open PySem PySem.Spec PyProof.Rows L2 NdefX

/-! ### properties -/
def PrG (P : Program) (w : World) (K : PySem.W.Frag) (mg : Str → Option Value) (base : Heap) (k : Nat) (c f : Str) (fm : Fm) : Prop :=
  ∃ (C p g : Addr) (fd : FuncData) (ps : List Str), mg c = some (.ref C) ∧ Cls K C ∧ PropOf K C f p g ∧ FnOk P w K mg base (L2.CX P w) k g fd ps (SpF ⟨K, mg, w, none⟩ fm 1) ∧ Binds K fd ps []
def mProp (c : Str) (fm : Fm) (o : Ex) : Ex := fun env G => (o env G).bind fun d G1 => match insOf G1 d with
  | some (c', _) => if c' = c then (match fm [d] G1 with
    | .ok d2 G2 => .ok d2 G2
    | _ => .bad) else .bad
  | none => .bad
theorem prp_ok {K : PySem.W.Frag} {d : IniD} {f : Str} (hp : d.prop = some f) (e : iniX K d = d.valX) (c : prpB K d = true) :
    PropOf K (He.ga K d.cls) f (He.ma K (He.ga K d.cls) f) (pga K d.cls f) ∧ ∃ fd, FunD K f d.qual d.params d.body d.scope [] [] (pga K d.cls f) fd := by
  unfold prpB at c
  unfold iniX IniD.valX at e
  rw [hp] at c e
  simp only at c e
  obtain ⟨c1, c⟩ := He.ba c
  obtain ⟨c2, c⟩ := He.ba c
  obtain ⟨c3, c⟩ := He.ba c
  obtain ⟨c4, c⟩ := He.ba c
  obtain ⟨c5, c6⟩ := He.ba c
  refine ⟨⟨of_decide_eq_true c1, of_decide_eq_true c2, of_decide_eq_true c3, ?_⟩, ?_⟩
  · split at c4
    · rename_i g rest hg
      have eg := of_decide_eq_true c4
      subst eg
      exact ⟨rest, hg⟩
    · cases c4
  · split at c6
    · rename_i oc od fd osl lk
      rw [lk] at e
      obtain ⟨u1, u2, u3, u4, u5, u6, u7, u8, u9, u10, u11, u12, u13, u14, u15⟩ := fd
      simp only [Option.some.injEq, Prod.mk.injEq, List.map_eq_nil_iff] at e
      obtain ⟨h1, h2, h3, h4, h5, h6, h7, h8⟩ := e
      subst h1 h2 h3 h4 h5 h6 h7 h8
      obtain ⟨z1, z2⟩ := He.ba c6
      cases u8 with
      | none => exact ⟨_, ⟨oc, od, .none, u9, u10, u11, u12, u13, u14, osl, rfl, lk, z1, .inl ⟨rfl, rfl⟩, .inl rfl⟩, c5⟩
      | _ => cases z2
    · cases c6
section
variable {X : Cx} {W : WX} {pos p : Pos} {j k : Nat} {c f : Str} {fm : Fm} {e o : Expr} {mo : Ex}
theorem nox_pass {P : Program} {w : World} : ∀ {X : Cx}, Passes (L2.CX P w) X (fun _ _ _ => False) := fun pins σ H s e s' I ⟨_, _, _, _, _, _, _, _, _, _, _, _, z⟩ => z.elim
theorem em_prop (F : PrG X.prog X.w X.K X.mg X.base j c f fm) (hr : Room k X.A) (hjk : j + 1 ≤ k) (ho : PEm X W o mo) (hc : X.calm = true := by rfl) (hab : attributeBase o f X.env (eval o X.env) = eval o X.env := by rfl) : PEm X W (.Attribute o f pos) (mProp c fm mo) := by
  obtain ⟨C, q, g, fd, ps, h1, h2, h3, h4, h5⟩ := F
  rw [ct_calm hc] at h4
  refine PE.imp (pe_prop ho h2 h3 h4 (hr.mono hjk) h5 .nil nox_pass hab) fun σ H Q ⟨F, ro, G, env, ok, ev, hh⟩ => ?_
  refine ⟨F, ro, G, env, ok, ev, (PostB (R := RD (ct X)) hh).imp fun vo H0 ⟨F0, ro0, d, G0, n0, ok0, r0, q0⟩ => ?_⟩
  cases ei : insOf G0 d with
  | none => rw [ei] at q0; exact q0.elim
  | some pr =>
    obtain ⟨c', fs⟩ := pr
    rw [ei] at q0
    simp only at q0
    split at q0
    · rename_i hcc
      subst hcc
      obtain ⟨a, C', dx, ws, rfl, hC, hH, rf⟩ := insOf_ok ok0 r0 ei
      have e1 := h1.symm.trans hC
      cases e1
      refine ⟨a, dx, ws, rfl, hH, F0, ro0, G0, [d], ok0, .cons r0 .nil, rfl, ?_⟩
      cases em : fm [d] G0 with
      | ok d2 G2 => rw [em] at q0; exact q0
      | exc _ _ _ => rw [em] at q0; exact q0.elim
      | bad => rw [em] at q0; exact q0.elim
    · exact q0.elim
/-! ### isinstance of an own class -/
def dIsiO (y : Str) (tab : List (Str × Bool)) : List Mi.D → Gp → Out Mi.D
  | [d, .gl z], G => if z = y then (match insOf G d with
    | some (c, _) => (match tab.lookup c with
      | some b => .ok (.bl b) G
      | none => .bad)
    | none => .bad) else .bad
  | _, _ => .bad
theorem em_gl2 {x : Str} {a : Addr} (hm : X.mg x = some (.ref a)) (hg : Gl X x := by rfl) (hd : (x == ("__debug__" : Str)) = false := by decide) : PEm X W (.Name x pos) (mC (.gl x)) := em_gl (v := .ref a) hm rfl (fun F ro => .gl hm) hg hd
theorem ok_isiO {y : Str} {tab : List (Str × Bool)} (hy : X.mg y = some (.ref (He.ga X.K y))) (hT : ∀ c b, tab.lookup c = some b → X.mg c = some (.ref (He.ga X.K c)) ∧ isiB X.K (c, y, b) = true) : CROk X (rIsi X.K) (dIsiO y tab) := by
  intro W F ro H G ds vs σ Q ok rs h
  cases rs with
  | nil => exact h.elim
  | cons r rs =>
    cases rs with
    | nil => exact h.elim
    | cons r2 rs =>
      cases rs with
      | cons _ _ => cases r2 <;> exact h.elim
      | nil =>
        cases r2 with
        | gl hz =>
          rename_i d v z az
          simp only [dIsiO] at h
          split at h
          · rename_i ez
            subst ez
            have ey := hy.symm.trans hz
            cases ey
            cases e : insOf G d with
            | none => rw [e] at h; exact h.elim
            | some pr =>
              obtain ⟨c, fs⟩ := pr
              rw [e] at h
              simp only at h
              cases e2 : tab.lookup c with
              | none => rw [e2] at h; exact h.elim
              | some b =>
                rw [e2] at h
                obtain ⟨hm, hb⟩ := hT c b e2
                obtain ⟨a, C, dx, ws, rfl, hC, hH, rf⟩ := insOf_ok ok r e
                have eC := hm.symm.trans hC
                cases eC
                unfold isiB at hb
                obtain ⟨b1, hb⟩ := He.ba hb
                obtain ⟨b2, hb⟩ := He.ba hb
                obtain ⟨b3, hb⟩ := He.ba hb
                obtain ⟨b4, hb⟩ := He.ba hb
                obtain ⟨b5, b6⟩ := He.ba hb
                exact ⟨.ref a, .ref _, .ref _, .ref _, b, rfl, .own _, .base (.ins hH (He.cls_ok b1) (of_decide_eq_true b2) (of_decide_eq_true b3) (of_decide_eq_true b4) (of_decide_eq_true b5)), of_decide_eq_true b6, lkd (h.ok ok (.bl _))⟩
          · exact h.elim
        | _ => exact h.elim
/-! ### never reached -/
def mBad : Ex := fun _ _ => .bad
theorem em_bad {e : Expr} : PEm X W e mBad := ⟨fun pins s σ H Q I ⟨_, _, _, _, _, _, h⟩ => h.elim⟩
def mBadS : Sx := fun _ _ => .bad
theorem sm_bad {s : Stmt} : PSm X W s mBadS := ⟨fun pins s σ H D I ⟨_, _, _, _, _, _, h⟩ => h.elim⟩
end
section
variable {D : RowD} {w : World} {K : PySem.W.Frag} {mg : Str → Option Value}
/-- isinstance of an own class, by the row -/
theorem Rw.isi (R : Rw D w K mg) {y : Str} {tab : List (Str × Bool)} (h : tab.all (fun p => D.isi.contains (p.1, y, p.2) && D.gl.contains p.1) = true) : ∀ c b, tab.lookup c = some b → mg c = some (.ref (He.ga K c)) ∧ isiB K (c, y, b) = true := fun c b e => by
  obtain ⟨h1, h2⟩ := He.ba (List.all_eq_true.mp h _ (lookup_memb e))
  exact ⟨R.gM c (by simpa using h2), R.isM (c, y, b) (by simpa using h1)⟩
end
section
variable {X : Cx} {W : WX} {pos p : Pos} {j k n : Nat} {x : Str} {dfl : List Mi.D} {fm : Fm}
/-- f(), adopted -/
theorem em_cA0 (F : FnG X.prog X.w X.K X.mg X.base j x n dfl fm) (hr : Room k X.A) (hjk : j ≤ k) (tk : Takes X W) (hc : X.calm = true := by rfl) (hg : Gl X x := by rfl) (hdb : (x == ("__debug__" : Str)) = false := by decide) :
    PEm X W (.Call (.Name x p) [] [] pos) (mCallA fm n dfl mNil) := by
  obtain ⟨f, fd, ps, dvs, ds, h1, h2, h3, h4, h5, h6⟩ := F
  rw [ct_calm hc] at h1 h6
  refine PE.imp (pe_callW0 h1 (hr.mono hjk) hg h2 h3 h4 h5 tk hdb) fun σ H Q h => ?_
  obtain ⟨F, ro, G, env, ok, ev, h⟩ := h
  exact sp_callA ok (h6 F ro) (by simpa [mCallA, mNil] using h)
end
section
variable {X : Cx} {W : WX}
/-! ### y = {k: v for ..} -/
theorem PS.lk {st : Stmt} {t : TS} (h : PS X st t) : PS X st (fun D σ H => t ⟨fun σ' H' => Lk H' (D.nx σ'), fun v H' => Lk H' (D.rt v), fun σ' H' => Lk H' (D.bk σ'), fun σ' H' => Lk H' (D.ct σ')⟩ σ H) := by
  refine ⟨fun pins s σ H D I q => thn (h.run pins s σ H _ I q) fun f s1 q1 => ?_⟩
  cases f with
  | next => obtain ⟨σ', H', I2, l⟩ := q1; obtain ⟨H2, I3, q3⟩ := Lk.run l I2; exact ⟨σ', H2, I3, q3⟩
  | brk => obtain ⟨σ', H', I2, l⟩ := q1; obtain ⟨H2, I3, q3⟩ := Lk.run l I2; exact ⟨σ', H2, I3, q3⟩
  | cont => obtain ⟨σ', H', I2, l⟩ := q1; obtain ⟨H2, I3, q3⟩ := Lk.run l I2; exact ⟨σ', H2, I3, q3⟩
  | ret v => obtain ⟨x, σ', H', I2, r, l⟩ := q1; obtain ⟨H2, I3, q3⟩ := Lk.run l I2; exact ⟨x, σ', H2, I3, r, q3⟩
theorem ps_setDc {i : Nat} {y : Str} {py : Pos} {kx vx tg iter : Expr} {ifs : List Expr} {scope : Scope} {own : List (Str × Nat)} {pos spos : Pos} {wi : TI} {g : L2.TG} {tt : L2.TT} {tk tv : TE} (hc : X.calm = true) (hN : X.N.Nodup) (hy : X.N[i]? = some y) (hyl : X.env.scope.names.lookup y = some .local)
    (hsw : swapsWith (.DictComp kx vx [⟨tg, iter, ifs, 0⟩] scope pos) (some (.Name y py)) spos.line X.env = pure true) (hi : PI X tg iter wi) (bo : BlkOk X.N X.env.scope scope own)
    (hg : ∀ (s : Shared) (H : Hp) (C : Addr) (cl : List (Str × Addr)) (fp : List Addr), PG (X.blk s H scope (compEnvC scope cl C X.env) fp) tg g) (ht : ∀ (s : Shared) (H : Hp) (C : Addr) (cl : List (Str × Addr)) (fp : List Addr), PTs (X.blk s H scope (compEnvC scope cl C X.env) fp) ifs tt)
    (hk : ∀ (s : Shared) (H : Hp) (C : Addr) (cl : List (Str × Addr)) (fp : List Addr), PE (X.blk s H scope (compEnvC scope cl C X.env) fp) kx tk)
    (hv : ∀ (s : Shared) (H : Hp) (C : Addr) (cl : List (Str × Addr)) (fp : List Addr), PE (X.blk s H scope (compEnvC scope cl C X.env) fp) vx tv) (hs : ∀ x, foldedSetIterable iter X.env x = pure x := by intro _; rfl) :
    PS X (.Assign [.Name y py] (.DictComp kx vx [⟨tg, iter, ifs, 0⟩] scope pos) spos) (tAsg (tDc wi g tt tk tv (own.map (·.2))) (gName i)) := by
  refine ⟨fun pins s σ H D I h => ?_⟩
  rw [exec_Assign_Name_used _ _ _ _ hsw]
  refine wpAny_bind (wpAny_standAt (wpAny_bind ?_))
  show wpAny _ X.A (do let _ ← comprehension (.DictComp kx vx [⟨tg, iter, ifs, 0⟩] scope pos) scope X.env (firstIterPos [⟨tg, iter, ifs, 0⟩] pos) newDict false (eval iter X.env) (some (assign (.Name y py) X.env))) _ _ s
  have h2 : tDc wi g tt tk tv (own.map (·.2)) σ H (fun x H1 => gName i x σ H1 D.nx) := h
  refine wpAny_bind (thn (dc_core (Qf := fun _ s' => SP X pins D .next s') hc hN I hi bo hg ht hk hv hs h2 fun L C s' m H' I' q hn f => ?_) fun _ s' hq => wpAny_pure (wpAny_pure hq))
  show wpAny _ _ (assign (.Name y py) X.env (.ref L)) _ _ _
  refine wpAny_assign_Name (store_ok2 (v := V.ref L) I' hN hy (.inl hyl) rfl (fun s2 I2 ⟨a, sb, ha⟩ => ?_) (.inr hyl))
  obtain ⟨f0, f1, f2, f3, f4, f5⟩ := f
  have nCa : C ≠ a := by
    rcases ha with z | z
    · rw [z]; exact f1
    · exact fun e => f4 y a z e.symm
  refine ⟨m, hn.sameBut sb nCa, fun h3 sb3 => ?_⟩
  exact ⟨_, H', I2.turned (t' := s2.toks) (fun b o hb e => (sb3.2 b hb).trans e) f0 f1 f3 f4 f5, q⟩
theorem swd_true {kx vx : Expr} {gs : List Comprehension} {scope : Scope} {pos py : Pos} {y : Str} {l : Nat} {env : Env} (hk : env.scope.kind = .function) (hy : env.scope.names.lookup y = some .local) (hl : (py.line == pos.line) = true)
    (ha : (scope.names.any fun (n, k) => n == y && (k == .local || k == .cell)) = false) : swapsWith (.DictComp kx vx gs scope pos) (some (.Name y py)) l env = pure true := by
  have k1 : env.kindOf y = some .local := hy
  have k2 : env.blockKind = .function := by unfold Env.blockKind; rw [hk]; rfl
  unfold swapsWith
  simp only [k2, k1, ha, Expr.pos, hl]
  rfl
theorem dc_S {te : TE} {me : Ex} (h : ∀ (σ : L2.St) (H : Hp) (Q : VK), T (ct X) W me σ H Q → te σ H (fun v H' => Lk H' (Q v))) (i : Nat) (D : Ends) (σ : L2.St) (H : Hp) (q : TSm (ct X) W (mSet i me) D σ H) :
    tAsg te (gName i) ⟨fun σ' H' => Lk H' (D.nx σ'), fun v H' => Lk H' (D.rt v), fun σ' H' => Lk H' (D.bk σ'), fun σ' H' => Lk H' (D.ct σ')⟩ σ H := by
  obtain ⟨F, ro, G, env, ok, ev, q⟩ := q
  exact h σ H _ ⟨F, ro, G, env, ok, ev, (PostBS (R := RD (ct X)) ev q).imp fun v H1 ⟨F1, ro1, d1, G1, n1, ok1, r1, h1⟩ => h1.done ok1 ((ev.nx n1).set r1 i)⟩
theorem sm_setDc {j : Nat} {y : Str} {py spos pos : Pos} {kx vx tg iter : Expr} {ifs : List Expr} {scope : Scope} {own : List (Str × Nat)} {i : Nat} {mi : Ix} {tm : Tx} {km vm : Ex} (hc : X.calm = true) (hN : X.N.Nodup) (hy : X.N[j]? = some y) (hyl : X.env.scope.names.lookup y = some .local)
    (hsw : swapsWith (.DictComp kx vx [⟨tg, iter, ifs, 0⟩] scope pos) (some (.Name y py)) spos.line X.env = pure true) (b : DcB X W kx vx tg iter ifs scope own i mi tm km vm) (hv : i ∈ own.map (·.2) := by decide)
    (hs : ∀ x, foldedSetIterable iter X.env x = pure x := by intro _; rfl) : PSm X W (.Assign [.Name y py] (.DictComp kx vx [⟨tg, iter, ifs, 0⟩] scope pos) spos) (mSet j (mDc i (own.map (·.2)) mi tm km vm)) :=
  PS.imp (PS.lk (ps_setDc hc hN hy hyl hsw b.hi b.ok b.hg b.ht b.hk b.he hs)) (dc_S (dc_T hv dfin_F) j)
theorem sm_setDcC {j : Nat} {y : Str} {py spos pos : Pos} {kx vx tg iter : Expr} {ifs : List Expr} {scope : Scope} {own : List (Str × Nat)} {i : Nat} {mi : Ix} {tm : Tx} {km vm : Ex} (hc : X.calm = true) (hN : X.N.Nodup) (hy : X.N[j]? = some y) (hyl : X.env.scope.names.lookup y = some .local)
    (hsw : swapsWith (.DictComp kx vx [⟨tg, iter, ifs, 0⟩] scope pos) (some (.Name y py)) spos.line X.env = pure true) (b : DcB X W kx vx tg iter ifs scope own i mi tm km vm) (hv : i ∈ own.map (·.2) := by decide)
    (hs : ∀ x, foldedSetIterable iter X.env x = pure x := by intro _; rfl) : PSm X W (.Assign [.Name y py] (.DictComp kx vx [⟨tg, iter, ifs, 0⟩] scope pos) spos) (mSet j (mDcC i (own.map (·.2)) mi tm km vm)) :=
  PS.imp (PS.lk (ps_setDc hc hN hy hyl hsw b.hi b.ok b.hg b.ht b.hk b.he hs)) (dc_S (dc_T hv dfin_C) j)
end
end Mi

set_option maxHeartbeats 4000000
/-! MiO: how the further mirrors run. -/
namespace Mi
open PySem PySem.Spec PyProof.Rows L2
section
variable (a b o k v : Ex) (t u : Tx) (s s2 : Sx) (x y : Ax) (env : Ev) (G : Gp) (d : Mi.D)
@[simp] theorem x_mFld (cs f) : mFld cs f a env G = (a env G).bind fun d G1 => match insOf G1 d with
  | some (c, fs) => if cs.contains c = true then (match fs.lookup f with
    | some v => .ok v G1
    | none => .bad) else .bad
  | none => .bad := (rfl)
@[simp] theorem x_mKw (n l h) : mKw n l h x y env G = (x env G).bind fun ds G1 => (y env G1).bind fun zs G2 => if ds.length = n ∧ zs.length = l then .ok (h ds zs) G2 else .bad := (rfl)
@[simp] theorem x_mAsg (g : Gx) : mAsg g a env G = (a env G).toS env fun d G1 => match g d env G1 with
  | .ok e G2 => .nx e G2
  | _ => .bad := (rfl)
@[simp] theorem x_gFld (cs f) : gFld cs f o d env G = (o env G).bind fun x G1 => match fFldS cs f x d G1 with
  | some G2 => .ok env G2
  | none => .bad := (rfl)
@[simp] theorem x_gSubM : gSubM o k d env G = (o env G).bind fun x G1 => (k env G1).bind fun y G2 => match fSub x y d G2 with
  | some G3 => .ok env G3
  | none => .bad := (rfl)
@[simp] theorem x_mProp (c fm) : mProp c fm o env G = (o env G).bind fun d G1 => match insOf G1 d with
  | some (c', _) => if c' = c then (match fm [d] G1 with
    | .ok d2 G2 => .ok d2 G2
    | _ => .bad) else .bad
  | none => .bad := (rfl)
@[simp] theorem x_mMe (c m g) : mMe c m g o x env G = (o env G).bind fun d G1 => match insOf G1 d with
  | some (c', fs) => if c' = c ∧ (fs.lookup m).isNone = true then (x env G1).bind fun ds G2 => g (d :: ds) G2 else .bad
  | none => .bad := (rfl)
@[simp] theorem x_mStar : mStar a k v env G = (a env G).bind fun d G1 => match dctOf G1 d with
  | some kvs => (k env G1).bind fun y G2 => (v env G2).bind fun z G3 => match keyOf y with
    | some key => if kvs.length < sizeLine then .ok (.dct (putD kvs key z)) G3 else .bad
    | none => .bad
  | none => .bad := (rfl)
@[simp] theorem x_mGet1 : mGet1 a k env G = (a env G).bind fun x G1 => match dctOf G1 x with
  | some _ => (k env G1).bind fun y G2 => (match keyOf y, dctOf G2 x with
    | some key, some kvs => .ok ((getK kvs key).getD .non) G2
    | _, _ => .bad)
  | none => .bad := (rfl)
@[simp] theorem x_mGet2 : mGet2 a k v env G = (a env G).bind fun x G1 => match dctOf G1 x with
  | some _ => (k env G1).bind fun y G2 => (v env G2).bind fun z G3 => (match keyOf y, dctOf G3 x with
    | some key, some kvs => .ok ((getK kvs key).getD z) G3
    | _, _ => .bad)
  | none => .bad := (rfl)
@[simp] theorem x_mDn : mDn env G = .ok (.dct []) G := (rfl)
@[simp] theorem x_mDnC : mDnC env G = .ok (.cel G.length) (G ++ [.dct []]) := (rfl)
@[simp] theorem x_mDc (i vs it) : mDc i vs it t k v env G = (it env G).bind fun xs G1 => (dcL i t k v (wipeE env vs) xs [] G1).bind fun acc G2 => .ok (.dct acc) G2 := (rfl)
@[simp] theorem x_mDcC (i vs it) : mDcC i vs it t k v env G = (it env G).bind fun xs G1 => (dcL i t k v (wipeE env vs) xs [] G1).bind fun acc G2 => .ok (.cel G2.length) (G2 ++ [.dct acc]) := (rfl)
@[simp] theorem x_mCallS (f n dfl) : mCallS f n dfl x env G = (x env G).bind fun ds G1 => if (ds ++ dfl).length = n then f (ds ++ dfl) G1 else .bad := (rfl)
@[simp] theorem x_callS (f n ds) : callS f n ds G = if ds.length = n then f ds G else .bad := (rfl)
@[simp] theorem x_mLcC (i vs it) : mLcC i vs it t a env G = (it env G).bind fun xs G1 => (lcL i t a (wipeE env vs) xs [] G1).bind fun acc G2 => .ok (.cel G2.length) (G2 ++ [.lst acc]) := (rfl)
theorem x_mForK (i : Nat) (g : Gx) : mForK i g s env G = (match env[i]? with
  | some (some (.cel n)) => (match G[n]? with
    | some (.dct xs) => unlk n xs (forL g s (xs.map fun p => kD p.1) env (G.set n (.lck xs)))
    | _ => mFor (iAny (mV i)) g s env G)
  | _ => mFor (iAny (mV i)) g s env G) := (rfl)
@[simp] theorem x_gTupD (n : Nat) (g : Gsx) : gTupD n g d env G = match seqOf G d with
  | some xs => if xs.length = n then g xs env G else .bad
  | none => .bad := (rfl)
@[simp] theorem x_gsNil : gsNil [] env G = .ok env G := (rfl)
@[simp] theorem x_gsCons (i : Nat) (g : Gsx) (r : List Mi.D) : gsCons i g (d :: r) env G = g r (env.set i (some d)) G := (rfl)
end
@[simp] theorem noC_dct (xs) : noC (.dct xs) = noCk xs := by simp [noC]
@[simp] theorem noC_ins (c xs) : noC (.ins c xs) = noCf xs := by simp [noC]
@[simp] theorem noCk_nil : noCk [] = true := (rfl)
@[simp] theorem noCk_cons (k : Key) (d : Mi.D) (r : List (Key × Mi.D)) : noCk ((k, d) :: r) = (noC d && noCk r) := (rfl)
@[simp] theorem noCf_nil : noCf [] = true := (rfl)
@[simp] theorem noCf_cons (k : Str) (d : Mi.D) (r : List (Str × Mi.D)) : noCf ((k, d) :: r) = (noC d && noCf r) := (rfl)
@[simp] theorem noC_gl (x) : noC (.gl x) = true := (rfl)
@[simp] theorem noC_ty (x) : noC (.ty x) = true := (rfl)
@[simp] theorem insOf_ins (c fs) (G : Gp) : insOf G (.ins c fs) = some (c, fs) := (rfl)
@[simp] theorem insOf_int (i) (G : Gp) : insOf G (.int i) = none := (rfl)
@[simp] theorem insOf_str (i) (G : Gp) : insOf G (.str i) = none := (rfl)
@[simp] theorem insOf_non (G : Gp) : insOf G .non = none := (rfl)
@[simp] theorem insOf_bl (b) (G : Gp) : insOf G (.bl b) = none := (rfl)
@[simp] theorem insOf_tup (xs) (G : Gp) : insOf G (.tup xs) = none := (rfl)
@[simp] theorem dctOf_dct (xs) (G : Gp) : dctOf G (.dct xs) = some xs := (rfl)
/-- a class's own instance is made -/
theorem makeF_ok {c : Str} {fm : Fm} {m : Nat} {ds : List Mi.D} {G G2 : Gp} {t : Mi.D} (hn : ds.length + 1 = m) (hc : noCs ds = true) (e : fm (.cel 0 :: ds) [.ins c []] = .ok .non G2) (ht : tree G2 (.cel 0) = some t) : makeF c fm m ds G = .ok t G := by
  unfold makeF
  rw [unties_noC G ds hc, if_pos ⟨hn, hc⟩, e]
  simp only [ht]
theorem makeF_exc {c c' : Str} {fm : Fm} {m : Nat} {ds : List Mi.D} {G G2 : Gp} {fs : List (Str × Mi.D)} (hn : ds.length + 1 = m) (hc : noCs ds = true) (e : fm (.cel 0 :: ds) [.ins c []] = .exc c' fs G2) (hf : noCf fs = true) : makeF c fm m ds G = .exc c' fs G := by
  unfold makeF
  rw [unties_noC G ds hc, if_pos ⟨hn, hc⟩, e]
  simp [hf]
/-- an instance whose fields hold no cells -/
theorem tree_ins (G : Gp) (n : Nat) (c : Str) (fs : List (Str × Mi.D)) (h : G[n]? = some (.ins c fs)) (hx : noCf fs = true) : tree G (.cel n) = some (.ins c fs) := by
  have e : sub1 G (.cel n) = .ins c fs := by simp [sub1, h, obD]
  unfold tree
  have hl : noC (.ins c fs) = true := by simpa using hx
  rw [e, sub1_noC G _ hl, sub1_noC G _ hl, if_pos hl]
theorem cmp_ok {c : Str} {fm : Fm} {f : Mi.D → Mi.D → Gp → Out Mi.D} {x y : Mi.D} {G G' : Gp} {fs gs : List (Str × Mi.D)} {b : Bool} (hx : insOf G x = some (c, fs)) (hy : insOf G y = some (c, gs)) (e : callF fm 2 [x, y] G = .ok (.bl b) G') : dCmp c fm f x y G = .ok (.bl b) G' := by
  unfold dCmp
  rw [hx, hy, e]
  simp
theorem cmp_no {c : Str} {fm : Fm} {f : Mi.D → Mi.D → Gp → Out Mi.D} {x y : Mi.D} {G : Gp} (hx : insOf G x = none) : dCmp c fm f x y G = f x y G := by
  unfold dCmp
  rw [hx]
end Mi

set_option maxHeartbeats 4000000
/-! MiQ: equality of trees. -/
namespace Mi
open PySem PySem.Spec PyProof.Rows L2
mutual
/-- plain data: no dict, no object, texts of lawful size -/
def plnD : Mi.D → Bool
  | .non => true
  | .bl _ => true
  | .int _ => true
  | .str x => PyData.strOk x
  | .tup xs => plnDs xs
  | .lst xs => plnDs xs
  | .scr xs => plnDs xs
  | _ => false
def plnDs : List Mi.D → Bool
  | [] => true
  | d :: r => plnD d && plnDs r
end
mutual
def dptD : Mi.D → Nat
  | .tup xs => dptDs xs + 1
  | .lst xs => dptDs xs + 1
  | .scr xs => dptDs xs + 1
  | _ => 0
def dptDs : List Mi.D → Nat
  | [] => 0
  | d :: r => max (dptD d) (dptDs r)
end
mutual
theorem pd_pln : ∀ d : Mi.D, plnD d = true → ∃ p, pd d = some p ∧ p.canLay0 = true ∧ p.depth = dptD d
  | .non, _ => ⟨_, rfl, rfl, rfl⟩
  | .bl b, _ => ⟨_, rfl, rfl, rfl⟩
  | .int b, _ => ⟨_, rfl, rfl, rfl⟩
  | .str x, h => ⟨_, rfl, by simpa [PyData.canLay0, plnD] using h, rfl⟩
  | .tup xs, h => by
    obtain ⟨ps, h1, h2, h3⟩ := pds_pln xs (by simpa [plnD] using h)
    exact ⟨.tuple ps, by simp [pd, h1], by simpa [PyData.canLay0] using h2, by simp [PyData.depth, dptD, h3]⟩
  | .lst xs, h => by
    obtain ⟨ps, h1, h2, h3⟩ := pds_pln xs (by simpa [plnD] using h)
    exact ⟨.list ps, by simp [pd, h1], by simpa [PyData.canLay0] using h2, by simp [PyData.depth, dptD, h3]⟩
  | .scr xs, h => by
    obtain ⟨ps, h1, h2, h3⟩ := pds_pln xs (by simpa [plnD] using h)
    exact ⟨.list ps, by simp [pd, h1], by simpa [PyData.canLay0] using h2, by simp [PyData.depth, dptD, h3]⟩
  | .ty _, h => by simp [plnD] at h
  | .gl _, h => by simp [plnD] at h
  | .cel _, h => by simp [plnD] at h
  | .dct _, h => by simp [plnD] at h
  | .dck _, h => by simp [plnD] at h
  | .ins _ _, h => by simp [plnD] at h
  | .exc _ _, h => by simp [plnD] at h
theorem pds_pln : ∀ ds : List Mi.D, plnDs ds = true → ∃ ps, pds ds = some ps ∧ PyData.canLayAll0 ps = true ∧ PyData.depthAll ps = dptDs ds
  | [], _ => ⟨[], by simp [pds], rfl, rfl⟩
  | d :: r, h => by
    simp only [plnDs, Bool.and_eq_true] at h
    obtain ⟨p, h1, h2, h3⟩ := pd_pln d h.1
    obtain ⟨ps, h4, h5, h6⟩ := pds_pln r h.2
    exact ⟨p :: ps, by simp [pds, h1, h4], by simp [PyData.canLayAll0, h2, h5], by simp [PyData.depthAll, dptDs, h3, h6]⟩
end
theorem res_pln {d : Mi.D} (G : Gp) (h : plnD d = true) : res G d = d := by cases d <;> first | rfl | simp [plnD] at h
theorem scal_refl {d : Mi.D} {b : Bool} (h : dScal d d = some b) : b = true := by
  cases d <;> simp [dScal] at h <;> exact h
theorem eqB_refl {d : Mi.D} (h : plnD d = true) (hd : dptD d ≤ 64) (G : Gp) : dEqB G d d = some true := by
  unfold dEqB
  cases hs : dScal d d with
  | some b => rw [scal_refl hs]
  | none =>
    obtain ⟨p, h1, h2, h3⟩ := pd_pln d h
    have hsh : SeqAt.shaped p = true := by
      unfold SeqAt.shaped
      rw [h2, h3]
      simp [hd]
    simp only [res_pln G h, h1, hsh, and_self, if_true]
    rw [PySem.SeqAt.eqv_refl p h2]
theorem eq_refl {d : Mi.D} (h : plnD d = true) (hd : dptD d ≤ 64) (G : Gp) : dEq d d G = .ok (.bl true) G := by
  unfold dEq
  rw [eqB_refl h hd]
theorem ne_refl {d : Mi.D} (h : plnD d = true) (hd : dptD d ≤ 64) (G : Gp) : dNe d d G = .ok (.bl false) G := by
  unfold dNe
  rw [eqB_refl h hd]
  rfl
/-- two plain values that are no scalars -/
theorem eqB_pln {d e : Mi.D} (h : plnD d = true) (hd : dptD d ≤ 64) (h' : plnD e = true) (hd' : dptD e ≤ 64) (hs : dScal d e = none) (G : Gp) : ∃ p q, pd d = some p ∧ pd e = some q ∧ dEqB G d e = some (PyData.eqv p q) := by
  obtain ⟨p, h1, h2, h3⟩ := pd_pln d h
  obtain ⟨q, k1, k2, k3⟩ := pd_pln e h'
  refine ⟨p, q, h1, k1, ?_⟩
  unfold dEqB
  rw [hs]
  have e1 : SeqAt.shaped p = true := by unfold SeqAt.shaped; rw [h2, h3]; simp [hd]
  have e2 : SeqAt.shaped q = true := by unfold SeqAt.shaped; rw [k2, k3]; simp [hd']
  simp only [res_pln G h, res_pln G h', h1, k1, e1, e2, and_self, if_true]
end Mi

set_option maxHeartbeats 4000000
/-! MiR: own operators: o[i], o[i] = v, x in o, <=, <, &=, o(..). -/
namespace Mi
open PySem PySem.Spec PyProof.Rows L2
/-- a method that an operator asks -/
def OwG (P : Program) (w : World) (K : PySem.W.Frag) (mg : Str → Option Value) (base : Heap) (k : Nat) (c m : Str) (fm : Fm) (np : Nat) : Prop :=
  ∃ (C f : Addr) (fd : FuncData) (ps : List Str), mg c = some (.ref C) ∧ Meth K C m f ∧ PySem.W.fnIn K f = true ∧ FnOk P w K mg base (L2.CX P w) k f fd ps (SpF ⟨K, mg, w, none⟩ fm np) ∧ Binds K fd ps []
section
variable {X : Cx} {W : WX} {k : Nat} {f C : Addr} {fd : FuncData} {ps : List Str} {sp : Sp} {pins : List (Addr × Obj)} {σ : L2.St} {H : Hp} {s : Shared} {Q : VK} {us : List Value} {vs : List V} {A1 : Around} {pos pos' : Pos}
/-- a method runs, asked from the context A1 -/
theorem run_own (F : FnOk X.prog X.w X.K X.mg X.base (L2.CX X.prog X.w) k f fd ps sp) (hf : A1.frames = X.A.frames) (hr : Room k A1) (hb : Binds X.K fd ps []) (tw : Takes X W) (I : Inv X pins σ H s) (r : Vals vs us) (h : sp vs H Q (WE W σ)) :
    wpAny (model X.prog X.w) A1 (call (.ref f) us) (EP X pins σ Q) X.xe s := by
  have hl := F.len _ _ _ _ h
  have e := I.env0
  refine wpAny_call (codeAny_mono (F.run A1 X.stack s H ⟨us, []⟩ us vs Q (WE W σ) hr ⟨by rw [hf]; exact e.frames, e.mod, e.bs, e.bsz, e.funs, e.frf, e.hok, e.bare⟩ (by
    have := hb s us I.kIn (by simpa [r.length] using hl)
    simpa using this) r h) fun r s' hq => ?_)
  cases r with
  | error e => exact passAt tw σ pins H s e s' I hq
  | ok fl =>
    cases fl with
    | ret u => exact I.after hq
    | next => exact False.elim hq
    | brk => exact False.elim hq
    | cont => exact False.elim hq
abbrev AskO (C : Addr) (sp : Sp) (W : WX) (σ : L2.St) (x : V) (vs : List V) (H : Hp) (Q : VK) : Prop := ∃ a dx fs, x = .ref a ∧ H a = some (.ins C dx fs) ∧ sp (x :: vs) H Q (WE W σ)
/-! ### o[i] -/
def tOix (C : Addr) (sp : Sp) (W : WX) (ta tb : TE) : TE := fun σ H Q => ta σ H fun x H1 => tb σ H1 fun y H2 => AskO C sp W σ x [y] H2 Q
theorem pe_oix {a b : Expr} {ta tb : TE} (F : FnOk X.prog X.w X.K X.mg X.base (L2.CX X.prog X.w) k f fd ps sp) (hr : Room k X.A.in1) (hb : Binds X.K fd ps []) (tw : Takes X W) (M : Meth X.K C "__getitem__" f) (hfn : PySem.W.fnIn X.K f = true) (ha : PE X a ta) (hb' : PE X b tb)
    (hs : ∀ o i, subscripted b true o i = runValue (.builtin "lifetime.subscript" ⟨[o, i], []⟩)) : PE X (.Subscript a b pos) (tOix C sp W ta tb) := by
  refine ⟨fun pins s σ H Q I h => ?_⟩
  refine Subscript_ (binT ha hb' I (R := fun x y H2 => AskO C sp W σ x [y] H2 Q) h fun v u s2 x y H2 I2 rx ry q => ?_)
  obtain ⟨p, dx, fs, rfl, ea, hsp⟩ := q
  cases rx
  obtain ⟨mA, J, _⟩ := ins_get I2.hok ea
  obtain ⟨od, J, _⟩ := J.look
  obtain ⟨mm, hF⟩ := I2.fr
  exact PySem.W.sub_K hF I2.ok.mod.kin J M.at_ hfn M.fn (run_own (us := [.ref p, u]) (vs := [.ref p, y]) F rfl hr hb tw I2 (.cons rfl (.cons ry .nil)) hsp) (hs _ _)
/-! ### o[i] = v -/
theorem setItem_own {M : Model} {A : Around} {E : Value → Shared → Prop} {K : PySem.W.Frag} {h₀ : Heap} {L x : Addr} {m : Str → Option Value} {ox : Obj} {od : Option Obj} {v u : Value} {R : Unit → Shared → Prop} (F : PyProof.Rows.Fr h₀ L s.heap m) (X₀ : K.In h₀) (I : PySem.W.InstAt s.heap x ox C od) (hq : PySem.W.noSeq K C = true)
    (hs : PySem.W.findIn K (.ref C) "__setitem__" = some (some (.ref f))) (hf : PySem.W.isFn K (.ref f) = true) (h : wpAny M A (call (.ref f) [.ref x, v, u]) (fun _ => R ()) E s) : wpAny M A (setItem (.ref x) v u) R E s := by
  have X := X₀.keeps F.keep
  unfold setItem sequenceKey
  refine wpAny_holding (wpAny_bind (wpAny_bind (I.type.here ?_)))
  refine wpAny_bind ((PySem.W.anyM_none X hq).here ?_)
  rw [if_pos (show (!false) = true from rfl)]
  exact wpAny_pure (wpAny_bind (PySem.W.special_fn X I hs (beq_iff_eq.mp hf) (wpAny_mono h (fun _ _ z => wpAny_pure z) fun _ _ z => z)))
def tSetO (C : Addr) (sp : Sp) (W : WX) (to ti : TE) : L2.TG := fun v σ H Q => to σ H fun x H2 => ti σ H2 fun y H3 => AskO C sp W σ x [y, v] H3 fun _ H' => Q σ H'
theorem pg_setO {o i : Expr} {to ti : TE} (F : FnOk X.prog X.w X.K X.mg X.base (L2.CX X.prog X.w) k f fd ps sp) (hr : Room k X.A) (hb : Binds X.K fd ps []) (tw : Takes X W) (M : Meth X.K C "__setitem__" f) (hq : PySem.W.noSeq X.K C = true) (ho : PE X o to) (hi : PE X i ti)
    (ha : ∀ v, assign (.Subscript o i pos) X.env v = (do
      let ov ← holding [v] (eval o X.env)
      let iv ← holding [v, ov] (eval i X.env)
      standAt pos
      holding [v, ov, iv] (setItem ov iv v)
      release [v, ov, iv] []) := by intro _; rfl) : PG X (.Subscript o i pos) (tSetO C sp W to ti) := by
  refine ⟨fun pins s σ H v u Q I r h => ?_⟩
  rw [ha]
  refine wpAny_bind (wpAny_holding (thn (ho.run pins s σ H _ I h) fun ov s1 ⟨x, H1, I1, r1, q1⟩ => ?_))
  refine wpAny_bind (wpAny_holding (thn (hi.run pins s1 σ H1 _ I1 q1) fun iv s2 ⟨y, H2, I2, r2, q2⟩ => ?_))
  refine wpAny_bind (wpAny_standAt (wpAny_bind (wpAny_holding ?_)))
  obtain ⟨p, dx, fs, rfl, ea, hsp⟩ := q2
  cases r1
  obtain ⟨mA, J, _⟩ := ins_get I2.hok ea
  obtain ⟨od, J, _⟩ := J.look
  obtain ⟨mm, hF⟩ := I2.fr
  refine setItem_own hF I2.ok.mod.kin J hq M.at_ M.fn (thn (run_own (us := [.ref p, iv, u]) (vs := [.ref p, y, v]) F rfl hr hb tw I2 (.cons rfl (.cons r2 (.cons r .nil))) hsp) fun w s3 ⟨z, H3, I3, _, q3⟩ => ?_)
  exact wpAny_release ⟨σ, H3, I3, q3⟩
/-! ### x in o -/
def tInO (C : Addr) (sp : Sp) (W : WX) (neg : Bool) (ta tb : TE) : TE := fun σ H Q => ta σ H fun y H1 => tb σ H1 fun x H2 => AskO C sp W σ x [y] H2 fun z H' => Lk H' fun H'' => ∃ b, z = .bl b ∧ Q (.bl (if neg then !b else b)) H''
theorem in_own {C g : Addr} {neg : Bool} {x : V} {y : V} {v u : Value} (F : FnOk X.prog X.w X.K X.mg X.base (L2.CX X.prog X.w) k f fd ps sp) (hr : Room k X.A) (hb : Binds X.K fd ps []) (tw : Takes X W) (M : Meth X.K C "__contains__" f) (I : Inv X pins σ H s) (rx : RelV x u) (ry : RelV y v)
    (h : AskO C sp W σ x [y] H fun z H' => Lk H' fun H'' => ∃ b, z = .bl b ∧ Q (.bl (if neg then !b else b)) H'') : wpAny (model X.prog X.w) X.A (compareOp (if neg then .NotIn else .In) v u) (EP X pins σ Q) X.xe s := by
  obtain ⟨p, dx, fs, rfl, ea, hsp⟩ := h
  cases rx
  obtain ⟨mA, J, _⟩ := ins_get I.hok ea
  obtain ⟨od, J, _⟩ := J.look
  obtain ⟨mm, hF⟩ := I.fr
  have run := run_own F rfl hr hb tw I (us := [.ref p, v]) (vs := [.ref p, y]) (.cons rfl (.cons ry .nil)) hsp
  cases neg with
  | false =>
    refine PySem.W.in_K hF I.ok.mod.kin J M.at_ M.fn (thn run fun w s3 ⟨z, H3, I3, rz, lk⟩ => ?_)
    obtain ⟨H4, I4, b, ez, q3⟩ := Lk.run lk I3
    subst ez
    cases rz
    exact wpAny_truthy_bool ⟨.bl b, H4, I4, rfl, q3⟩
  | true =>
    refine PySem.W.notIn_K hF I.ok.mod.kin J M.at_ M.fn (thn run fun w s3 ⟨z, H3, I3, rz, lk⟩ => ?_)
    obtain ⟨H4, I4, b, ez, q3⟩ := Lk.run lk I3
    subst ez
    cases rz
    exact wpAny_truthy_bool ⟨.bl (!b), H4, I4, rfl, q3⟩
theorem pe_inO {a b : Expr} {ta tb : TE} (neg : Bool) (F : FnOk X.prog X.w X.K X.mg X.base (L2.CX X.prog X.w) k f fd ps sp) (hr : Room k X.A) (hb : Binds X.K fd ps []) (tw : Takes X W) (M : Meth X.K C "__contains__" f) (ha : PE X a ta) (hb' : PE X b tb) (hm : behindInMarks (if neg then .NotIn else .In) b = false) :
    PE X (.Compare a [if neg then .NotIn else .In] [b] pos) (tInO C sp W neg ta tb) := by
  refine ⟨fun pins s σ H Q I h => ?_⟩
  exact wpAny_Compare1 (binT ha hb' I (R := fun y x H2 => AskO C sp W σ x [y] H2 fun z H' => Lk H' fun H'' => ∃ b, z = .bl b ∧ Q (.bl (if neg then !b else b)) H'') h fun v u s2 x y H2 I2 rx ry q => in_own (C := C) (g := C) F hr hb tw M I2 ry rx q) hm
theorem pt_inO {a b : Expr} {ta tb : TE} (neg : Bool) (F : FnOk X.prog X.w X.K X.mg X.base (L2.CX X.prog X.w) k f fd ps sp) (hr : Room k X.A) (hb : Binds X.K fd ps []) (tw : Takes X W) (M : Meth X.K C "__contains__" f) (ha : PE X a ta) (hb' : PE X b tb) (hm : behindInMarks (if neg then .NotIn else .In) b = false) :
    PT X (.Compare a [if neg then .NotIn else .In] [b] pos) (tTest (tInO C sp W neg ta tb)) := by
  refine ⟨fun pins s σ H Q I h => ?_⟩
  refine wpAny_isTrue_Compare1 (thn (ha.run pins s σ H _ I h) fun v s1 ⟨x, H1, I1, r1, q1⟩ => thn (hb'.run pins s1 σ H1 _ I1 q1) fun u s2 ⟨y, H2, I2, r2, q2⟩ =>
    thn (in_own (C := C) (g := C) (Q := fun x H' => ∃ k, x = .bl k ∧ Q k H') F hr hb tw M I2 r2 r1 q2) fun c s3 ⟨z, H3, I3, r3, k, e, q3⟩ => ?_) hm
  subst e
  cases r3
  exact wpAny_truthy_bool ⟨H3, I3, q3⟩
/-! ### <=, < -/
/-- what a shared call tells, a bool -/
def dCmpS (c : Str) (fm : Fm) (x y : Mi.D) (G : Gp) : Out Mi.D := match insOf G x with
  | some (c1, _) => (match insOf G y with
    | some (c2, _) => if c1 = c ∧ c2 = c then (match callS fm 2 [x, y] G with
      | .ok (.bl b) G' => .ok (.bl b) G'
      | _ => .bad) else .bad
    | none => .bad)
  | none => .bad
theorem ok_cmpS {c : Str} {fm : Fm} (hm : X.mg c = some (.ref C)) : R2Ok X (rCmp (ct X) C fm) (dCmpS c fm) := by
  intro W F ro H G x y vx vy σ Q ok rx ry h
  unfold dCmpS at h
  cases e1 : insOf G x with
  | none => rw [e1] at h; exact h.elim
  | some p1 =>
    obtain ⟨c1, fs1⟩ := p1
    rw [e1] at h
    simp only at h
    cases e2 : insOf G y with
    | none => rw [e2] at h; exact h.elim
    | some p2 =>
      obtain ⟨c2, fs2⟩ := p2
      rw [e2] at h
      simp only at h
      split at h
      · rename_i hc
        obtain ⟨rfl, rfl⟩ := hc
        obtain ⟨a, C1, dx, ws, rfl, hC, hH, rf⟩ := insOf_ok ok rx e1
        obtain ⟨b, C2, dy, ws2, rfl, hC2, hH2, rf2⟩ := insOf_ok ok ry e2
        have e3 := hm.symm.trans hC
        have e4 := hm.symm.trans hC2
        cases e3
        cases e4
        refine ⟨a, b, dx, dy, ws, ws2, rfl, rfl, hH, hH2, ?_⟩
        have key : Post (ct X) WF (RD (ct X)) F ro H σ (fun v H' => (∃ b, v = .bl b) ∧ Q v H') (callS fm 2 [x, y] G) := by
          cases e3 : callS fm 2 [x, y] G with
          | bad => rw [e3] at h; exact h
          | exc _ _ _ => rw [e3] at h; exact h.elim
          | ok d G' =>
            rw [e3] at h
            intro F' ro' H' v n ok' rv
            cases d <;> try exact h.elim
            cases rv
            exact ⟨⟨_, rfl⟩, h F' ro' H' _ n ok' (.bl _)⟩
        exact (ck_S (W := WF) σ (fun v H' => (∃ b, v = .bl b) ∧ Q v H') F ro H G _ _ ok (.cons rx (.cons ry .nil)) key).imp fun v H' q => Lk.const q
      · exact h.elim
/-! ### a &= b -/
def tIand (C : Addr) (sp : Sp) : TIp := fun x y H Q => ∃ a dx fs, x = .ref a ∧ H a = some (.ins C dx fs) ∧ sp [x, y] H (fun v H' => (∃ b, v = .ref b) ∧ Lk H' (Q v)) fun _ _ _ => False
theorem fills_own {M : Model} {h : Heap} {nm : String} {cd : ClassData} {rest : List Value} {add : Bool} {K : PySem.W.Frag} (X : K.In h) (hc : PySem.W.clsIn K C = some cd) (hm : cd.mro = .ref C :: rest) (hs : PySem.W.findIn K (.ref C) (PySem.dunderI nm) = some (some (.ref f))) : PySem.W.Looks M h (fillsInplaceSlot (.ref C) nm add) true := by
  intro A Q E s k q
  unfold fillsInplaceSlot
  refine wpAny_bind ((PySem.W.looks_clsIn X hc).andThen (f := fun cd => pure cd.mro) .now A _ E s k ?_)
  rw [hm, List.anyM_cons]
  refine wpAny_bind (wpAny_bind (PySem.W.looks_findIn X hs A _ E s k ?_))
  dsimp only
  rw [if_pos (show (!ownNameWrapper (.ref f) (PySem.dunderI nm)) = true from rfl)]
  refine wpAny_pure ?_
  rw [if_pos rfl]
  exact wpAny_pure q
theorem ip_iand (F : FnOk X.prog X.w X.K X.mg X.base (L2.CX X.prog X.w) k f fd ps sp) (hr : Room k X.A) (hb : Binds X.K fd ps []) (M : Meth X.K C "__iand__" f) (hc : PySem.W.selfFirst X.K C = true) : PIp X .BitAnd (tIand C sp) := by
  intro pins s σ H x y v u Q I rx ry h
  obtain ⟨a, dx, fs, rfl, ea, hsp⟩ := h
  cases rx
  obtain ⟨mA, J, _⟩ := ins_get I.hok ea
  obtain ⟨od, J, _⟩ := J.look
  obtain ⟨mm, hF⟩ := I.fr
  have KI := I.kIn
  obtain ⟨cd, hcd, hm⟩ := PySem.W.any_some hc
  obtain ⟨rest, hm⟩ : ∃ rest, cd.mro = .ref C :: rest := by
    cases q : cd.mro with
    | nil => rw [q] at hm; cases hm
    | cons a r => rw [q] at hm; exact ⟨r, by rw [List.head?_cons] at hm; cases (beq_iff_eq.mp hm); rfl⟩
  have en : PySem.dunderI Operator.BitAnd.info.2 = ("__iand__" : Str) := by kernel_rfl
  have hat : PySem.W.findIn X.K (.ref C) (PySem.dunderI Operator.BitAnd.info.2) = some (some (.ref f)) := by rw [en]; exact M.at_
  unfold inplaceOp
  refine wpAny_holding (wpAny_bind (J.type.here (wpAny_bind ((fills_own (nm := Operator.BitAnd.info.2) KI hcd hm hat).here ?_))))
  rw [if_pos rfl]
  refine wpAny_bind (m := tryMethod (.ref a) _ u) ?_
  unfold tryMethod
  have tw0 : Takes X WF := fun _ _ ⟨_, _, _, _, _, _, _, _, _, _, _, _, _, _, _, _, z⟩ => z.elim
  refine wpAny_bind (PySem.W.special_fn KI J hat (beq_iff_eq.mp M.fn) (thn (run_own (us := [.ref a, u]) (vs := [.ref a, y]) F rfl hr hb tw0 I (.cons rfl (.cons ry .nil)) hsp) fun w s3 ⟨z, H3, I3, rz, ⟨b, ez⟩, lk⟩ => ?_))
  subst ez
  cases rz
  obtain ⟨H4, I4, q4⟩ := Lk.run lk I3
  exact wpAny_pure (wpAny_bind (wpAny_rule (wpAny_pure ⟨.ref b, H4, I4, rfl, q4⟩)))
/-! ### mirrors -/
def askD (c : Str) (g : List Mi.D → Gp → Out Mi.D) (x : Mi.D) (ds : List Mi.D) (G : Gp) : Out Mi.D := match insOf G x with
  | some (c1, _) => if c1 = c then g (x :: ds) G else .bad
  | none => .bad
theorem ask_ok {c : Str} {fm : Fm} {np : Nat} {g : List Mi.D → Gp → Out Mi.D} (hg : CallOk (ct X) W fm np g) (hm : X.mg c = some (.ref C)) {F H : Hp} {ro : List Addr} {G : Gp} {x : Mi.D} {ds : List Mi.D} {vx : V} (ok : Ok (ct X) F ro H G) (rx : Rep (ct X) F ro x vx) (rs : Reps (ct X) F ro ds vs)
    (h : Post (ct X) W (RD (ct X)) F ro H σ Q (askD c g x ds G)) : AskO C (SpF (ct X) fm np) W σ vx vs H (fun v H' => Lk H' (Q v)) := by
  unfold askD at h
  cases e : insOf G x with
  | none => rw [e] at h; exact h.elim
  | some p =>
    obtain ⟨c1, fs⟩ := p
    rw [e] at h
    simp only at h
    split at h
    · rename_i hc
      subst hc
      obtain ⟨a, C1, dx, ws, rfl, hC, hH, rf⟩ := insOf_ok ok rx e
      have e3 := hm.symm.trans hC
      cases e3
      exact ⟨a, dx, ws, rfl, hH, hg σ Q F ro H G _ _ ok (.cons rx rs) h⟩
    · exact h.elim
def mOix (c : Str) (g : List Mi.D → Gp → Out Mi.D) (a b : Ex) : Ex := fun env G => (a env G).bind fun x G1 => (b env G1).bind fun y G2 => askD c g x [y] G2
theorem em_oix {c : Str} {fm : Fm} {g : List Mi.D → Gp → Out Mi.D} {j : Nat} {a b : Expr} {ma mb : Ex} (F : OwG X.prog X.w X.K X.mg X.base j c "__getitem__" fm 2) (hg : CallOk (ct X) W fm 2 g) (hr : Room k X.A) (hjk : j + 1 ≤ k) (tw : Takes X W) (ha : PEm X W a ma) (hb : PEm X W b mb)
    (hs : ∀ o i, subscripted b true o i = runValue (.builtin "lifetime.subscript" ⟨[o, i], []⟩) := by intro _ _; rfl) (hc : X.calm = true := by rfl) : PEm X W (.Subscript a b pos) (mOix c g ma mb) := by
  obtain ⟨C, f, fd, ps, h1, h2, h3, h4, h5⟩ := F
  rw [ct_calm hc] at h4
  refine PE.imp (PE.lk (pe_oix h4 (hr.mono hjk).in1 h5 tw h2 h3 ha hb hs)) fun σ H Q ⟨F, ro, G, env, ok, ev, hh⟩ => ?_
  refine ⟨F, ro, G, env, ok, ev, (PostB (R := RD (ct X)) hh).imp fun vx H1 ⟨F1, ro1, x, G1, n1, ok1, r1, q1⟩ => ?_⟩
  refine ⟨F1, ro1, G1, env, ok1, ev.nx n1, (PostB (R := RD (ct X)) q1).imp fun vy H2 ⟨F2, ro2, y, G2, n2, ok2, r2, q2⟩ => ?_⟩
  exact ask_ok hg h1 ok2 (r1.nx n2) (.cons r2 .nil) q2
def mSetO (c : Str) (g : List Mi.D → Gp → Out Mi.D) (e o i : Ex) : Sx := fun env G => (e env G).toS env fun v G1 => (o env G1).toS env fun x G2 => (i env G2).toS env fun y G3 => (askD c g x [y, v] G3).toS env fun _ G4 => .nx env G4
theorem sm_setO {c : Str} {fm : Fm} {g : List Mi.D → Gp → Out Mi.D} {j : Nat} {o i e : Expr} {me mo mi : Ex} (F : OwG X.prog X.w X.K X.mg X.base j c "__setitem__" fm 3) (hg : CallOk (ct X) W fm 3 g) (hr : Room k X.A) (hjk : j ≤ k) (tw : Takes X W) (hq : PySem.W.noSeq X.K (He.ga X.K c) = true) (hmg : X.mg c = some (.ref (He.ga X.K c))) (he : PEm X W e me) (ho : PEm X W o mo) (hi : PEm X W i mi)
    (hc : X.calm = true := by rfl) (hs : swapsWithSole [.Subscript o i pos'] e pos.line X.env = pure false := by rfl) (hw : swappedStores [.Subscript o i pos'] e X.env = pure none := by rfl)
    (h1 : (assignEach [.Subscript o i pos'] X.env).map (·.2) = [assign (.Subscript o i pos') X.env] := by rfl)
    (ha : ∀ v, assign (.Subscript o i pos') X.env v = (do
      let ov ← holding [v] (eval o X.env)
      let iv ← holding [v, ov] (eval i X.env)
      standAt pos'
      holding [v, ov, iv] (setItem ov iv v)
      release [v, ov, iv] []) := by intro _; rfl) : PSm X W (.Assign [.Subscript o i pos'] e pos) (mSetO c g me mo mi) := by
  obtain ⟨C, f, fd, ps, k1, k2, k3, k4, k5⟩ := F
  rw [ct_calm hc] at k4
  have eC := hmg.symm.trans k1
  cases eC
  refine PS.imp (PS.lk (ps_asg he (pg_setO k4 (hr.mono hjk) k5 tw k2 hq ho hi ha) hs hw h1)) fun D σ H ⟨F, ro, G, env, ok, ev, hh⟩ => ?_
  refine ⟨F, ro, G, env, ok, ev, (PostBS (R := RD (ct X)) ev hh).imp fun vv H1 ⟨F1, ro1, v, G1, n1, ok1, r1, q1⟩ => ?_⟩
  refine ⟨F1, ro1, G1, env, ok1, ev.nx n1, (PostBS (R := RD (ct X)) (ev.nx n1) q1).imp fun vx H2 ⟨F2, ro2, x, G2, n2, ok2, r2, q2⟩ => ?_⟩
  have ev2 := (ev.nx n1).nx n2
  refine ⟨F2, ro2, G2, env, ok2, ev2, (PostBS (R := RD (ct X)) ev2 q2).imp fun vy H3 ⟨F3, ro3, y, G3, n3, ok3, r3, q3⟩ => ?_⟩
  have ev3 := ev2.nx n3
  have := ask_ok (Q := fun _ H' => D.nx σ H') hg k1 ok3 (r2.nx n3) (.cons r3 (.cons ((r1.nx n2).nx n3) .nil)) ((PostBS (R := RD (ct X)) ev3 q3).imp fun v4 H4 ⟨F4, ro4, d4, G4, n4, ok4, r4, q4⟩ => q4 F4 ro4 H4 σ (Nx.refl ok4.sub) ok4 (ev3.nx n4))
  exact this
def mInO (c : Str) (g : List Mi.D → Gp → Out Mi.D) (neg : Bool) (a b : Ex) : Ex := fun env G => (a env G).bind fun y G1 => (b env G1).bind fun x G2 => (askD c g x [y] G2).bind fun d G3 => match d with
  | .bl b => .ok (.bl (if neg then !b else b)) G3
  | _ => .bad
theorem inO_ok {c : Str} {fm : Fm} {g : List Mi.D → Gp → Out Mi.D} {neg : Bool} {ma mb : Ex} (hg : CallOk (ct X) W fm 2 g) (hm : X.mg c = some (.ref C)) (σ : L2.St) (H : Hp) (Q : VK) (h : T (ct X) W (mInO c g neg ma mb) σ H Q) : tInO C (SpF (ct X) fm 2) W neg (T (ct X) W ma) (T (ct X) W mb) σ H Q := by
  obtain ⟨F, ro, G, env, ok, ev, hh⟩ := h
  refine ⟨F, ro, G, env, ok, ev, (PostB (R := RD (ct X)) hh).imp fun vy H1 ⟨F1, ro1, y, G1, n1, ok1, r1, q1⟩ => ?_⟩
  refine ⟨F1, ro1, G1, env, ok1, ev.nx n1, (PostB (R := RD (ct X)) q1).imp fun vx H2 ⟨F2, ro2, x, G2, n2, ok2, r2, q2⟩ => ?_⟩
  exact ask_ok (Q := fun z H' => ∃ b, z = .bl b ∧ Q (.bl (if neg then !b else b)) H') hg hm ok2 r2 (.cons (r1.nx n2) .nil) ((PostB (R := RD (ct X)) q2).imp fun v4 H4 ⟨F4, ro4, d4, G4, n4, ok4, r4, q4⟩ => by
    cases r4 with
    | bl b => exact ⟨b, rfl, q4 F4 ro4 H4 _ (Nx.refl ok4.sub) ok4 (.bl _)⟩
    | _ => exact q4.elim)
theorem em_inO {c : Str} {fm : Fm} {g : List Mi.D → Gp → Out Mi.D} {j : Nat} {a b : Expr} {ma mb : Ex} (neg : Bool) (F : OwG X.prog X.w X.K X.mg X.base j c "__contains__" fm 2) (hg : CallOk (ct X) W fm 2 g) (hr : Room k X.A) (hjk : j ≤ k) (tw : Takes X W) (ha : PEm X W a ma) (hb : PEm X W b mb)
    (hm : behindInMarks (if neg then .NotIn else .In) b = false) (hc : X.calm = true := by rfl) : PEm X W (.Compare a [if neg then .NotIn else .In] [b] pos) (mInO c g neg ma mb) := by
  obtain ⟨C, f, fd, ps, h1, h2, h3, h4, h5⟩ := F
  rw [ct_calm hc] at h4
  exact PE.imp (pe_inO neg h4 (hr.mono hjk) h5 tw h2 ha hb hm) (inO_ok hg h1)
theorem tm_inO {c : Str} {fm : Fm} {g : List Mi.D → Gp → Out Mi.D} {j : Nat} {a b : Expr} {ma mb : Ex} (neg : Bool) (F : OwG X.prog X.w X.K X.mg X.base j c "__contains__" fm 2) (hg : CallOk (ct X) W fm 2 g) (hr : Room k X.A) (hjk : j ≤ k) (tw : Takes X W) (ha : PEm X W a ma) (hb : PEm X W b mb)
    (hm : behindInMarks (if neg then .NotIn else .In) b = false) (hc : X.calm = true := by rfl) : PTm X W (.Compare a [if neg then .NotIn else .In] [b] pos) (mB (mInO c g neg ma mb)) := by
  obtain ⟨C, f, fd, ps, h1, h2, h3, h4, h5⟩ := F
  rw [ct_calm hc] at h4
  exact PT.imp (pt_inO neg h4 (hr.mono hjk) h5 tw h2 ha hb hm) fun σ H Q h => inO_ok hg h1 σ H _ (tB_ok σ H Q h)
theorem em_cmpS {c m : Str} {fm : Fm} {op : CmpOp} {j : Nat} {a b : Expr} {ma mb : Ex} (F : CmG X.prog X.w X.K X.mg X.base j c m fm) (hr : Room k X.A) (hjk : j ≤ k) (tw : Takes X W) (ha : PEm X W a ma) (hb : PEm X W b mb) (hm : behindInMarks op b = false) (hop : (cmpInfo op).2.1 = m := by rfl) (hcm : ∀ v u, compareOp op v u = richCompare op v u := by intro _ _; rfl)
    (hc : X.calm = true := by rfl) : PEm X W (.Compare a [op] [b] pos) (m2 (dCmpS c fm) ma mb) := by
  obtain ⟨C, g, fd, ps, h1, h2, h3, h4⟩ := F
  rw [ct_calm hc] at h3
  exact em_cmp (op_cmp h3 (hr.mono hjk) h4 tw h2 hop hcm) (ok_cmpS h1) ha hb hm
theorem tm_cmpS {c m : Str} {fm : Fm} {op : CmpOp} {j : Nat} {a b : Expr} {ma mb : Ex} (F : CmG X.prog X.w X.K X.mg X.base j c m fm) (hr : Room k X.A) (hjk : j ≤ k) (tw : Takes X W) (ha : PEm X W a ma) (hb : PEm X W b mb) (hm : behindInMarks op b = false) (hop : (cmpInfo op).2.1 = m := by rfl) (hcm : ∀ v u, compareOp op v u = richCompare op v u := by intro _ _; rfl)
    (hc : X.calm = true := by rfl) : PTm X W (.Compare a [op] [b] pos) (mB (m2 (dCmpS c fm) ma mb)) := by
  obtain ⟨C, g, fd, ps, h1, h2, h3, h4⟩ := F
  rw [ct_calm hc] at h3
  exact tm_cmp (op_cmp h3 (hr.mono hjk) h4 tw h2 hop hcm) (ok_cmpS h1) ha hb hm
/-- x &= e, x an own object: the method gives an object back -/
def mIand (c : Str) (fm : Fm) (i : Nat) (e : Ex) : Sx := fun env G => match env[i]? with
  | some (some x) => (e env G).toS env fun y G1 => (match askD c (callS fm 2) x [y] G1 with
    | .ok (.cel n) G2 => .nx (env.set i (some (.cel n))) G2
    | _ => .bad)
  | _ => .bad
theorem sm_iand {c : Str} {fm : Fm} {j i : Nat} {x : Str} {e : Expr} {me : Ex} (F : OwG X.prog X.w X.K X.mg X.base j c "__iand__" fm 2) (hr : Room k X.A) (hjk : j ≤ k) (hsf : PySem.W.selfFirst X.K (He.ga X.K c) = true) (hmg : X.mg c = some (.ref (He.ga X.K c))) (hxn : exNo X i) (hN : X.N.Nodup) (hi : X.N[i]? = some x) (hx : Loc X.env.scope x) (he : PEm X W e me)
    (hf : X.fn x = true ∨ X.env.scope.names.lookup x = some .local := by first | exact .inl rfl | exact .inr rfl | assumption) (hc : X.calm = true := by rfl) : PSm X W (.AugAssign (.Name x pos') .BitAnd e pos) (mIand c fm i me) := by
  obtain ⟨C, f, fd, ps, k1, k2, k3, k4, k5⟩ := F
  rw [ct_calm hc] at k4
  have eC := hmg.symm.trans k1
  cases eC
  refine PS.imp (ps_aug hN hi hx he (ip_iand k4 (hr.mono hjk) k5 k2 hsf) hf) fun D σ H ⟨F, ro, G, env, ok, ev, h⟩ => ?_
  unfold mIand at h
  cases e1 : env[i]? with
  | none => rw [e1] at h; exact h.elim
  | some o =>
    cases o with
    | none => rw [e1] at h; exact h.elim
    | some d =>
      rw [e1] at h
      simp only at h
      obtain ⟨v, hσ, rv⟩ := ev.2.1 i _ e1 hxn.ne
      refine ⟨v, hσ, F, ro, G, env, ok, ev, (PostBS (R := RD (ct X)) ev h).imp fun vy H1 ⟨F1, ro1, y, G1, n1, ok1, r1, q1⟩ => ?_⟩
      have key : Post (ct X) WF (RD (ct X)) F1 ro1 H1 σ (fun z H' => (∃ b, z = .ref b) ∧ D.nx (σ.set i (some z)) H') (askD c (callS fm 2) d [y] G1) := by
        cases ea : askD c (callS fm 2) d [y] G1 with
        | bad => rw [ea] at q1; exact q1.elim
        | exc _ _ _ => rw [ea] at q1; exact q1.elim
        | ok dz G2 =>
          rw [ea] at q1
          intro F2 ro2 H2 z n2 ok2 r2
          cases dz <;> try exact q1.elim
          cases r2 with
          | cel hz => exact ⟨⟨_, rfl⟩, q1 F2 ro2 H2 _ n2 ok2 (((ev.nx n1).nx n2).set (.cel hz) i)⟩
      obtain ⟨a, dx, fs, ex, ea, hsp⟩ := ask_ok (W := WF) (ck_S) k1 ok1 (rv.nx n1) (.cons r1 .nil) key
      subst ex
      exact ⟨a, dx, fs, rfl, ea, hsp.imp fun z H' q => Lk.const q⟩
end
end Mi

set_option maxHeartbeats 4000000
/-! MiS: o(..), o an own object in a local name. -/
namespace Mi
open PySem PySem.Spec PyProof.Rows L2
section
variable {prog : Program} {w : World} {A : Around} {E : Value → Shared → Prop} {s : Shared} {K : PySem.W.Frag} {x C f : Addr} {ox : Obj} {od : Option Obj}
theorem codeAny_inst {us : List Value} {R : Result → Shared → Prop} (X : K.In s.heap) (I : PySem.W.InstAt s.heap x ox C od) (hd : ox.data = .plain) (hs : PySem.W.findIn K (.ref C) "__call__" = some (some (.ref f))) (hf : PySem.W.isFn K (.ref f) = true) (hfn : PySem.W.fnIn K f = true)
    (h : codeAny (model prog w) A (.call (.ref f) ⟨.ref x :: us, []⟩) R s) : codeAny (model prog w) A (.call (.ref x) ⟨us, []⟩) R s := by
  refine codeAny_of_tree ?_
  show wpAny _ _ (callAny (.ref x) ⟨us, []⟩) _ _ _
  unfold callAny
  refine wpAny_bind (wpAny_load I.at_ ?_)
  rw [hd]
  dsimp only
  unfold callAny.viaDunder
  refine wpAny_bind (wpAny_bind (I.type.here ((PySem.W.looks_findIn X hs).here ?_)))
  dsimp only
  refine wpAny_bind ((PySem.W.bind_fn X _ (beq_iff_eq.mp hf)).here ?_)
  dsimp only
  unfold PySem.W.fnIn at hfn
  split at hfn
  · rename_i e
    unfold callAny.plainCallee
    refine wpAny_bind (wpAny_bind (wpAny_load (X _ _ e) (wpAny_pure ?_)))
    rw [if_pos rfl]
    exact wpAny_pure ⟨rfl, h⟩
  · cases hfn
theorem callWith_inst {env : Env} {pos : Pos} {e : Expr} {rest : List Expr} {Q : Value → Shared → Prop} (h : wpAny (model prog w) A (spliced (backTo pos (starEach (e :: rest) env))) (fun vs s₁ => (∃ ox, s₁.heap.get? x = some ox ∧ ox.data = .plain) ∧ wpAny (model prog w) A (call (.ref x) vs) Q E s₁) E s)
    (he : starEach (e :: rest) env = (false, eval e env) :: starEach rest env := by rfl) (hplain : (backTo pos (starEach rest env)).any (·.1) = false := by rfl) :
    wpAny (model prog w) A (callWith pos (.ref x) [] (backTo pos (starEach (e :: rest) env)) []) Q E s := by
  have hpl : ((backTo pos (starEach (e :: rest) env)).any (·.1) || ([] : List (Option Str × Sem Value)).any (·.1.isNone)) = false := by
    rw [he]
    show ((false || (backTo pos (starEach rest env)).any (·.1)) || false) = false
    rw [hplain]
    rfl
  unfold callWith
  rw [he] at h
  have h2 : wpAny (model prog w) A (evalArgs (.ref x) true (backTo pos (starEach (e :: rest) env)) []) (fun a s₁ => (∃ ox, s₁.heap.get? x = some ox ∧ ox.data = .plain) ∧ wpAny (model prog w) A (call (.ref x) a.pos a.kw) Q E s₁) E s := by
    rw [he]
    exact PySem.Calls.evalArgs_plain h
  refine wpAny_bind (wpAny_holding (wpAny_mono h2 (fun a s₁ h₁ => wpAny_bind (wpAny_standAt ?_)) fun _ _ x => x))
  obtain ⟨⟨ox, ho, hd⟩, h₁⟩ := h₁
  simp only [hpl]
  unfold keeperOf
  refine wpAny_bind (wpAny_bind (wpAny_load ho ?_))
  rw [hd]
  refine wpAny_pure ?_
  refine wpAny_bind ?_
  exact wpAny_operating (wpAny_mono h₁ (fun r s₂ hr => wpAny_bind (wpAny_holding (wpAny_point (wpAny_pure hr)))) fun _ _ x => x)
end
section
variable {X : Cx} {W : WX} {k : Nat} {f C : Addr} {fd : FuncData} {ps : List Str} {sp : Sp} {pos p : Pos} {i : Nat} {x : Str} {e : Expr} {es : List Expr} {t : L2.TA}
/-- an own object in slot i is called -/
def tCallO (i : Nat) (C : Addr) (n : Nat) (sp : Sp) (gV : List V → List V → List V) (W : WX) (t : L2.TA) : TE := fun σ H Q => ∃ a dx fs, σ[i]? = some (some (.ref a)) ∧ H a = some (.ins C dx fs) ∧ t σ H fun vs H1 => (∃ dx fs, H1 a = some (.ins C dx fs)) ∧ vs.length = n ∧ sp (gV (.ref a :: vs) []) H1 Q (WE W σ)
theorem pe_callO {n : Nat} {g : List Value → List Value → List Value} {gV : List V → List V → List V} (F : FnOk X.prog X.w X.K X.mg X.base (L2.CX X.prog X.w) k f fd ps sp) (hr : Room k X.A) (hb : KBn X.K fd ps (n + 1) [] g gV) (tw : Takes X W) (M : Meth X.K C "__call__" f) (hfn : PySem.W.fnIn X.K f = true) (hN : X.N[i]? = some x) (hv : Vis X.env.scope x) (ha : PA X (e :: es) t)
    (hd : (x == ("__debug__" : Str)) = false := by decide) (hcd : (x == ("__classdict__" : Str)) = false := by decide)
    (he : starEach (e :: es) X.env = (false, eval e X.env) :: starEach es X.env := by rfl) (hpl : (backTo pos (starEach es X.env)).any (·.1) = false := by rfl) : PE X (.Call (.Name x p) (e :: es) [] pos) (tCallO i C n sp gV W t) := by
  refine ⟨fun pins s σ H Q I h => ?_⟩
  obtain ⟨a, dx, fs, hs, ea, h⟩ := h
  refine wpAny_Call_Name_kw (thn ((pe_var (pos := p) (i := i) hN hv hd hcd).run pins s σ H (fun v H1 => v = .ref a ∧ H1 = H) I ⟨.ref a, hs, rfl, rfl⟩) fun u s1 ⟨v, H1, I1, r1, ev, eH⟩ => ?_)
  subst ev
  rw [eH] at I1
  cases r1
  refine callWith_inst (thn (ha.run pos pins s1 σ H _ I1 h) fun us s2 ⟨vs, H2, I2, r, ⟨dx2, fs2, e2⟩, hl, q⟩ => ?_) he hpl
  obtain ⟨mA, J, _⟩ := ins_get I2.hok e2
  obtain ⟨od, J, _⟩ := J.look
  refine ⟨⟨_, J.at_, rfl⟩, ?_⟩
  have r2 : Vals (V.ref a :: vs) (Value.ref a :: us) := .cons rfl r
  have n1 : (Value.ref a :: us).length = n + 1 := by rw [List.length_cons, ← r.length, hl]
  refine wpAny_call (codeAny_inst I2.kIn J rfl M.at_ M.fn hfn (codeAny_mono (F.run X.A X.stack s2 H2 ⟨.ref a :: us, []⟩ (g (.ref a :: us) []) (gV (.ref a :: vs) []) Q (WE W σ) hr I2.env0 (hb.to s2 (.ref a :: us) [] I2.kIn n1 rfl) (hb.rel r2 .nil) q) fun r s' hq => ?_))
  cases r with
  | error e => exact passAt tw σ pins _ _ e s' I2 hq
  | ok fl =>
    cases fl with
    | ret u => exact I2.after hq
    | next => exact False.elim hq
    | brk => exact False.elim hq
    | cont => exact False.elim hq
end
/-! ### mirrors -/
/-- the code of a method is a def's -/
def FnM (K : PySem.W.Frag) (mg : Str → Option Value) (c m : Str) : Prop := ∀ C f, mg c = some (.ref C) → Meth K C m f → PySem.W.fnIn K f = true
theorem fn_in {K : PySem.W.Frag} {x qual : Str} {params : Arguments} {body : List Stmt} {scope : Scope} {dvs : List V} {kws : List (Str × V)} {f : Addr} {fd : FuncData} (F : FunD K x qual params body scope dvs kws f fd) : PySem.W.fnIn K f = true := by
  obtain ⟨oc, od, dV, kV, doc, pm, an, cdv, ct, osl, _, lk, _⟩ := F.ex
  unfold PySem.W.fnIn
  rw [lk]
theorem FnM.mk {K : PySem.W.Frag} {mg : Str → Option Value} {c m x qual : Str} {params : Arguments} {body : List Stmt} {scope : Scope} {dvs : List V} {kws : List (Str × V)} {C f : Addr} {fd : FuncData} (hm : mg c = some (.ref C)) (M : Meth K C m f) (F : FunD K x qual params body scope dvs kws f fd) : FnM K mg c m := fun C' f' h M' => by
  cases hm.symm.trans h
  have e := M.at_.symm.trans M'.at_
  cases e
  exact fn_in F
section
variable {X : Cx} {W : WX} {k j i n np : Nat} {c x : Str} {pos p : Pos} {e : Expr} {es : List Expr} {ma : Ax} {fm : Fm} {h : List Mi.D → List Mi.D → List Mi.D} {g : List Mi.D → Gp → Out Mi.D}
def mCallO (c : Str) (g : List Mi.D → Gp → Out Mi.D) (i n : Nat) (h : List Mi.D → List Mi.D → List Mi.D) (a : Ax) : Ex := fun env G => match env[i]? with
  | some (some d) => (match insOf G d with
    | some (c1, _) => if c1 = c then (a env G).bind fun ds G1 => (match insOf G1 d with
      | some (c2, _) => if c2 = c ∧ ds.length = n then g (d :: h ds []) G1 else .bad
      | none => .bad) else .bad
    | none => .bad)
  | _ => .bad
theorem em_callO (F : MtG X.prog X.w X.K X.mg X.base j c "__call__" n [] h fm np) (hM : FnM X.K X.mg c "__call__") (hg : CallOk (ct X) W fm np g) (hr : Room k X.A) (hjk : j ≤ k) (tw : Takes X W) (ha : PAm X W (e :: es) ma)
    (hc : X.calm = true := by rfl) (hN : X.N[i]? = some x := by rfl) (hv : Vis X.env.scope x := by first | exact Or.inl rfl | exact Or.inr (Or.inl rfl) | exact Or.inr (Or.inr rfl))
    (hd : (x == ("__debug__" : Str)) = false := by decide) (hcd : (x == ("__classdict__" : Str)) = false := by decide)
    (he : starEach (e :: es) X.env = (false, eval e X.env) :: starEach es X.env := by rfl) (hpl : (backTo pos (starEach es X.env)).any (·.1) = false := by rfl) : PEm X W (.Call (.Name x p) (e :: es) [] pos) (mCallO c g i n h ma) := by
  obtain ⟨C, f, fd, ps, gg, gV, hV, h1, h2, h2', h3, h4, h5, h6⟩ := F
  rw [ct_calm hc] at h3 h6
  have hxn : exNo X i := by unfold exNo; rw [exA_calm hc]; rfl
  refine PE.imp (PE.lk (pe_callO h3 (hr.mono hjk) h4 tw h2' (hM C f h1 h2') hN hv ha hd hcd he hpl)) fun σ H Q ⟨F, ro, G, env, ok, ev, hh⟩ => ?_
  unfold mCallO at hh
  cases e1 : env[i]? with
  | none => rw [e1] at hh; exact hh.elim
  | some o =>
    cases o with
    | none => rw [e1] at hh; exact hh.elim
    | some d =>
      rw [e1] at hh
      simp only at hh
      obtain ⟨v, hσ, rv⟩ := ev.2.1 i _ e1 hxn.ne
      cases e2 : insOf G d with
      | none => rw [e2] at hh; exact hh.elim
      | some pr =>
        obtain ⟨c1, fs1⟩ := pr
        rw [e2] at hh
        simp only at hh
        split at hh
        · rename_i hc1
          subst hc1
          obtain ⟨a, C1, dx, ws, rfl, hC, hH, rf⟩ := insOf_ok ok rv e2
          have e3 := h1.symm.trans hC
          cases e3
          refine ⟨a, dx, ws, hσ, hH, F, ro, G, env, ok, ev, (PostB (R := RA (ct X)) hh).imp fun vs H1 ⟨F1, ro1, ds, G1, n1, ok1, r1, q1⟩ => ?_⟩
          cases e4 : insOf G1 d with
          | none => rw [e4] at q1; exact q1.elim
          | some pr2 =>
            obtain ⟨c2, fs2⟩ := pr2
            rw [e4] at q1
            simp only at q1
            split at q1
            · rename_i hc2
              obtain ⟨rfl, hl⟩ := hc2
              obtain ⟨a2, C2, dx2, ws2, ea, hC2, hH2, rf2⟩ := insOf_ok ok1 (rv.nx n1) e4
              cases ea
              have e5 := h1.symm.trans hC2
              cases e5
              have l1 : vs.length = n := by rw [← Reps.length r1]; exact hl
              refine ⟨⟨dx2, ws2, hH2⟩, l1, ?_⟩
              rw [h5 _ _ _ l1 rfl]
              exact hg σ Q F1 ro1 H1 G1 _ _ ok1 (.cons (rv.nx n1) (h6.rep F1 ro1 _ _ _ _ r1 .nil)) q1
            · exact q1.elim
        · exact hh.elim
end
end Mi

set_option maxHeartbeats 4000000
/-! MiT: min, max of two; words for own operators. -/
namespace Mi
open PySem PySem.Spec PyProof.Rows L2
def dMin2 : List Mi.D → Gp → Out Mi.D
  | [.int i, .int j], G => .ok (.int (if j < i then j else i)) G
  | _, _ => .bad
def dMax2 : List Mi.D → Gp → Out Mi.D
  | [.int i, .int j], G => .ok (.int (if j > i then j else i)) G
  | _, _ => .bad
section
variable {X : Cx}
theorem ok_min2 : CROk X (fun xs H Q => ∃ i j, xs = [.int i, .int j] ∧ Q (.int (if j < i then j else i)) H) dMin2 := by
  intro W F ro H G ds vs σ Q ok rs h
  unfold dMin2 at h
  split at h
  · cases rs with
    | cons r rs =>
      cases rs with
      | cons r2 rs =>
        cases rs
        cases r
        cases r2
        exact ⟨_, _, rfl, lkd (h.ok (R := RD (ct X)) ok (.int _))⟩
  · exact h.elim
theorem ok_max2 : CROk X (fun xs H Q => ∃ i j, xs = [.int i, .int j] ∧ Q (.int (if j > i then j else i)) H) dMax2 := by
  intro W F ro H G ds vs σ Q ok rs h
  unfold dMax2 at h
  split at h
  · cases rs with
    | cons r rs =>
      cases rs with
      | cons r2 rs =>
        cases rs
        cases r
        cases r2
        exact ⟨_, _, rfl, lkd (h.ok (R := RD (ct X)) ok (.int _))⟩
  · exact h.elim
end
/-- n values are written, the defaults behind the first j fill up -/
theorem kb_dfl {K : PySem.W.Frag} {x qual : Str} {params : Arguments} {body : List Stmt} {scope : Scope} {dvs : List V} {kws : List (Str × V)} {f : Addr} {fd : FuncData} {ps : List Str} (n j : Nat) (F : FunD K x qual params body scope dvs kws f fd)
    (hd : dvs ≠ []) (hn : n + (dvs.length - j) = ps.length)
    (hbind : ∀ (T : Addr) (kV doc pm : Value) (an : Option Addr) (cdv ct : Value) (us its : List Value), us.length = n → its.length = dvs.length →
      ∃ k, bindArgs (PySem.W.fnOf x qual params body scope (.ref T) kV doc pm an cdv ct) ⟨us, []⟩ = seqItems? (.ref T) >>= k ∧ k (some its.toArray) = pure (ps.zip (us ++ its.drop j))) :
    ∃ ds, KBn K fd ps n [] (fun us _ => us ++ ds) (fun vs _ => vs ++ dvs.drop j) := by
  obtain ⟨ds, hv, hB⟩ := F.binds1 (ps := ps) n j hd hn hbind
  refine ⟨ds, fun s us ws hK hl hw => ?_, fun r rz => r.append hv⟩
  have hw' : ws = [] := List.length_eq_zero_iff.mp hw
  subst hw'
  have := hB s us hK (by
    have e := hv.length
    simp only [List.length_append, ← e, List.length_drop]
    omega)
  simpa using this
@[simp] theorem x_mOix (c g a b env G) : mOix c g a b env G = (a env G).bind fun x G1 => (b env G1).bind fun y G2 => askD c g x [y] G2 := (rfl)
@[simp] theorem x_mSetO (c g e o i env G) : mSetO c g e o i env G = (e env G).toS env fun v G1 => (o env G1).toS env fun x G2 => (i env G2).toS env fun y G3 => (askD c g x [y, v] G3).toS env fun _ G4 => .nx env G4 := (rfl)
@[simp] theorem x_mInO (c g neg a b env G) : mInO c g neg a b env G = (a env G).bind fun y G1 => (b env G1).bind fun x G2 => (askD c g x [y] G2).bind fun d G3 => match d with
  | .bl b => .ok (.bl (if neg then !b else b)) G3
  | _ => .bad := (rfl)
theorem x_mCallO (c g i n h a env G) : mCallO c g i n h a env G = match env[i]? with
  | some (some d) => (match insOf G d with
    | some (c1, _) => if c1 = c then (a env G).bind fun ds G1 => (match insOf G1 d with
      | some (c2, _) => if c2 = c ∧ ds.length = n then g (d :: h ds []) G1 else .bad
      | none => .bad) else .bad
    | none => .bad)
  | _ => .bad := (rfl)
theorem ask_ins {c : Str} {g : List Mi.D → Gp → Out Mi.D} {x : Mi.D} {ds : List Mi.D} {G : Gp} {fs : List (Str × Mi.D)} (h : insOf G x = some (c, fs)) : askD c g x ds G = g (x :: ds) G := by
  unfold askD
  rw [h]
  simp
end Mi

set_option maxHeartbeats 40000000
/-! Cm: mirrors of what many laws reach. -/
namespace Mi
open PySem PySem.Spec PyProof.Rows L2 NdefX
noncomputable section
def k_ENTRIES : Mi.D := (.tup [(.str "read late"), (.str "read under"), (.str "read below"), (.str "read above"), (.str "write late"), (.str "write under"), (.str "write below"), (.str "write above"), (.str "write free passed"), (.str "write own passed"), (.str "write late passed"), (.str "write under passed"), (.str "write below passed"), (.str "write above passed")])
def k_READ_ANSWERS : Mi.D := (.dck [("read late", (.tup [(.str "last"), (.str "old"), (.str "abort")])), ("read under", (.tup [(.str "last"), (.str "old"), (.str "open"), (.str "wait"), (.str "abort")])), ("read below", (.tup [(.str "last"), (.str "open"), (.str "wait"), (.str "abort")])), ("read above", (.tup [(.str "last"), (.str "open"), (.str "wait"), (.str "abort")]))])
def k_NEW_ITEM : Mi.D := (.tup [(.tup [(.tup [(.int 0), (.int 0)])]), .non, (.int 0), (.int 0)])
def k_FIXED_READS : Mi.D := (.dck [("free", (.str "last")), ("own", (.str "open"))])
def b_law_cell : Sx := mSeq (mIfS (mB (m2 dLt (mV 1) (mCB dLen (mCons (mV 0) (mNil))))) (mRet (m2 dIx (mV 0) (mV 1))) (mNop)) (mRet (mC (.int 0)))
def m_law_cell : Fm := fnM 2 b_law_cell
def t_law_entries_3 : Sx := mRet (m2 dAdd (mV 0) (mLstF (mCons (mC (.str "write under passed")) (mCons (mC (.str "write below passed")) (mCons (mC (.str "write above passed")) (mNil))))))
def t_law_entries_2 : Sx := mSeq (mSet 0 (m2 dAdd (mV 0) (mLstF (mCons (mC (.str "write free passed")) (mCons (mC (.str "write own passed")) (mCons (mC (.str "write late passed")) (mNil))))))) (t_law_entries_3)
def t_law_entries_1 : Sx := mSeq (mSet 0 (m2 dAdd (mV 0) (mLstF (mCons (mC (.str "write late")) (mCons (mC (.str "write under")) (mCons (mC (.str "write below")) (mCons (mC (.str "write above")) (mNil)))))))) (t_law_entries_2)
def b_law_entries : Sx := mSeq (mSet 0 (mLstF (mCons (mC (.str "read late")) (mCons (mC (.str "read under")) (mCons (mC (.str "read below")) (mCons (mC (.str "read above")) (mNil))))))) (t_law_entries_1)
def m_law_entries : Fm := fnM 1 b_law_entries
def l_law_row_1 : Sx := mIfS (mB (m2 dGe (mV 0) (m2 dPow (mC (.int 10)) (mC (.int 18))))) (mSeq (mEx (mMt "list" fAppend (mV 3) (mCons (m2 dMod (mCB dInt (mCons (mV 4) (mNil))) (mV 2)) (mNil)))) (mSet 4 (m2 dDiv (mV 4) (mV 2)))) (mSeq (mSet 5 (m2 dMod (mCB dInt (mCons (m2 dAdd (m2 dMul (mV 5) (mC (.int 48271))) (mC (.int 11))) (mNil))) (mC (.int 2147483647)))) (mSeq (mSet 5 (m2 dMod (mCB dInt (mCons (m2 dAdd (m2 dMul (mV 5) (mC (.int 16807))) (mV 6)) (mNil))) (mC (.int 2147483629)))) (mEx (mMt "list" fAppend (mV 3) (mCons (m2 dMod (mCB dInt (mCons (m2 dDiv (mV 5) (mC (.int 1009))) (mNil))) (mV 2)) (mNil))))))
def t_law_row_4 : Sx := mRet (mV 3)
def t_law_row_3 : Sx := mSeq (mFor (iRng1m (mCons (mV 1) (mNil))) (gN 6) (l_law_row_1)) (t_law_row_4)
def t_law_row_2 : Sx := mSeq (mSet 5 (m2 dMod (mCB dInt (mCons (m2 dAdd (m2 dMul (mV 0) (mC (.int 48271))) (mC (.int 69621))) (mNil))) (mC (.int 2147483647)))) (t_law_row_3)
def t_law_row_1 : Sx := mSeq (mSet 4 (mV 0)) (t_law_row_2)
def b_law_row : Sx := mSeq (mSet 3 (mLstC (mNil))) (t_law_row_1)
def m_law_row : Fm := fnM 7 b_law_row
def t_law_choices_5 : Sx := mRet (mLstF (mCons (mC (.str "skip")) (mCons (mC (.str "wait")) (mCons (mC (.str "wound")) (mCons (mC (.str "abort")) (mNil))))))
def t_law_choices_4 : Sx := mSeq (mIfS (mB (m2 dIn (mV 0) (mLstF (mCons (mC (.str "write late")) (mCons (mC (.str "write late passed")) (mNil)))))) (mRet (mLstF (mCons (mC (.str "skip")) (mCons (mC (.str "abort")) (mNil))))) (mNop)) (t_law_choices_5)
def t_law_choices_3 : Sx := mSeq (mIfS (mB (m2 dIn (mV 0) (mLstF (mCons (mC (.str "write free passed")) (mCons (mC (.str "write own passed")) (mNil)))))) (mRet (mLstF (mCons (mC (.str "put")) (mCons (mC (.str "abort")) (mNil))))) (mNop)) (t_law_choices_4)
def t_law_choices_2 : Sx := mSeq (mIfS (mB (m2 dIn (mV 0) (mLstF (mCons (mC (.str "read below")) (mCons (mC (.str "read above")) (mNil)))))) (mRet (mLstF (mCons (mC (.str "last")) (mCons (mC (.str "open")) (mCons (mC (.str "wait")) (mCons (mC (.str "abort")) (mNil))))))) (mNop)) (t_law_choices_3)
def t_law_choices_1 : Sx := mSeq (mIfS (mB (m2 dEq (mV 0) (mC (.str "read under")))) (mRet (mLstF (mCons (mC (.str "last")) (mCons (mC (.str "old")) (mCons (mC (.str "open")) (mCons (mC (.str "wait")) (mCons (mC (.str "abort")) (mNil)))))))) (mNop)) (t_law_choices_2)
def b_law_choices : Sx := mSeq (mIfS (mB (m2 dEq (mV 0) (mC (.str "read late")))) (mRet (mLstF (mCons (mC (.str "last")) (mCons (mC (.str "old")) (mCons (mC (.str "abort")) (mNil)))))) (mNop)) (t_law_choices_1)
def m_law_choices : Fm := fnM 1 b_law_choices
def l_law_table_1 : Sx := mSeq (mSet 5 (mCall m_law_choices 1 [] (mCons (m2 dIx (mV 2) (mV 4)) (mNil)))) (mAsg (gSubM (mV 1) (m2 dIx (mV 2) (mV 4))) (m2 dIx (mV 5) (m2 dMod (mCB dInt (mCons (m2 dIx (mV 3) (mV 4)) (mNil))) (mCB dLen (mCons (mV 5) (mNil))))))
def t_law_table_4 : Sx := mRet (mV 1)
def t_law_table_3 : Sx := mSeq (mFor (iRng1m (mCons (mC (.int 14)) (mNil))) (gN 4) (l_law_table_1)) (t_law_table_4)
def t_law_table_2 : Sx := mSeq (mSet 3 (mCall m_law_row 3 [] (mCons (mV 0) (mCons (mC (.int 14)) (mCons (mC (.int 60)) (mNil)))))) (t_law_table_3)
def t_law_table_1 : Sx := mSeq (mSet 2 (mCall m_law_entries 0 [] mNil)) (t_law_table_2)
def b_law_table : Sx := mSeq (mSet 1 (mDnC)) (t_law_table_1)
def m_law_table : Fm := fnM 6 b_law_table
def t_law_fits_7 : Sx := mRet (mAndV (m2 dIn (mV 0) (mLstF (mCons (mC (.str "write own passed")) (mCons (mC (.str "write above passed")) (mNil))))) (mNotV (mV 3)))
def t_law_fits_6 : Sx := mSeq (mIfS (mB (m2 dEq (mV 0) (mC (.str "write below")))) (mRet (mAndV (mV 4) (mV 6))) (mNop)) (t_law_fits_7)
def t_law_fits_5 : Sx := mSeq (mIfS (mB (m2 dIn (mV 0) (mLstF (mCons (mC (.str "write late")) (mCons (mC (.str "write under")) (mNil)))))) (mRet (mV 6)) (mNop)) (t_law_fits_6)
def t_law_fits_4 : Sx := mSeq (mIfS (mB (m2 dEq (mV 0) (mC (.str "read above")))) (mRet (mAndV (m2 dEq (mV 1) (mC (.str "open"))) (mV 3))) (mNop)) (t_law_fits_5)
def t_law_fits_3 : Sx := mSeq (mIfS (mB (m2 dEq (mV 0) (mC (.str "read below")))) (mRet (mAndV (m2 dEq (mV 1) (mC (.str "last"))) (mNotV (mV 4)))) (mNop)) (t_law_fits_4)
def t_law_fits_2 : Sx := mSeq (mIfS (mB (m2 dIn (mV 0) (mLstF (mCons (mC (.str "read late")) (mCons (mC (.str "read under")) (mNil)))))) (mRet (mAndV (m2 dEq (mV 1) (mC (.str "old"))) (mV 5))) (mNop)) (t_law_fits_3)
def t_law_fits_1 : Sx := mSeq (mIfS (mB (m2 dIn (mV 1) (mLstF (mCons (mC (.str "wait")) (mCons (mC (.str "wound")) (mCons (mC (.str "abort")) (mNil))))))) (mRet (mC (.bl true))) (mNop)) (t_law_fits_2)
def b_law_fits : Sx := mSeq (mAsg (gTupD 4 (gsCons 3 (gsCons 4 (gsCons 5 (gsCons 6 (gsNil)))))) (mV 2)) (t_law_fits_1)
def m_law_fits : Fm := fnM 7 b_law_fits
def l_law_sound_1 : Sx := mSeq (mSet 11 (mCall m_law_choices 1 [] (mCons (m2 dIx (mV 9) (mV 10)) (mNil)))) (mSeq (mSet 12 (mLc 13 [13] (iAny (mV 11)) (mTru (mCall m_law_fits 3 [] (mCons (m2 dIx (mV 9) (mV 10)) (mCons (mV 13) (mCons (mV 7) (mNil)))))) (mV 13))) (mSeq (mAsg (gSubM (mV 8) (m2 dIx (mV 9) (mV 10))) (m2 dIx (mV 12) (mC (.int 0)))) (mIfS (mB (m2 dGt (m2 dMod (m2 dIx (mV 3) (mV 10)) (mC (.int 3))) (mC (.int 0)))) (mAsg (gSubM (mV 8) (m2 dIx (mV 9) (mV 10))) (m2 dIx (mV 12) (m2 dMod (mCB dInt (mCons (m2 dDiv (m2 dIx (mV 3) (mV 10)) (mC (.int 3))) (mNil))) (mCB dLen (mCons (mV 12) (mNil)))))) (mNop))))
def t_law_sound_8 : Sx := mRet (mV 8)
def t_law_sound_7 : Sx := mSeq (mFor (iRng1m (mCons (mC (.int 14)) (mNil))) (gN 10) (l_law_sound_1)) (t_law_sound_8)
def t_law_sound_6 : Sx := mSeq (mSet 9 (mCall m_law_entries 0 [] mNil)) (t_law_sound_7)
def t_law_sound_5 : Sx := mSeq (mSet 8 (mDnC)) (t_law_sound_6)
def t_law_sound_4 : Sx := mSeq (mSet 7 (mLstF (mCons (mV 4) (mCons (mV 5) (mCons (mOrV (mV 6) (m2 dEq (mV 2) (mC (.int 1)))) (mCons (mOrV (m2 dEq (mV 2) (mC (.int 1))) (mNotV (mV 6))) (mNil))))))) (t_law_sound_5)
def t_law_sound_3 : Sx := mSeq (mSet 6 (m2 dEq (m2 dMod (m2 dIx (mV 3) (mC (.int 16))) (mC (.int 2))) (mC (.int 1)))) (t_law_sound_4)
def t_law_sound_2 : Sx := mSeq (mSet 5 (mAndV (m2 dEq (mV 1) (mC (.str "after"))) (m2 dEq (m2 dMod (m2 dIx (mV 3) (mC (.int 15))) (mC (.int 2))) (mC (.int 1))))) (t_law_sound_3)
def t_law_sound_1 : Sx := mSeq (mSet 4 (mAndV (m2 dEq (mV 1) (mC (.str "after"))) (m2 dEq (m2 dMod (m2 dIx (mV 3) (mC (.int 14))) (mC (.int 2))) (mC (.int 1))))) (t_law_sound_2)
def b_law_sound : Sx := mSeq (mSet 3 (mCall m_law_row 3 [] (mCons (mV 0) (mCons (mC (.int 17)) (mCons (mC (.int 60)) (mNil)))))) (t_law_sound_1)
def m_law_sound : Fm := fnM 14 b_law_sound
def t_law_terms_7 : Sx := mRet (mTup (mCons (mV 5) (mCons (mV 2) (mCons (mV 4) (mNil)))))
def t_law_terms_6 : Sx := mSeq (mIfS (mB (m2 dEq (mV 3) (mC (.int 2)))) (mSeq (mSet 6 (m2 dIx (mCall m_law_entries 0 [] mNil) (m2 dMod (mCB dInt (mCons (m2 dDiv (mV 1) (mC (.int 40))) (mNil))) (mC (.int 14))))) (mSeq (mSet 7 (mCall m_law_choices 1 [] (mCons (mV 6) (mNil)))) (mAsg (gSubM (mV 5) (mV 6)) (m2 dIx (mV 7) (m2 dMod (mCB dInt (mCons (m2 dDiv (mV 1) (mC (.int 560))) (mNil))) (mCB dLen (mCons (mV 7) (mNil)))))))) (mNop)) (t_law_terms_7)
def t_law_terms_5 : Sx := mSeq (mIfS (mB (m2 dIn (mV 3) (mLstF (mCons (mC (.int 1)) (mCons (mC (.int 2)) (mNil)))))) (mSet 5 (mCallA m_law_sound 3 [] (mCons (mCall m_law_cell 2 [] (mCons (mV 0) (mCons (mC (.int 1)) (mNil)))) (mCons (mV 2) (mCons (mV 4) (mNil)))))) (mNop)) (t_law_terms_6)
def t_law_terms_4 : Sx := mSeq (mSet 5 (mCallA m_law_table 1 [] (mCons (mCall m_law_cell 2 [] (mCons (mV 0) (mCons (mC (.int 1)) (mNil)))) (mNil)))) (t_law_terms_5)
def t_law_terms_3 : Sx := mSeq (mSet 4 (m2 dIx (mLstF (mCons (mC (.int 1)) (mCons (mC (.int 2)) (mCons (mC (.int 3)) (mCons (mC (.int 20)) (mCons (mC (.int 5)) (mNil))))))) (m2 dMod (mCB dInt (mCons (m2 dDiv (mV 1) (mC (.int 8))) (mNil))) (mC (.int 5))))) (t_law_terms_4)
def t_law_terms_2 : Sx := mSeq (mSet 3 (m2 dMod (mCB dInt (mCons (m2 dDiv (mV 1) (mC (.int 2))) (mNil))) (mC (.int 4)))) (t_law_terms_3)
def t_law_terms_1 : Sx := mSeq (mSet 2 (m2 dIx (mLstF (mCons (mC (.str "now")) (mCons (mC (.str "after")) (mNil)))) (m2 dMod (mCB dInt (mCons (mV 1) (mNil))) (mC (.int 2))))) (t_law_terms_2)
def b_law_terms : Sx := mSeq (mSet 1 (mCall m_law_cell 2 [] (mCons (mV 0) (mCons (mC (.int 0)) (mNil))))) (t_law_terms_1)
def m_law_terms : Fm := fnM 8 b_law_terms
def b_is_integer : Sx := mRet (mAndV (mCB dIsi (mCons (mV 0) (mCons (mC (.ty "int")) (mNil)))) (mNotV (mCB dIsi (mCons (mV 0) (mCons (mC (.ty "bool")) (mNil))))))
def m_is_integer : Fm := fnM 1 b_is_integer
def t_answers_at_5 : Sx := mRet (mTup (mCons (mC (.str "skip")) (mCons (mC (.str "wait")) (mCons (mC (.str "wound")) (mCons (mC (.str "abort")) (mNil))))))
def t_answers_at_4 : Sx := mSeq (mIfS (mB (m2 dEq (mV 1) (mC (.str "late")))) (mRet (mTup (mCons (mC (.str "skip")) (mCons (mC (.str "abort")) (mNil))))) (mNop)) (t_answers_at_5)
def t_answers_at_3 : Sx := mSeq (mIfS (mB (m2 dIn (mV 1) (mTup (mCons (mC (.str "free")) (mCons (mC (.str "own")) (mNil)))))) (mRet (mTup (mCons (mC (.str "put")) (mCons (mC (.str "abort")) (mNil))))) (mNop)) (t_answers_at_4)
def t_answers_at_2 : Sx := mSeq (mSet 1 (m2 dIx (mMt "str" fSplit (mV 0) (mCons (mC (.str " ")) (mNil))) (mC (.int 1)))) (t_answers_at_3)
def t_answers_at_1 : Sx := mSeq (mIfS (mB (m2 dIn (mV 0) (mC k_READ_ANSWERS))) (mRet (m2 dIx (mC k_READ_ANSWERS) (mV 0))) (mNop)) (t_answers_at_2)
def b_answers_at : Sx := mSeq (mIfS (mB (m2 dNin (mV 0) (mC k_ENTRIES))) (mRaise "BadEntry" ["entry"] (mCons (mV 0) (mNil))) (mNop)) (t_answers_at_1)
def m_answers_at : Fm := fnM 2 b_answers_at
def b_check_answer : Sx := mIfS (mB (m2 dNin (mV 1) (mCall m_answers_at 1 [] (mCons (mV 0) (mNil))))) (mRaise "BadAnswer" ["entry", "answer"] (mCons (mV 0) (mCons (mV 1) (mNil)))) (mNop)
def m_check_answer : Fm := fnM 2 b_check_answer
def l_Book_init_1 : Sx := mSeq (mEx (mCall m_check_answer 2 [] (mCons (mV 4) (mCons (m2 dIx (mV 1) (mV 4)) (mNil))))) (mAsg (gSubM (mFld ["Book"] "table" (mV 0)) (mV 4)) (m2 dIx (mV 1) (mV 4)))
def t_Book_init_6 : Sx := mIfS (mB (m2 dNotN (mV 1) (mC .non))) (mForK 1 (gN 4) (l_Book_init_1)) (mNop)
def t_Book_init_5 : Sx := mSeq (mAsg (gFld ["Book"] "table" (mV 0)) (mDcC 4 [4] (iAny (mC k_ENTRIES)) (mYes) (mV 4) (mC (.str "abort")))) (t_Book_init_6)
def t_Book_init_4 : Sx := mSeq (mAsg (gFld ["Book"] "names" (mV 0)) (mC k_ENTRIES)) (t_Book_init_5)
def t_Book_init_3 : Sx := mSeq (mAsg (gFld ["Book"] "kept" (mV 0)) (mV 3)) (t_Book_init_4)
def t_Book_init_2 : Sx := mSeq (mAsg (gFld ["Book"] "rule" (mV 0)) (mV 2)) (t_Book_init_3)
def t_Book_init_1 : Sx := mSeq (mIfS (mOr (mNot (mTru (mCall m_is_integer 1 [] (mCons (mV 3) (mNil))))) (mOr (mB (m2 dLt (mV 3) (mC (.int 1)))) (mB (m2 dGt (mV 3) (mC (.int 20)))))) (mRaise "BadSetting" ["given"] (mCons (mV 3) (mNil))) (mNop)) (t_Book_init_2)
def b_Book_init : Sx := mSeq (mIfS (mOr (mNot (mTru (mCB dIsi (mCons (mV 2) (mCons (mC (.ty "str")) (mNil)))))) (mB (m2 dNin (mV 2) (mTup (mCons (mC (.str "now")) (mCons (mC (.str "after")) (mNil))))))) (mRaise "BadSetting" ["given"] (mCons (mV 2) (mNil))) (mNop)) (t_Book_init_1)
def m_Book_init : Fm := fnM 5 b_Book_init
def l_law_marks_1 : Sx := mSeq (mSet 4 (m2 dAdd (mV 4) (m2 dIx (mV 2) (mV 5)))) (mEx (mMt "list" fAppend (mV 3) (mCons (mV 4) (mNil))))
def t_law_marks_4 : Sx := mRet (mV 3)
def t_law_marks_3 : Sx := mSeq (mFor (iAny (mCall m_law_row 3 [] (mCons (mV 0) (mCons (mV 1) (mCons (mC (.int 7)) (mNil)))))) (gN 5) (l_law_marks_1)) (t_law_marks_4)
def t_law_marks_2 : Sx := mSeq (mSet 4 (mC (.int 0))) (t_law_marks_3)
def t_law_marks_1 : Sx := mSeq (mSet 3 (mLstC (mNil))) (t_law_marks_2)
def b_law_marks : Sx := mSeq (mSet 2 (mLstF (mCons (mC (.int 1)) (mCons (mC (.int 1)) (mCons (mC (.int 2)) (mCons (mC (.int 7)) (mCons (mC (.int 93)) (mCons (m2 dPow (mC (.int 10)) (mC (.int 12))) (mCons (m2 dPow (mC (.int 10)) (mC (.int 28))) (mNil)))))))))) (t_law_marks_1)
def m_law_marks : Fm := fnM 6 b_law_marks
def t_law_names_3 : Sx := mRet (mLstF (mCons (mV 3) (mCons (m2 dAdd (mV 3) (m2 dIx (mV 1) (m2 dIx (mV 2) (mC (.int 8))))) (mNil))))
def t_law_names_2 : Sx := mSeq (mSet 3 (mMt "str" fJoin (mC (.str "")) (mCons (mLc 4 [4] (iAny (mSl fSl (mV 2) (mNo) (mPart (m2 dAdd (mC (.int 1)) (m2 dMod (mCB dInt (mCons (mV 0) (mNil))) (mC (.int 7))))))) (mYes) (m2 dIx (mV 1) (mV 4))) (mNil)))) (t_law_names_3)
def t_law_names_1 : Sx := mSeq (mSet 2 (mCall m_law_row 3 [] (mCons (mV 0) (mCons (mC (.int 9)) (mCons (mC (.int 36)) (mNil)))))) (t_law_names_2)
def b_law_names : Sx := mSeq (mSet 1 (mC (.str "abcdefghijklmnopqrstuvwxyz0123456789"))) (t_law_names_1)
def m_law_names : Fm := fnM 5 b_law_names
def b_law_one : Sx := mSeq (mIfS (mB (m2 dGe (mV 0) (m2 dPow (mC (.int 10)) (mC (.int 18))))) (mRet (m2 dMod (mCB dInt (mCons (mV 0) (mNil))) (mV 2))) (mNop)) (mRet (m2 dIx (mCall m_law_row 3 [] (mCons (m2 dAdd (m2 dMul (mV 0) (mC (.int 64))) (mV 1)) (mCons (mC (.int 1)) (mCons (mV 2) (mNil))))) (mC (.int 0))))
def m_law_one : Fm := fnM 3 b_law_one
def l_law_steps_1 : Sx := mSeq (mSet 6 (m2 dIx (mV 3) (m2 dMod (mCB dInt (mCons (mV 5) (mNil))) (mC (.int 16))))) (mSeq (mSet 7 (m2 dIx (mV 1) (m2 dMod (mCB dInt (mCons (m2 dDiv (mV 5) (mC (.int 16))) (mNil))) (mCB dLen (mCons (mV 1) (mNil)))))) (mIfS (mB (m2 dIn (mV 6) (mLstF (mCons (mC (.str "read")) (mCons (mC (.str "write")) (mNil)))))) (mEx (mMt "list" fAppend (mV 4) (mCons (mTup (mCons (mV 6) (mCons (mV 7) (mCons (m2 dIx (mV 2) (m2 dMod (mCB dInt (mCons (m2 dDiv (mV 5) (m2 dMul (mC (.int 16)) (mCB dLen (mCons (mV 1) (mNil))))) (mNil))) (mCB dLen (mCons (mV 2) (mNil))))) (mNil))))) (mNil)))) (mEx (mMt "list" fAppend (mV 4) (mCons (mTup (mCons (mV 6) (mCons (mV 7) (mNil)))) (mNil))))))
def t_law_steps_4 : Sx := mRet (mV 4)
def t_law_steps_3 : Sx := mSeq (mFor (iAny (mV 0)) (gN 5) (l_law_steps_1)) (t_law_steps_4)
def t_law_steps_2 : Sx := mSeq (mSet 4 (mLstC (mNil))) (t_law_steps_3)
def t_law_steps_1 : Sx := mSeq (mSet 3 (m2 dAdd (mV 3) (mLstF (mCons (mC (.str "write")) (mCons (mC (.str "read")) (mCons (mC (.str "commit")) (mCons (mC (.str "read")) (mCons (mC (.str "write")) (mCons (mC (.str "read")) (mCons (mC (.str "write")) (mCons (mC (.str "commit")) (mNil)))))))))))) (t_law_steps_2)
def b_law_steps : Sx := mSeq (mSet 3 (mLstF (mCons (mC (.str "read")) (mCons (mC (.str "write")) (mCons (mC (.str "commit")) (mCons (mC (.str "write")) (mCons (mC (.str "read")) (mCons (mC (.str "write")) (mCons (mC (.str "read")) (mCons (mC (.str "abort")) (mNil))))))))))) (t_law_steps_1)
def m_law_steps : Fm := fnM 8 b_law_steps
def l_law_run_1 : Sx := mEx (mMt "list" fAppend (mV 6) (mCons (mCall m_law_one 3 [] (mCons (m2 dIx (mV 0) (mV 7)) (mCons (mV 7) (mCons (mV 5) (mNil))))) (mNil)))
def t_law_run_6 : Sx := mRet (mCall m_law_steps 3 [] (mCons (mFz (mV 6)) (mCons (mV 3) (mCons (mV 4) (mNil)))))
def t_law_run_5 : Sx := mSeq (mFor (iRng2m (mCons (m2 dAdd (mV 1) (mC (.int 3))) (mCons (mCB dLen (mCons (mV 0) (mNil))) (mNil)))) (gN 7) (l_law_run_1)) (t_law_run_6)
def t_law_run_4 : Sx := mSeq (mSet 6 (mCallA m_law_row 3 [] (mCons (mCall m_law_cell 2 [] (mCons (mV 0) (mCons (m2 dAdd (mV 1) (mC (.int 2))) (mNil)))) (mCons (m2 dMod (mCB dInt (mCons (m2 dAdd (mCall m_law_cell 2 [] (mCons (mV 0) (mCons (m2 dAdd (mV 1) (mC (.int 1))) (mNil)))) (mC (.int 9))) (mNil))) (mC (.int 25))) (mCons (mV 5) (mNil)))))) (t_law_run_5)
def t_law_run_3 : Sx := mSeq (mSet 5 (m2 dMul (m2 dMul (mC (.int 16)) (mCB dLen (mCons (mV 3) (mNil)))) (mCB dLen (mCons (mV 4) (mNil))))) (t_law_run_4)
def t_law_run_2 : Sx := mSeq (mSet 4 (mSl fSl (mCall m_law_names 1 [] (mCons (mV 2) (mNil))) (mNo) (mPart (m2 dAdd (mC (.int 1)) (m2 dMod (mCB dInt (mCons (m2 dDiv (mV 2) (mC (.int 5))) (mNil))) (mC (.int 2))))))) (t_law_run_3)
def t_law_run_1 : Sx := mSeq (mSet 3 (mCall m_law_marks 2 [] (mCons (mV 2) (mCons (m2 dAdd (mC (.int 2)) (m2 dMod (mCB dInt (mCons (mV 2) (mNil))) (mC (.int 5)))) (mNil))))) (t_law_run_2)
def b_law_run : Sx := mSeq (mSet 2 (mCall m_law_cell 2 [] (mCons (mV 0) (mCons (mV 1) (mNil))))) (t_law_run_1)
def m_law_run : Fm := fnM 8 b_law_run
def b_is_item : Sx := mSeq (mIfS (mOr (mNot (mTru (mCB dIsi (mCons (mV 0) (mCons (mC (.ty "str")) (mNil)))))) (mOr (mB (m2 dLt (mCB dLen (mCons (mV 0) (mNil))) (mC (.int 1)))) (mB (m2 dGt (mCB dLen (mCons (mV 0) (mNil))) (mC (.int 8)))))) (mRet (mC (.bl false))) (mNop)) (mRet (mCB dAll (mCons (mLc 1 [1] (iAny (mV 0)) (mYes) (m2 dIn (mV 1) (mC (.str "abcdefghijklmnopqrstuvwxyz0123456789")))) (mNil))))
def m_is_item : Fm := fnM 2 b_is_item
def t_is_step_3 : Sx := mRet (mAndV (m2 dIn (m2 dIx (mV 0) (mC (.int 0))) (mTup (mCons (mC (.str "read")) (mCons (mC (.str "write")) (mNil))))) (mAndV (m2 dEq (mCB dLen (mCons (mV 0) (mNil))) (mC (.int 3))) (mCall m_is_item 1 [] (mCons (m2 dIx (mV 0) (mC (.int 2))) (mNil)))))
def t_is_step_2 : Sx := mSeq (mIfS (mB (m2 dIn (m2 dIx (mV 0) (mC (.int 0))) (mTup (mCons (mC (.str "commit")) (mCons (mC (.str "abort")) (mNil)))))) (mRet (m2 dEq (mCB dLen (mCons (mV 0) (mNil))) (mC (.int 2)))) (mNop)) (t_is_step_3)
def t_is_step_1 : Sx := mSeq (mIfS (mOr (mNot (mTru (mCall m_is_integer 1 [] (mCons (m2 dIx (mV 0) (mC (.int 1))) (mNil))))) (mOr (mB (m2 dLt (m2 dIx (mV 0) (mC (.int 1))) (mC (.int 1)))) (mB (m2 dGt (m2 dIx (mV 0) (mC (.int 1))) (mC (.int 1000000000000000000000000000000)))))) (mRet (mC (.bl false))) (mNop)) (t_is_step_2)
def b_is_step : Sx := mSeq (mIfS (mOr (mNot (mTru (mCB dIsi (mCons (mV 0) (mCons (mC (.ty "tuple")) (mNil)))))) (mOr (mB (m2 dLt (mCB dLen (mCons (mV 0) (mNil))) (mC (.int 2)))) (mNot (mTru (mCB dIsi (mCons (m2 dIx (mV 0) (mC (.int 0))) (mCons (mC (.ty "str")) (mNil)))))))) (mRet (mC (.bl false))) (mNop)) (t_is_step_1)
def m_is_step : Fm := fnM 1 b_is_step
def l_check_run_1 : Sx := mIfS (mNot (mTru (mCall m_is_step 1 [] (mCons (m2 dIx (mV 0) (mV 1)) (mNil))))) (mRaise "BadStep" ["index"] (mCons (mV 1) (mNil))) (mNop)
def b_check_run : Sx := mFor (iRng1m (mCons (mCB dLen (mCons (mV 0) (mNil))) (mNil))) (gN 1) (l_check_run_1)
def m_check_run : Fm := fnM 2 b_check_run
def b_Book_terms : Sx := mRet (mTup (mCons (mDc 1 [1] (iAny (mC k_ENTRIES)) (mYes) (mV 1) (m2 dIx (mFld ["Book"] "table" (mV 0)) (mV 1))) (mCons (mFld ["Book"] "rule" (mV 0)) (mCons (mFld ["Book"] "kept" (mV 0)) (mNil)))))
def m_Book_terms : Fm := fnM 2 b_Book_terms
def b_start : Sx := mRet (mTup (mCons (mDn) (mCons (mDc 1 [1] (iAny (mV 0)) (mYes) (m2 dIx (mV 1) (mC (.int 1))) (mC (.str "open"))) (mCons (mDn) (mNil)))))
def m_start : Fm := fnM 2 b_start
def t_place_3 : Sx := mRet (mIf (mB (m2 dLt (mV 0) (mV 2))) (mC (.str "below")) (mC (.str "above")))
def t_place_2 : Sx := mSeq (mIfS (mB (m2 dLt (mV 0) (mV 1))) (mRet (mC (.str "under"))) (mNop)) (t_place_3)
def t_place_1 : Sx := mSeq (mIfS (mB (m2 dEq (mV 2) (mV 0))) (mRet (mC (.str "own"))) (mNop)) (t_place_2)
def b_place : Sx := mSeq (mIfS (mB (m2 dIsN (mV 2) (mC .non))) (mRet (mIf (mB (m2 dLt (mV 1) (mV 0))) (mC (.str "free")) (mC (.str "late")))) (mNop)) (t_place_1)
def m_place : Fm := fnM 3 b_place
def l_older_version_1 : Sx := mIfS (mB (m2 dLt (m2 dIx (mV 3) (mC (.int 0))) (mV 1))) (mSet 2 (mV 3)) (mNop)
def t_older_version_2 : Sx := mRet (mV 2)
def t_older_version_1 : Sx := mSeq (mFor (iAny (mV 0)) (gN 3) (l_older_version_1)) (t_older_version_2)
def b_older_version : Sx := mSeq (mSet 2 (mC .non)) (t_older_version_1)
def m_older_version : Fm := fnM 4 b_older_version
def l_fallen_with_1 : Sx := mIfS (mAnd (mB (m2 dEq (m2 dIx (mV 0) (mV 5)) (mC (.str "open")))) (mB (m2 dNin (mV 5) (mV 3)))) (mIfS (mTru (mCB dAny (mCons (mLc 6 [6] (iAny (mGet2 (mV 1) (mV 5) (mTup (mNil)))) (mYes) (m2 dIn (mV 6) (mV 3))) (mNil)))) (mSeq (mEx (mMt "list" fAppend (mV 3) (mCons (mV 5) (mNil)))) (mSet 4 (mC (.bl true)))) (mNop)) (mNop)
def l_fallen_with_2 : Sx := mSeq (mSet 4 (mC (.bl false))) (mFor (iAny (mV 0)) (gN 5) (l_fallen_with_1))
def t_fallen_with_3 : Sx := mRet (mCB dSorted (mCons (mLc 7 [7] (iAny (mFz (mV 3))) (mYes) (mCB dInt (mCons (mV 7) (mNil)))) (mNil)))
def t_fallen_with_2 : Sx := mSeq (mWhile (mTru (mV 4)) (l_fallen_with_2)) (t_fallen_with_3)
def t_fallen_with_1 : Sx := mSeq (mSet 4 (mC (.bl true))) (t_fallen_with_2)
def b_fallen_with : Sx := mSeq (mSet 3 (mLstC (mCons (mV 2) (mNil)))) (t_fallen_with_1)
def m_fallen_with : Fm := fnM 8 b_fallen_with
def l_dropped_1 : Sx := mSeq (mAsg (gTupD 4 (gsCons 8 (gsCons 9 (gsCons 10 (gsCons 11 (gsNil)))))) (m2 dIx (mV 2) (mV 7))) (mIfS (mAnd (mB (m2 dNotN (mV 9) (mC .non))) (mB (m2 dIn (mV 9) (mV 5)))) (mAsg (gSubM (mV 6) (mV 7)) (mTup (mCons (mV 8) (mCons (mC .non) (mCons (mC (.int 0)) (mCons (mV 11) (mNil))))))) (mAsg (gSubM (mV 6) (mV 7)) (mTup (mCons (mV 8) (mCons (mV 9) (mCons (mV 10) (mCons (mV 11) (mNil))))))))
def t_dropped_5 : Sx := mRet (mTup (mCons (mTup (mCons (mV 6) (mCons (mV 12) (mCons (mV 4) (mNil))))) (mCons (mCB dTuple (mCons (mV 5) (mNil))) (mNil))))
def t_dropped_4 : Sx := mSeq (mSet 12 (mDc 13 [13] (iAny (mV 3)) (mYes) (mV 13) (mIf (mB (m2 dIn (mV 13) (mV 5))) (mC (.str "aborted")) (m2 dIx (mV 3) (mV 13))))) (t_dropped_5)
def t_dropped_3 : Sx := mSeq (mFor (iAny (mV 2)) (gN 7) (l_dropped_1)) (t_dropped_4)
def t_dropped_2 : Sx := mSeq (mSet 6 (mDnC)) (t_dropped_3)
def t_dropped_1 : Sx := mSeq (mSet 5 (mCall m_fallen_with 3 [] (mCons (mV 3) (mCons (mV 4) (mCons (mV 1) (mNil)))))) (t_dropped_2)
def b_dropped : Sx := mSeq (mAsg (gTupD 3 (gsCons 2 (gsCons 3 (gsCons 4 (gsNil))))) (mV 0)) (t_dropped_1)
def m_dropped : Fm := fnM 14 b_dropped
def t_bound_2 : Sx := mRet (mStar (mV 0) (mV 2) (m2 dAdd (mV 4) (mTup (mCons (mV 3) (mNil)))))
def t_bound_1 : Sx := mSeq (mIfS (mOr (mB (m2 dEq (mV 1) (mC (.str "now")))) (mB (m2 dIn (mV 3) (mV 4)))) (mRet (mV 0)) (mNop)) (t_bound_2)
def b_bound : Sx := mSeq (mSet 4 (mGet2 (mV 0) (mV 2) (mTup (mNil)))) (t_bound_1)
def m_bound : Fm := fnM 5 b_bound
def t_read_step_13 : Sx := mRet (mTup (mCons (mTup (mCons (mV 20) (mCons (mV 8) (mCons (mV 9) (mNil))))) (mCons (mTup (mCons (mC (.str "read")) (mCons (mV 15) (mCons (m2 dIx (mV 17) (mC (.int 1))) (mCons (mTup (mNil)) (mNil)))))) (mNil))))
def t_read_step_12 : Sx := mSeq (mSet 20 (mStar (mV 7) (mV 3) (mTup (mCons (mV 10) (mCons (mV 11) (mCons (mV 12) (mCons (mV 13) (mNil)))))))) (t_read_step_13)
def t_read_step_11 : Sx := mSeq (mIfS (mB (m2 dGt (mV 2) (mV 13))) (mSet 13 (mV 2)) (mNop)) (t_read_step_12)
def t_read_step_10 : Sx := mSeq (mIfS (mB (m2 dEq (mV 16) (mC (.str "open")))) (mSeq (mSet 17 (mTup (mCons (mV 11) (mCons (mV 12) (mNil))))) (mIfS (mB (m2 dNe (mV 11) (mV 2))) (mSet 9 (mCall m_bound 4 [] (mCons (mV 9) (mCons (mV 5) (mCons (mV 2) (mCons (mV 11) (mNil))))))) (mNop))) (mNop)) (t_read_step_11)
def t_read_step_9 : Sx := mSeq (mIfS (mB (m2 dEq (mV 16) (mC (.str "abort")))) (mSeq (mAsg (gTupD 2 (gsCons 18 (gsCons 19 (gsNil)))) (mCall m_dropped 2 [] (mCons (mV 1) (mCons (mV 2) (mNil))))) (mRet (mTup (mCons (mV 18) (mCons (mTup (mCons (mC (.str "abort")) (mCons (mV 15) (mCons (mC .non) (mCons (mV 19) (mNil)))))) (mNil)))))) (mNop)) (t_read_step_10)
def t_read_step_8 : Sx := mSeq (mIfS (mB (m2 dEq (mV 16) (mC (.str "wait")))) (mRet (mTup (mCons (mV 1) (mCons (mTup (mCons (mC (.str "wait")) (mCons (mV 15) (mCons (mTup (mCons (mV 11) (mNil))) (mCons (mTup (mNil)) (mNil)))))) (mNil))))) (mNop)) (t_read_step_9)
def t_read_step_7 : Sx := mSeq (mIfS (mB (m2 dEq (mV 16) (mC (.str "old")))) (mSeq (mSet 17 (mCall m_older_version 2 [] (mCons (mV 10) (mCons (mV 2) (mNil))))) (mIfS (mB (m2 dIsN (mV 17) (mC .non))) (mSet 16 (mC (.str "abort"))) (mNop))) (mNop)) (t_read_step_8)
def t_read_step_6 : Sx := mSeq (mSet 17 (m2 dIx (mV 10) (m1 dNeg (mC (.int 1))))) (t_read_step_7)
def t_read_step_5 : Sx := mSeq (mSet 16 (mIf (mTru (mV 15)) (m2 dIx (mV 4) (m2 dIx (mV 15) (mC (.int 0)))) (m2 dIx (mC k_FIXED_READS) (mV 14)))) (t_read_step_6)
def t_read_step_4 : Sx := mSeq (mSet 15 (mIf (mB (m2 dIn (mV 14) (mC k_FIXED_READS))) (mTup (mNil)) (mTup (mCons (m2 dAdd (mC (.str "read ")) (mV 14)) (mNil))))) (t_read_step_5)
def t_read_step_3 : Sx := mSeq (mSet 14 (mCall m_place 3 [] (mCons (mV 2) (mCons (m2 dIx (m2 dIx (mV 10) (m1 dNeg (mC (.int 1)))) (mC (.int 0))) (mCons (mV 11) (mNil)))))) (t_read_step_4)
def t_read_step_2 : Sx := mSeq (mAsg (gTupD 4 (gsCons 10 (gsCons 11 (gsCons 12 (gsCons 13 (gsNil)))))) (mGet2 (mV 7) (mV 3) (mC k_NEW_ITEM))) (t_read_step_3)
def t_read_step_1 : Sx := mSeq (mAsg (gTupD 3 (gsCons 7 (gsCons 8 (gsCons 9 (gsNil))))) (mV 1)) (t_read_step_2)
def b_read_step : Sx := mSeq (mAsg (gTupD 3 (gsCons 4 (gsCons 5 (gsCons 6 (gsNil))))) (mV 0)) (t_read_step_1)
def m_read_step : Fm := fnM 21 b_read_step
def b_write_entry : Sx := mRet (mIf (mTru (mV 1)) (m2 dAdd (m2 dAdd (mC (.str "write ")) (mV 0)) (mC (.str " passed"))) (m2 dAdd (mC (.str "write ")) (mV 0)))
def m_write_entry : Fm := fnM 2 b_write_entry
def l_write_step_1 : Sx := mSeq (mAsg (gTupD 3 (gsCons 13 (gsCons 14 (gsCons 15 (gsNil))))) (mV 1)) (mSeq (mAsg (gTupD 4 (gsCons 16 (gsCons 17 (gsCons 18 (gsCons 19 (gsNil)))))) (mGet2 (mV 13) (mV 3) (mC k_NEW_ITEM))) (mSeq (mSet 10 (mCall m_place 3 [] (mCons (mV 2) (mCons (m2 dIx (m2 dIx (mV 16) (m1 dNeg (mC (.int 1)))) (mC (.int 0))) (mCons (mV 17) (mNil)))))) (mSeq (mSet 11 (m2 dGt (mV 19) (mV 2))) (mSeq (mSet 12 (mC (.str "put"))) (mSeq (mIfS (mOr (mTru (mV 11)) (mB (m2 dNin (mV 10) (mC k_FIXED_READS)))) (mSeq (mSet 8 (m2 dAdd (mV 8) (mTup (mCons (mCall m_write_entry 2 [] (mCons (mV 10) (mCons (mV 11) (mNil)))) (mNil))))) (mSet 12 (m2 dIx (mV 5) (m2 dIx (mV 8) (m1 dNeg (mC (.int 1))))))) (mNop)) (mSeq (mIfS (mB (m2 dNe (mV 12) (mC (.str "wound")))) (mBk) (mNop)) (mSeq (mAsg (gTupD 2 (gsCons 1 (gsCons 9 (gsNil)))) (mCall m_dropped 2 [] (mCons (mV 1) (mCons (mV 17) (mNil))))) (mIfS (mB (m2 dIn (mV 2) (mV 9))) (mRet (mTup (mCons (mV 1) (mCons (mTup (mCons (mC (.str "abort")) (mCons (mV 8) (mCons (mC .non) (mCons (mV 9) (mNil)))))) (mNil))))) (mNop)))))))))
def t_write_step_8 : Sx := mRet (mTup (mCons (mTup (mCons (mV 23) (mCons (mV 14) (mCons (mV 15) (mNil))))) (mCons (mTup (mCons (mC (.str "put")) (mCons (mV 8) (mCons (mC .non) (mCons (mV 9) (mNil)))))) (mNil))))
def t_write_step_7 : Sx := mSeq (mSet 23 (mStar (mV 13) (mV 3) (mTup (mCons (mV 16) (mCons (mV 2) (mCons (mV 4) (mCons (mV 19) (mNil)))))))) (t_write_step_8)
def t_write_step_6 : Sx := mSeq (mIfS (mB (m2 dEq (mV 12) (mC (.str "skip")))) (mSeq (mIfS (mB (m2 dIn (mV 10) (mTup (mCons (mC (.str "below")) (mCons (mC (.str "above")) (mNil)))))) (mSet 15 (mCall m_bound 4 [] (mCons (mV 15) (mCons (mV 6) (mCons (mV 2) (mCons (mV 17) (mNil))))))) (mNop)) (mRet (mTup (mCons (mTup (mCons (mV 13) (mCons (mV 14) (mCons (mV 15) (mNil))))) (mCons (mTup (mCons (mC (.str "skip")) (mCons (mV 8) (mCons (mC .non) (mCons (mV 9) (mNil)))))) (mNil)))))) (mNop)) (t_write_step_7)
def t_write_step_5 : Sx := mSeq (mIfS (mB (m2 dEq (mV 12) (mC (.str "abort")))) (mSeq (mAsg (gTupD 2 (gsCons 20 (gsCons 21 (gsNil)))) (mCall m_dropped 2 [] (mCons (mV 1) (mCons (mV 2) (mNil))))) (mRet (mTup (mCons (mV 20) (mCons (mTup (mCons (mC (.str "abort")) (mCons (mV 8) (mCons (mC .non) (mCons (mCB dTuple (mCons (mCB dSorted (mCons (mLc 22 [22] (iAny (m2 dAdd (mV 9) (mV 21))) (mYes) (mCB dInt (mCons (mV 22) (mNil)))) (mNil))) (mNil))) (mNil)))))) (mNil)))))) (mNop)) (t_write_step_6)
def t_write_step_4 : Sx := mSeq (mIfS (mB (m2 dEq (mV 12) (mC (.str "wait")))) (mRet (mTup (mCons (mV 1) (mCons (mTup (mCons (mC (.str "wait")) (mCons (mV 8) (mCons (mTup (mCons (mV 17) (mNil))) (mCons (mV 9) (mNil)))))) (mNil))))) (mNop)) (t_write_step_5)
def t_write_step_3 : Sx := mSeq (mWhile (mTru (mC (.bl true))) (l_write_step_1)) (t_write_step_4)
def t_write_step_2 : Sx := mSeq (mSet 9 (mTup (mNil))) (t_write_step_3)
def t_write_step_1 : Sx := mSeq (mSet 8 (mTup (mNil))) (t_write_step_2)
def b_write_step : Sx := mSeq (mAsg (gTupD 3 (gsCons 5 (gsCons 6 (gsCons 7 (gsNil))))) (mV 0)) (t_write_step_1)
def m_write_step : Fm := fnM 24 b_write_step
def l_commit_step_1 : Sx := mSeq (mAsg (gTupD 4 (gsCons 11 (gsCons 12 (gsCons 13 (gsCons 14 (gsNil)))))) (m2 dIx (mV 3) (mV 10))) (mIfS (mB (m2 dEq (mV 12) (mV 2))) (mSeq (mSet 11 (mSl fSl (m2 dAdd (mV 11) (mTup (mCons (mTup (mCons (mV 2) (mCons (mV 13) (mNil)))) (mNil)))) (mPart (m1 dNeg (mV 6))) (mNo))) (mAsg (gSubM (mV 9) (mV 10)) (mTup (mCons (mV 11) (mCons (mC .non) (mCons (mC (.int 0)) (mCons (mV 14) (mNil)))))))) (mAsg (gSubM (mV 9) (mV 10)) (mTup (mCons (mV 11) (mCons (mV 12) (mCons (mV 13) (mCons (mV 14) (mNil))))))))
def t_commit_step_6 : Sx := mRet (mTup (mCons (mTup (mCons (mV 9) (mCons (mStar (mV 4) (mV 2) (mC (.str "committed"))) (mCons (mV 5) (mNil))))) (mCons (mTup (mCons (mC (.str "commit")) (mCons (mTup (mNil)) (mCons (mC .non) (mCons (mTup (mNil)) (mNil)))))) (mNil))))
def t_commit_step_5 : Sx := mSeq (mFor (iAny (mV 3)) (gN 10) (l_commit_step_1)) (t_commit_step_6)
def t_commit_step_4 : Sx := mSeq (mSet 9 (mDnC)) (t_commit_step_5)
def t_commit_step_3 : Sx := mSeq (mIfS (mTru (mV 7)) (mRet (mTup (mCons (mV 1) (mCons (mTup (mCons (mC (.str "wait")) (mCons (mTup (mNil)) (mCons (mCB dTuple (mCons (mV 7) (mNil))) (mCons (mTup (mNil)) (mNil)))))) (mNil))))) (mNop)) (t_commit_step_4)
def t_commit_step_2 : Sx := mSeq (mSet 7 (mCB dSorted (mCons (mLc 8 [8] (iAny (mGet2 (mV 5) (mV 2) (mTup (mNil)))) (mB (m2 dEq (m2 dIx (mV 4) (mV 8)) (mC (.str "open")))) (mCB dInt (mCons (mV 8) (mNil)))) (mNil)))) (t_commit_step_3)
def t_commit_step_1 : Sx := mSeq (mSet 6 (m2 dIx (mV 0) (mC (.int 2)))) (t_commit_step_2)
def b_commit_step : Sx := mSeq (mAsg (gTupD 3 (gsCons 3 (gsCons 4 (gsCons 5 (gsNil))))) (mV 1)) (t_commit_step_1)
def m_commit_step : Fm := fnM 15 b_commit_step
def t_step_on_7 : Sx := mRet (mTup (mCons (mV 6) (mCons (mTup (mCons (mC (.str "abort")) (mCons (mTup (mNil)) (mCons (mC .non) (mCons (mV 7) (mNil)))))) (mNil))))
def t_step_on_6 : Sx := mSeq (mAsg (gTupD 2 (gsCons 6 (gsCons 7 (gsNil)))) (mCall m_dropped 2 [] (mCons (mV 1) (mCons (mV 5) (mNil))))) (t_step_on_7)
def t_step_on_5 : Sx := mSeq (mIfS (mB (m2 dEq (mV 4) (mC (.str "commit")))) (mRet (mCall m_commit_step 3 [] (mCons (mV 0) (mCons (mV 1) (mCons (mV 5) (mNil)))))) (mNop)) (t_step_on_6)
def t_step_on_4 : Sx := mSeq (mIfS (mB (m2 dEq (mV 4) (mC (.str "write")))) (mRet (mCall m_write_step 5 [] (mCons (mV 0) (mCons (mV 1) (mCons (mV 5) (mCons (m2 dIx (mV 2) (mC (.int 2))) (mCons (mV 3) (mNil)))))))) (mNop)) (t_step_on_5)
def t_step_on_3 : Sx := mSeq (mIfS (mB (m2 dEq (mV 4) (mC (.str "read")))) (mRet (mCall m_read_step 4 [] (mCons (mV 0) (mCons (mV 1) (mCons (mV 5) (mCons (m2 dIx (mV 2) (mC (.int 2))) (mNil))))))) (mNop)) (t_step_on_4)
def t_step_on_2 : Sx := mSeq (mIfS (mB (m2 dNe (m2 dIx (m2 dIx (mV 1) (mC (.int 1))) (mV 5)) (mC (.str "open")))) (mRet (mTup (mCons (mV 1) (mCons (mTup (mCons (mC (.str "void")) (mCons (mTup (mNil)) (mCons (mC .non) (mCons (mTup (mNil)) (mNil)))))) (mNil))))) (mNop)) (t_step_on_3)
def t_step_on_1 : Sx := mSeq (mSet 5 (m2 dIx (mV 2) (mC (.int 1)))) (t_step_on_2)
def b_step_on : Sx := mSeq (mSet 4 (m2 dIx (mV 2) (mC (.int 0)))) (t_step_on_1)
def m_step_on : Fm := fnM 8 b_step_on
def l_play_1 : Sx := mSeq (mAsg (gTupD 2 (gsCons 3 (gsCons 6 (gsNil)))) (mCall m_step_on 4 [] (mCons (mV 2) (mCons (mV 3) (mCons (m2 dIx (mV 1) (mV 5)) (mCons (m2 dAdd (mV 5) (mC (.int 1))) (mNil))))))) (mEx (mMt "list" fAppend (mV 4) (mCons (mV 6) (mNil))))
def t_play_5 : Sx := mRet (mV 4)
def t_play_4 : Sx := mSeq (mFor (iRng1m (mCons (mCB dLen (mCons (mV 1) (mNil))) (mNil))) (gN 5) (l_play_1)) (t_play_5)
def t_play_3 : Sx := mSeq (mSet 4 (mLstC (mNil))) (t_play_4)
def t_play_2 : Sx := mSeq (mSet 3 (mCall m_start 1 [] (mCons (mV 1) (mNil)))) (t_play_3)
def t_play_1 : Sx := mSeq (mSet 2 (mMe "Book" "terms" (callF m_Book_terms 1) (mV 0) (mKw 0 0 (fun ds _ => ds) (mNil) (mNil)))) (t_play_2)
def b_play : Sx := mSeq (mEx (mCall m_check_run 1 [] (mCons (mV 1) (mNil)))) (t_play_1)
def m_play : Fm := fnM 7 b_play
def b_law_ascending : Sx := mRet (mCB dTuple (mCons (mCB dSorted (mCons (mLc 1 [1] (iAny (mV 0)) (mYes) (mCB dInt (mCons (mV 1) (mNil)))) (mNil))) (mNil)))
def m_law_ascending : Fm := fnM 2 b_law_ascending
def l_law_fall_1 : Sx := mIfS (mAnd (mB (m2 dEq (m2 dIx (mV 3) (mV 7)) (mC (.str "open")))) (mB (m2 dNin (mV 7) (mV 5)))) (mIfS (mB (m2 dGt (mCB dLen (mCons (mLc 8 [8] (iAny (m2 dIx (mV 4) (mV 7))) (mB (m2 dIn (mV 8) (mV 5))) (mV 8)) (mNil))) (mC (.int 0)))) (mEx (mMt "list" fAppend (mV 5) (mCons (mV 7) (mNil)))) (mNop)) (mNop)
def l_law_fall_2 : Sx := mForK 3 (gN 7) (l_law_fall_1)
def l_law_fall_3 : Sx := mAsg (gSubM (mV 3) (mV 7)) (mC (.str "aborted"))
def l_law_fall_4 : Sx := mIfS (mB (m2 dIn (m2 dIx (m2 dIx (mV 2) (mV 9)) (mC (.int 1))) (mV 5))) (mAsg (gSubM (m2 dIx (mV 2) (mV 9)) (mC (.int 1))) (mC .non)) (mNop)
def t_law_fall_5 : Sx := mRet (mV 5)
def t_law_fall_4 : Sx := mSeq (mFor (iAny (mFz (mCB dList (mCons (mV 2) (mNil))))) (gN 9) (l_law_fall_4)) (t_law_fall_5)
def t_law_fall_3 : Sx := mSeq (mFor (iAny (mFz (mV 5))) (gN 7) (l_law_fall_3)) (t_law_fall_4)
def t_law_fall_2 : Sx := mSeq (mFor (iRng1m (mCons (mCB dLen (mCons (mV 3) (mNil))) (mNil))) (gN 6) (l_law_fall_2)) (t_law_fall_3)
def t_law_fall_1 : Sx := mSeq (mSet 5 (mLstC (mCons (mV 1) (mNil)))) (t_law_fall_2)
def b_law_fall : Sx := mSeq (mAsg (gTupD 3 (gsCons 2 (gsCons 3 (gsCons 4 (gsNil))))) (mV 0)) (t_law_fall_1)
def m_law_fall : Fm := fnM 10 b_law_fall
def t_law_grant_10 : Sx := mRet (mTup (mCons (mV 10) (mCons (mCB dTuple (mCons (mV 5) (mNil))) (mCons (mC .non) (mCons (mCall m_law_ascending 1 [] (mCons (mV 6) (mNil))) (mNil))))))
def t_law_grant_9 : Sx := mSeq (mIfS (mB (m2 dEq (mV 10) (mC (.str "put")))) (mSeq (mAsg (gSubM (mV 12) (mC (.int 1))) (mV 8)) (mAsg (gSubM (mV 12) (mC (.int 2))) (mV 3))) (mNop)) (t_law_grant_10)
def t_law_grant_8 : Sx := mSeq (mIfS (mB (m2 dEq (mV 7) (mC (.str "read")))) (mSeq (mIfS (mB (m2 dEq (mV 10) (mC (.str "open")))) (mSet 13 (m2 dIx (mV 12) (mC (.int 2)))) (mNop)) (mSeq (mIfS (mB (m2 dLt (m2 dIx (mV 12) (mC (.int 3))) (mV 8))) (mAsg (gSubM (mV 12) (mC (.int 3))) (mV 8)) (mNop)) (mRet (mTup (mCons (mC (.str "read")) (mCons (mCB dTuple (mCons (mV 5) (mNil))) (mCons (mV 13) (mCons (mCall m_law_ascending 1 [] (mCons (mV 6) (mNil))) (mNil))))))))) (mNop)) (t_law_grant_9)
def t_law_grant_7 : Sx := mSeq (mIfS (mAnd (mB (m2 dNotN (m2 dIx (mV 12) (mC (.int 1))) (mC .non))) (mAnd (mB (m2 dNe (m2 dIx (mV 12) (mC (.int 1))) (mV 8))) (mB (m2 dEq (m2 dIx (mV 0) (mC (.int 1))) (mC (.str "after")))))) (mIfS (mOr (mB (m2 dEq (mV 10) (mC (.str "open")))) (mAnd (mB (m2 dEq (mV 10) (mC (.str "skip")))) (mB (m2 dNe (mV 11) (mC (.str "under")))))) (mSeq (mSet 16 (m2 dIx (m2 dIx (mV 1) (mC (.int 2))) (mV 8))) (mIfS (mB (m2 dNin (m2 dIx (mV 12) (mC (.int 1))) (mV 16))) (mEx (mMt "list" fAppend (mV 16) (mCons (m2 dIx (mV 12) (mC (.int 1))) (mNil)))) (mNop))) (mNop)) (mNop)) (t_law_grant_8)
def t_law_grant_6 : Sx := mSeq (mIfS (mB (m2 dEq (mV 10) (mC (.str "wait")))) (mRet (mTup (mCons (mC (.str "wait")) (mCons (mCB dTuple (mCons (mV 5) (mNil))) (mCons (mTup (mCons (m2 dIx (mV 12) (mC (.int 1))) (mNil))) (mCons (mTup (mNil)) (mNil))))))) (mNop)) (t_law_grant_7)
def t_law_grant_5 : Sx := mSeq (mIfS (mB (m2 dEq (mV 10) (mC (.str "abort")))) (mSeq (mSet 6 (m2 dAdd (mV 6) (mCallS m_law_fall 2 [] (mCons (mV 1) (mCons (mV 8) (mNil)))))) (mRet (mTup (mCons (mC (.str "abort")) (mCons (mCB dTuple (mCons (mV 5) (mNil))) (mCons (mC .non) (mCons (mCall m_law_ascending 1 [] (mCons (mV 6) (mNil))) (mNil)))))))) (mNop)) (t_law_grant_6)
def t_law_grant_4 : Sx := mSeq (mIfS (mB (m2 dEq (mV 10) (mC (.str "old")))) (mSeq (mSet 14 (mLc 15 [15] (iAny (m2 dIx (mV 12) (mC (.int 0)))) (mB (m2 dLt (m2 dIx (mV 15) (mC (.int 0))) (mV 8))) (m2 dIx (mV 15) (mC (.int 1))))) (mIfS (mB (m2 dGt (mCB dLen (mCons (mV 14) (mNil))) (mC (.int 0)))) (mSet 13 (m2 dIx (mV 14) (m1 dNeg (mC (.int 1))))) (mSet 10 (mC (.str "abort"))))) (mNop)) (t_law_grant_5)
def t_law_grant_3 : Sx := mSeq (mSet 13 (m2 dIx (m2 dIx (m2 dIx (mV 12) (mC (.int 0))) (m1 dNeg (mC (.int 1)))) (mC (.int 1)))) (t_law_grant_4)
def t_law_grant_2 : Sx := mSeq (mSet 12 (m2 dIx (m2 dIx (mV 1) (mC (.int 0))) (mV 9))) (t_law_grant_3)
def t_law_grant_1 : Sx := mSeq (mAsg (gTupD 2 (gsCons 10 (gsCons 11 (gsNil)))) (mV 4)) (t_law_grant_2)
def b_law_grant : Sx := mSeq (mAsg (gTupD 3 (gsCons 7 (gsCons 8 (gsCons 9 (gsNil))))) (mV 2)) (t_law_grant_1)
def m_law_grant : Fm := fnM 17 b_law_grant
def t_law_spot_6 : Sx := mRet (mC (.str "above"))
def t_law_spot_5 : Sx := mSeq (mIfS (mB (m2 dLt (mV 0) (m2 dIx (mV 1) (mC (.int 1))))) (mRet (mC (.str "below"))) (mNop)) (t_law_spot_6)
def t_law_spot_4 : Sx := mSeq (mIfS (mB (m2 dLt (mV 0) (mV 2))) (mRet (mC (.str "under"))) (mNop)) (t_law_spot_5)
def t_law_spot_3 : Sx := mSeq (mIfS (mB (m2 dEq (m2 dIx (mV 1) (mC (.int 1))) (mV 0))) (mRet (mC (.str "own"))) (mNop)) (t_law_spot_4)
def t_law_spot_2 : Sx := mSeq (mIfS (mB (m2 dIsN (m2 dIx (mV 1) (mC (.int 1))) (mC .non))) (mRet (mC (.str "late"))) (mNop)) (t_law_spot_3)
def t_law_spot_1 : Sx := mSeq (mIfS (mAnd (mB (m2 dIsN (m2 dIx (mV 1) (mC (.int 1))) (mC .non))) (mB (m2 dLt (mV 2) (mV 0)))) (mRet (mC (.str "free"))) (mNop)) (t_law_spot_2)
def b_law_spot : Sx := mSeq (mSet 2 (m2 dIx (m2 dIx (m2 dIx (mV 1) (mC (.int 0))) (m1 dNeg (mC (.int 1)))) (mC (.int 0)))) (t_law_spot_1)
def m_law_spot : Fm := fnM 3 b_law_spot
def l_law_request_1 : Sx := mSeq (mSet 11 (mCallS m_law_spot 2 [] (mCons (mV 5) (mCons (mV 7) (mNil))))) (mSeq (mSet 12 (mAndV (m2 dEq (mV 4) (mC (.str "write"))) (m2 dGt (m2 dIx (mV 7) (mC (.int 3))) (mV 5)))) (mSeq (mSet 13 (mC (.str "put"))) (mSeq (mIfS (mB (m2 dEq (mV 4) (mC (.str "read")))) (mSeq (mSet 13 (mC (.str "last"))) (mIfS (mB (m2 dEq (mV 11) (mC (.str "own")))) (mSet 13 (mC (.str "open"))) (mNop))) (mNop)) (mSeq (mIfS (mOr (mTru (mV 12)) (mB (m2 dNin (mV 11) (mLstF (mCons (mC (.str "free")) (mCons (mC (.str "own")) (mNil))))))) (mSeq (mEx (mMt "list" fAppend (mV 8) (mCons (m2 dAdd (m2 dAdd (m2 dAdd (mV 4) (mC (.str " "))) (mV 11)) (m2 dIx (mLstF (mCons (mC (.str "")) (mCons (mC (.str " passed")) (mNil)))) (mCB dInt (mCons (mV 12) (mNil))))) (mNil)))) (mSet 13 (m2 dIx (m2 dIx (mV 0) (mC (.int 0))) (m2 dIx (mV 8) (m1 dNeg (mC (.int 1))))))) (mNop)) (mSeq (mIfS (mB (m2 dNe (mV 13) (mC (.str "wound")))) (mRet (mCallS m_law_grant 7 [] (mCons (mV 0) (mCons (mV 1) (mCons (mV 2) (mCons (mV 3) (mCons (mLstF (mCons (mV 13) (mCons (mV 11) (mNil)))) (mCons (mV 8) (mCons (mV 9) (mNil)))))))))) (mNop)) (mSeq (mSet 9 (m2 dAdd (mV 9) (mCallS m_law_fall 2 [] (mCons (mV 1) (mCons (m2 dIx (mV 7) (mC (.int 1))) (mNil)))))) (mIfS (mB (m2 dIn (mV 5) (mV 9))) (mRet (mTup (mCons (mC (.str "abort")) (mCons (mCB dTuple (mCons (mV 8) (mNil))) (mCons (mC .non) (mCons (mCall m_law_ascending 1 [] (mCons (mV 9) (mNil))) (mNil))))))) (mNop))))))))
def t_law_request_5 : Sx := mRet (mTup (mCons (mC (.str "")) (mCons (mTup (mNil)) (mCons (mC .non) (mCons (mTup (mNil)) (mNil))))))
def t_law_request_4 : Sx := mSeq (mFor (iRng1m (mCons (mC (.int 2)) (mNil))) (gN 10) (l_law_request_1)) (t_law_request_5)
def t_law_request_3 : Sx := mSeq (mSet 9 (mLstF (mNil))) (t_law_request_4)
def t_law_request_2 : Sx := mSeq (mSet 8 (mLstC (mNil))) (t_law_request_3)
def t_law_request_1 : Sx := mSeq (mSet 7 (m2 dIx (m2 dIx (mV 1) (mC (.int 0))) (mV 6))) (t_law_request_2)
def b_law_request : Sx := mSeq (mAsg (gTupD 3 (gsCons 4 (gsCons 5 (gsCons 6 (gsNil))))) (mV 2)) (t_law_request_1)
def m_law_request : Fm := fnM 14 b_law_request
def l_law_commit_1 : Sx := mSeq (mSet 9 (m2 dIx (mV 3) (mV 8))) (mIfS (mB (m2 dEq (m2 dIx (mV 9) (mC (.int 1))) (mV 2))) (mSeq (mAsg (gSubM (mV 9) (mC (.int 0))) (mSl fSl (m2 dAdd (m2 dIx (mV 9) (mC (.int 0))) (mLstF (mCons (mTup (mCons (mV 2) (mCons (m2 dIx (mV 9) (mC (.int 2))) (mNil)))) (mNil)))) (mPart (m1 dNeg (m2 dIx (mV 0) (mC (.int 2))))) (mNo))) (mAsg (gSubM (mV 9) (mC (.int 1))) (mC .non))) (mNop))
def t_law_commit_5 : Sx := mRet (mTup (mCons (mC (.str "commit")) (mCons (mTup (mNil)) (mCons (mC .non) (mCons (mTup (mNil)) (mNil))))))
def t_law_commit_4 : Sx := mSeq (mAsg (gSubM (mV 4) (mV 2)) (mC (.str "committed"))) (t_law_commit_5)
def t_law_commit_3 : Sx := mSeq (mFor (iAny (mFz (mCB dList (mCons (mV 3) (mNil))))) (gN 8) (l_law_commit_1)) (t_law_commit_4)
def t_law_commit_2 : Sx := mSeq (mIfS (mB (m2 dGt (mCB dLen (mCons (mV 6) (mNil))) (mC (.int 0)))) (mRet (mTup (mCons (mC (.str "wait")) (mCons (mTup (mNil)) (mCons (mCall m_law_ascending 1 [] (mCons (mV 6) (mNil))) (mCons (mTup (mNil)) (mNil))))))) (mNop)) (t_law_commit_3)
def t_law_commit_1 : Sx := mSeq (mSet 6 (mLc 7 [7] (iAny (m2 dIx (mV 5) (mV 2))) (mB (m2 dEq (m2 dIx (mV 4) (mV 7)) (mC (.str "open")))) (mV 7))) (t_law_commit_2)
def b_law_commit : Sx := mSeq (mAsg (gTupD 3 (gsCons 3 (gsCons 4 (gsCons 5 (gsNil))))) (mV 1)) (t_law_commit_1)
def m_law_commit : Fm := fnM 10 b_law_commit
def l_law_model_1 : Sx := mSeq (mAsg (gSubM (mV 3) (m2 dIx (mV 5) (mC (.int 1)))) (mC (.str "open"))) (mSeq (mAsg (gSubM (mV 4) (m2 dIx (mV 5) (mC (.int 1)))) (mLstC (mNil))) (mIfS (mB (m2 dEq (mCB dLen (mCons (mV 5) (mNil))) (mC (.int 3)))) (mAsg (gSubM (mV 2) (m2 dIx (mV 5) (mC (.int 2)))) (mLstC (mCons (mLstF (mCons (mTup (mCons (mC (.int 0)) (mCons (mC (.int 0)) (mNil)))) (mNil))) (mCons (mC .non) (mCons (mC (.int 0)) (mCons (mC (.int 0)) (mNil))))))) (mNop)))
def l_law_model_2 : Sx := mSeq (mSet 5 (m2 dIx (mV 1) (mV 8))) (mIfS (mB (m2 dNe (m2 dIx (mV 3) (m2 dIx (mV 5) (mC (.int 1)))) (mC (.str "open")))) (mEx (mMt "list" fAppend (mV 7) (mCons (mTup (mCons (mC (.str "void")) (mCons (mTup (mNil)) (mCons (mC .non) (mCons (mTup (mNil)) (mNil)))))) (mNil)))) (mIfS (mB (m2 dEq (mCB dLen (mCons (mV 5) (mNil))) (mC (.int 3)))) (mEx (mMt "list" fAppend (mV 7) (mCons (mCallS m_law_request 4 [] (mCons (mV 0) (mCons (mV 6) (mCons (mV 5) (mCons (m2 dAdd (mV 8) (mC (.int 1))) (mNil)))))) (mNil)))) (mIfS (mB (m2 dEq (m2 dIx (mV 5) (mC (.int 0))) (mC (.str "commit")))) (mEx (mMt "list" fAppend (mV 7) (mCons (mCallS m_law_commit 3 [] (mCons (mV 0) (mCons (mV 6) (mCons (m2 dIx (mV 5) (mC (.int 1))) (mNil))))) (mNil)))) (mEx (mMt "list" fAppend (mV 7) (mCons (mTup (mCons (mC (.str "abort")) (mCons (mTup (mNil)) (mCons (mC .non) (mCons (mCall m_law_ascending 1 [] (mCons (mFz (mCallS m_law_fall 2 [] (mCons (mV 6) (mCons (m2 dIx (mV 5) (mC (.int 1))) (mNil))))) (mNil))) (mNil)))))) (mNil)))))))
def t_law_model_7 : Sx := mRet (mV 7)
def t_law_model_6 : Sx := mSeq (mFor (iRng1m (mCons (mCB dLen (mCons (mV 1) (mNil))) (mNil))) (gN 8) (l_law_model_2)) (t_law_model_7)
def t_law_model_5 : Sx := mSeq (mSet 7 (mLstC (mNil))) (t_law_model_6)
def t_law_model_4 : Sx := mSeq (mSet 6 (mTup (mCons (mV 2) (mCons (mV 3) (mCons (mV 4) (mNil)))))) (t_law_model_5)
def t_law_model_3 : Sx := mSeq (mFor (iAny (mV 1)) (gN 5) (l_law_model_1)) (t_law_model_4)
def t_law_model_2 : Sx := mSeq (mSet 4 (mDnC)) (t_law_model_3)
def t_law_model_1 : Sx := mSeq (mSet 3 (mDnC)) (t_law_model_2)
def b_law_model : Sx := mSeq (mSet 2 (mDnC)) (t_law_model_1)
def m_law_model : Fm := fnM 9 b_law_model
def k_LEVELS : Mi.D := (.dck [("last", (.int 2)), ("old", (.int 2)), ("open", (.int 2)), ("put", (.int 2)), ("skip", (.int 2)), ("wait", (.int 1)), ("wound", (.int 0)), ("abort", (.int 0))])
def b_Book_copy : Sx := mRet (mCB (makeS "Book" m_Book_init 4) (mKw 1 2 (fun ds zs => ds ++ zs) (mCons (mFld ["Book"] "table" (mV 0)) (mNil)) (mCons (mFld ["Book"] "rule" (mV 0)) (mCons (mFld ["Book"] "kept" (mV 0)) (mNil)))))
def m_Book_copy : Fm := fnM 1 b_Book_copy
def t_stricter_2 : Sx := mRet (mIf (mB (m2 dLt (m2 dIx (mC k_LEVELS) (mV 0)) (m2 dIx (mC k_LEVELS) (mV 1)))) (mV 0) (mV 1))
def t_stricter_1 : Sx := mSeq (mIfS (mB (m2 dEq (m2 dIx (mC k_LEVELS) (mV 0)) (m2 dIx (mC k_LEVELS) (mV 1)))) (mRet (mC (.str "abort"))) (mNop)) (t_stricter_2)
def b_stricter : Sx := mSeq (mIfS (mB (m2 dEq (mV 0) (mV 1))) (mRet (mV 0)) (mNop)) (t_stricter_1)
def m_stricter : Fm := fnM 2 b_stricter
def l_Book_iand_1 : Sx := mAsg (gSubM (mFld ["Book"] "table" (mV 0)) (mV 2)) (mCallS m_stricter 2 [] (mCons (m2 dIx (mFld ["Book"] "table" (mV 0)) (mV 2)) (mCons (m2 dIx (mFld ["Book"] "table" (mV 1)) (mV 2)) (mNil))))
def t_Book_iand_3 : Sx := mRet (mV 0)
def t_Book_iand_2 : Sx := mSeq (mIfS (mB (m2 dLt (mFld ["Book"] "kept" (mV 1)) (mFld ["Book"] "kept" (mV 0)))) (mAsg (gFld ["Book"] "kept" (mV 0)) (mFld ["Book"] "kept" (mV 1))) (mNop)) (t_Book_iand_3)
def t_Book_iand_1 : Sx := mSeq (mIfS (mB (m2 dEq (mFld ["Book"] "rule" (mV 1)) (mC (.str "after")))) (mAsg (gFld ["Book"] "rule" (mV 0)) (mC (.str "after"))) (mNop)) (t_Book_iand_2)
def b_Book_iand : Sx := mSeq (mFor (iAny (mC k_ENTRIES)) (gN 2) (l_Book_iand_1)) (t_Book_iand_1)
def m_Book_iand : Fm := fnM 3 b_Book_iand
def b_Book_ends : Sx := mRet (mFld ["Book"] "rule" (mV 0))
def m_Book_ends : Fm := fnM 1 b_Book_ends
def b_Book_keep : Sx := mRet (mFld ["Book"] "kept" (mV 0))
def m_Book_keep : Fm := fnM 1 b_Book_keep
def b_Book_getitem : Sx := mSeq (mIfS (mB (m2 dNin (mV 1) (mC k_ENTRIES))) (mRaise "BadEntry" ["entry"] (mCons (mV 1) (mNil))) (mNop)) (mRet (m2 dIx (mFld ["Book"] "table" (mV 0)) (mV 1)))
def m_Book_getitem : Fm := fnM 2 b_Book_getitem
def b_Book_setitem : Sx := mSeq (mEx (mCall m_check_answer 2 [] (mCons (mV 1) (mCons (mV 2) (mNil))))) (mAsg (gSubM (mFld ["Book"] "table" (mV 0)) (mV 1)) (mV 2))
def m_Book_setitem : Fm := fnM 3 b_Book_setitem
end
end Mi

set_option maxHeartbeats 4000000
/-! CL1: the laws' common helpers, part one: cells, rows of draws, entries, tables. -/
namespace Mi
open PySem PySem.Spec PyProof.Rows L2
/-! ### answers, entries -/
inductive An | last | old | opn | put | skip | wait | wound | abort
deriving DecidableEq
def An.str : An → Str
  | .last => "last" | .old => "old" | .opn => "open" | .put => "put" | .skip => "skip" | .wait => "wait" | .wound => "wound" | .abort => "abort"
inductive En | rl | ru | rb | ra | wl | wu | wb | wa | wfp | wop | wlp | wup | wbp | wap
deriving DecidableEq
def En.str : En → Str
  | .rl => "read late" | .ru => "read under" | .rb => "read below" | .ra => "read above" | .wl => "write late" | .wu => "write under" | .wb => "write below" | .wa => "write above"
  | .wfp => "write free passed" | .wop => "write own passed" | .wlp => "write late passed" | .wup => "write under passed" | .wbp => "write below passed" | .wap => "write above passed"
def ens : List En := [.rl, .ru, .rb, .ra, .wl, .wu, .wb, .wa, .wfp, .wop, .wlp, .wup, .wbp, .wap]
def allowed : En → List An
  | .rl => [.last, .old, .abort] | .ru => [.last, .old, .opn, .wait, .abort] | .rb => [.last, .opn, .wait, .abort] | .ra => [.last, .opn, .wait, .abort]
  | .wl => [.skip, .abort] | .wu => [.skip, .wait, .wound, .abort] | .wb => [.skip, .wait, .wound, .abort] | .wa => [.skip, .wait, .wound, .abort]
  | .wfp => [.put, .abort] | .wop => [.put, .abort] | .wlp => [.skip, .abort] | .wup => [.skip, .wait, .wound, .abort] | .wbp => [.skip, .wait, .wound, .abort] | .wap => [.skip, .wait, .wound, .abort]
abbrev enD (e : En) : Mi.D := .str e.str
abbrev anD (a : An) : Mi.D := .str a.str
theorem mem_ens (e : En) : e ∈ ens := by cases e <;> decide
/-- a table as a dict -/
abbrev tabK (t : En → An) : List (Key × Mi.D) := ens.map fun e => (.inr e.str, anD (t e))
abbrev tabD (t : En → An) : Mi.D := .dct (tabK t)
def okT (t : En → An) : Prop := ∀ e, t e ∈ allowed e
theorem tab_get (t : En → An) (e : En) : getK (tabK t) (.inr e.str) = some (anD (t e)) := by cases e <;> kernel_rfl
theorem tab_put (t : En → An) (e : En) (a : An) : putD (tabK t) (.inr e.str) (anD a) = tabK (fun x => if x = e then a else t x) := by cases e <;> kernel_rfl
@[simp] theorem keyOf_str (x : Str) : keyOf (.str x) = some (.inr x) := (rfl)
@[simp] theorem keyOf_int (x : Int) : keyOf (.int x) = some (.inl x) := (rfl)
@[simp] theorem noCk_tab (t : En → An) : noCk (tabK t) = true := by kernel_rfl
@[simp] theorem noC_tab (t : En → An) : noC (tabD t) = true := by rw [noC_dct]; exact noCk_tab t
theorem tab_len (t : En → An) : (tabK t).length = 14 := rfl
/-! ### cells -/
def cl (ns : List Int) (k : Nat) : Int := ns.getD k 0
theorem cellL (ns : List Int) (k : Nat) (G : Gp) : callF m_law_cell 2 [.scr (ns.map .int), .int k] G = .ok (.int (cl ns k)) G := by
  refine callF_okT (G2 := []) rfl (by simp) ?_ rfl
  by_cases h : k < ns.length
  · have h2 : ((k : Int) < (ns.length : Int)) := by omega
    simp [m_law_cell, fnM_ap, b_law_cell, mV, dLen, seqOf, dLt, dIx, h2, at_map _ _ _ h, h, cl]
  · have h2 : ¬ ((k : Int) < (ns.length : Int)) := by omega
    have h3 : ns[k]? = none := List.getElem?_eq_none (by omega)
    simp [m_law_cell, fnM_ap, b_law_cell, mV, dLen, seqOf, dLt, h2, h3, cl]
/-! ### rows of draws -/
abbrev rowE (c n b rest mixed : Int) (o : Option Mi.D) : Ev := [some (.int c), some (.int n), some (.int b), some (.cel 0), some (.int rest), some (.int mixed), o]
theorem row_hi (c n b rest mixed i : Int) (acc : List Mi.D) (hb0 : 0 < b) (hb : b < 1073741824) (hc : (1000000000000000000 : Int) ≤ c) (hl : acc.length < sizeLine) :
    l_law_row_1 (rowE c n b rest mixed (some (.int i))) [.lst acc] = .nx (rowE c n b (rest / b) mixed (some (.int i))) [.lst (acc ++ [.int (rest % b)])] := by
  simp [l_law_row_1, mV, dPow, hc, tyD, fAppend, hb0, hl, hb]
theorem row_lo (c n b rest mixed i : Int) (acc : List Mi.D) (hb0 : 0 < b) (hc : ¬ (1000000000000000000 : Int) ≤ c) (hl : acc.length < sizeLine) :
    l_law_row_1 (rowE c n b rest mixed (some (.int i))) [.lst acc] = .nx (rowE c n b rest (((mixed * 48271 + 11) % 2147483647 * 16807 + i) % 2147483629) (some (.int i))) [.lst (acc ++ [.int ((((mixed * 48271 + 11) % 2147483647 * 16807 + i) % 2147483629) / 1009 % b)])] := by
  simp [l_law_row_1, mV, dPow, hc, tyD, fAppend, hb0, hl]
theorem row_loop (c n b : Int) (hb0 : 0 < b) (hb : b < 1073741824) : ∀ (is acc : List Int) (rest mixed : Int) (o : Option Mi.D), acc.length + is.length ≤ sizeLine →
    ∃ rest' mixed' o' new, forL (gN 6) l_law_row_1 (is.map .int) (rowE c n b rest mixed o) [.lst (acc.map .int)] = .nx (rowE c n b rest' mixed' o') [.lst ((acc ++ new).map .int)] ∧ new.length = is.length ∧ ∀ k ∈ new, 0 ≤ k ∧ k < b
  | [], acc, rest, mixed, o, _ => ⟨rest, mixed, o, [], by simp, rfl, by simp⟩
  | i :: is, acc, rest, mixed, o, hl => by
    have hl1 : acc.length < sizeLine := by simp at hl; omega
    have hl2 : (acc.map Mi.D.int).length < sizeLine := by simpa using hl1
    have bnd : ∀ z : Int, 0 ≤ z % b ∧ z % b < b := fun z => ⟨Int.emod_nonneg _ (by omega), Int.emod_lt_of_pos _ hb0⟩
    have hs : ∀ z : Int, acc.map Mi.D.int ++ [.int z] = (acc ++ [z]).map .int := fun z => by simp
    by_cases hc : (1000000000000000000 : Int) ≤ c
    · obtain ⟨r2, m2', o2, new, e, h1, h2⟩ := row_loop c n b hb0 hb is (acc ++ [rest % b]) (rest / b) mixed (some (.int i)) (by simp at hl ⊢; omega)
      refine ⟨r2, m2', o2, (rest % b) :: new, ?_, by simp [h1], fun k hk => ?_⟩
      · rw [List.map_cons, forL_cons]
        have hg : gN 6 (.int i) (rowE c n b rest mixed o) [.lst (acc.map .int)] = .ok (rowE c n b rest mixed (some (.int i))) [.lst (acc.map .int)] := rfl
        rw [hg]
        simp only [row_hi c n b rest mixed i _ hb0 hb hc hl2, hs, e]
        simp
      · rcases List.mem_cons.mp hk with rfl | hk
        · exact bnd _
        · exact h2 k hk
    · obtain ⟨r2, m2', o2, new, e, h1, h2⟩ := row_loop c n b hb0 hb is (acc ++ [(((mixed * 48271 + 11) % 2147483647 * 16807 + i) % 2147483629) / 1009 % b]) rest (((mixed * 48271 + 11) % 2147483647 * 16807 + i) % 2147483629) (some (.int i)) (by simp at hl ⊢; omega)
      refine ⟨r2, m2', o2, ((((mixed * 48271 + 11) % 2147483647 * 16807 + i) % 2147483629) / 1009 % b) :: new, ?_, by simp [h1], fun k hk => ?_⟩
      · rw [List.map_cons, forL_cons]
        have hg : gN 6 (.int i) (rowE c n b rest mixed o) [.lst (acc.map .int)] = .ok (rowE c n b rest mixed (some (.int i))) [.lst (acc.map .int)] := rfl
        rw [hg]
        simp only [row_lo c n b rest mixed i _ hb0 hc hl2, hs, e]
        simp
      · rcases List.mem_cons.mp hk with rfl | hk
        · exact bnd _
        · exact h2 k hk
theorem rowM (c b : Int) (n : Nat) (hb0 : 0 < b) (hb : b < 1073741824) (hn : n ≤ 100000) : ∃ ks : List Int, m_law_row [.int c, .int n, .int b] [] = .ok (.cel 0) [.lst (ks.map .int)] ∧ ks.length = n ∧ ∀ k ∈ ks, 0 ≤ k ∧ k < b := by
  have hs : ([] : List Int).length + ((List.range n).map fun i : Nat => (i : Int)).length ≤ sizeLine := by
    rw [sizeL, List.length_map, List.length_range]
    exact Nat.le_trans (by simpa using hn) (by decide)
  obtain ⟨r2, m2', o2, new, e, h1, h2⟩ := row_loop c n b hb0 hb ((List.range n).map fun i : Nat => (i : Int)) [] c ((c * 48271 + 69621) % 2147483647) none hs
  refine ⟨new, ?_, by simpa using h1, h2⟩
  have hr : (n : Int) ≤ 1000000 := by omega
  rw [List.nil_append] at e
  simp [m_law_row, fnM_ap, b_law_row, t_law_row_1, t_law_row_2, t_law_row_3, t_law_row_4, mV, hr, rng_ints]
  simp at e
  rw [e]
  simp [rowE]
theorem rowL (c b : Int) (n : Nat) (hb0 : 0 < b) (hb : b < 1073741824) (hn : n ≤ 100000) : ∃ ks : List Int, (∀ G, callF m_law_row 3 [.int c, .int n, .int b] G = .ok (.lst (ks.map .int)) G) ∧ ks.length = n ∧ ∀ k ∈ ks, 0 ≤ k ∧ k < b := by
  obtain ⟨ks, e, h1, h2⟩ := rowM c b n hb0 hb hn
  exact ⟨ks, fun G => callF_ok rfl rfl e (tree_cel _ _ _ rfl (by simp)), h1, h2⟩
/-! ### entries, choices, answers -/
theorem entL (G : Gp) : callF m_law_entries 0 [] G = .ok (.lst (ens.map enD)) G := by
  refine callF_okT (G2 := []) rfl rfl ?_ (by kernel_rfl)
  have h : ∀ k : Nat, k ≤ 100 → k ≤ sizeLine := fun k hk => by rw [sizeL]; omega
  simp [m_law_entries, fnM_ap, b_law_entries, t_law_entries_1, t_law_entries_2, t_law_entries_3, mV, dAdd, lstOf, h, ens, En.str]
abbrev ansD (l : List An) : List Mi.D := l.map anD
theorem choL (e : En) (G : Gp) : callF m_law_choices 1 [enD e] G = .ok (.lst (ansD (allowed e))) G := by
  cases e <;> refine callF_okT (G2 := []) rfl rfl ?_ rfl <;> kernel_rfl
theorem ansL (e : En) (G : Gp) : callF m_answers_at 1 [enD e] G = .ok (.tup (ansD (allowed e))) G := by
  cases e <;> refine callF_okT (G2 := []) rfl rfl ?_ rfl <;> kernel_rfl
theorem chkL (e : En) (a : An) (h : a ∈ allowed e) (G : Gp) : callF m_check_answer 2 [enD e, anD a] G = .ok .non G := by
  refine callF_okT (G2 := []) rfl rfl ?_ rfl
  have h1 := ansL e
  have h2 : ∀ G, dNin (anD a) (.tup (ansD (allowed e))) G = .ok (.bl false) G := fun G => by
    rw [nin_seq (ys := ansD (allowed e)) rfl rfl (by cases e <;> kernel_rfl)]
    have : inD (anD a) (ansD (allowed e)) = true := by
      revert h
      cases e <;> cases a <;> decide
    rw [this]
    rfl
  simp [m_check_answer, fnM_ap, b_check_answer, mV, h1, h2]
theorem kE : k_ENTRIES = .tup (ens.map enD) := rfl
/-! ### tables -/
def ixE : En → Nat
  | .rl => 0 | .ru => 1 | .rb => 2 | .ra => 3 | .wl => 4 | .wu => 5 | .wb => 6 | .wa => 7 | .wfp => 8 | .wop => 9 | .wlp => 10 | .wup => 11 | .wbp => 12 | .wap => 13
theorem ens_ix (e : En) : ens[ixE e]? = some e := by cases e <;> rfl
theorem ens_lt (e : En) : ixE e < 14 := by cases e <;> decide
theorem fresh_key : ∀ j : Nat, j < 14 → ∀ e : En, ens[j]? = some e → ((ens.take j).any fun x => decide ((.inr x.str : Key) = .inr e.str)) = false := by
  intro j hj e he
  match j, hj with
  | 0, _ | 1, _ | 2, _ | 3, _ | 4, _ | 5, _ | 6, _ | 7, _ | 8, _ | 9, _ | 10, _ | 11, _ | 12, _ | 13, _ => cases he; decide +kernel
  | j + 14, h => exact absurd h (by omega)
theorem putD_new {xs : List (Key × Mi.D)} {k : Key} {v : Mi.D} (h : (xs.any fun kv => decide (kv.1 = k)) = false) : putD xs k v = xs ++ [(k, v)] := by
  unfold putD
  rw [if_neg (by rw [h]; exact Bool.false_ne_true)]
/-- the first j entries of a table -/
abbrev tabN (t : En → An) (j : Nat) : List (Key × Mi.D) := (ens.take j).map fun e => (.inr e.str, anD (t e))
theorem tabN_put (t : En → An) {j : Nat} (hj : j < 14) {e : En} (he : ens[j]? = some e) : putD (tabN t j) (.inr e.str) (anD (t e)) = tabN t (j + 1) := by
  rw [putD_new (by rw [List.any_map]; exact fresh_key j hj e he)]
  have : ens.take (j + 1) = ens.take j ++ [e] := by rw [List.take_add_one, he]; rfl
  unfold tabN
  rw [this, List.map_append]
  rfl
theorem tabN_all (t : En → An) : tabN t 14 = tabK t := rfl
/-- a walk over range(n), step by step -/
theorem forL_rng {g : Gx} {b : Sx} (E : Nat → Ev) (P : Nat → Gp) (n : Nat) (hs : ∀ j, j < n → ∃ e1 G1, g (.int j) (E j) (P j) = .ok e1 G1 ∧ b e1 G1 = .nx (E (j + 1)) (P (j + 1))) : forL g b (rngD 0 n) (E 0) (P 0) = .nx (E n) (P n) := by
  have key : ∀ k, k ≤ n → forL g b ((rngD 0 n).drop (n - k)) (E (n - k)) (P (n - k)) = .nx (E n) (P n) := by
    intro k
    induction k with
    | zero => intro _; rw [Nat.sub_zero, List.drop_of_length_le (by simp [rngD])]; rfl
    | succ k ih =>
      intro hk
      have hlt : n - (k + 1) < n := by omega
      have hd : (rngD 0 n).drop (n - (k + 1)) = .int ((n - (k + 1) : Nat) : Int) :: (rngD 0 n).drop (n - k) := by
        rw [List.drop_eq_getElem_cons (by simpa [rngD] using hlt)]
        have e1 : n - (k + 1) + 1 = n - k := by omega
        rw [e1]
        simp [rngD]
      obtain ⟨e1, G1, h1, h2⟩ := hs _ hlt
      have e2 : n - (k + 1) + 1 = n - k := by omega
      rw [e2] at h2
      rw [hd, forL_cons, h1]
      simp only [h2]
      exact ih (by omega)
  have := key n (Nat.le_refl n)
  rwa [Nat.sub_self, List.drop_zero] at this
theorem ix_lst (xs : List Mi.D) (j : Nat) (d : Mi.D) (h : xs[j]? = some d) (G : Gp) : dIx (.lst xs) (.int j) G = .ok d G := by
  obtain ⟨hl, e⟩ := List.getElem?_eq_some_iff.mp h
  have := at_map id xs j hl
  rw [List.map_id] at this
  simp only [dIx, seqOf, lstOf, this]
  rw [← e]
  rfl
def ofI (l : List An) (z : Int) : An := (l[z.toNat]?).getD .abort
theorem ofI_mem {l : List An} {z : Int} (h0 : 0 ≤ z) (h : z < l.length) : ofI l z ∈ l := by
  unfold ofI
  rw [List.getElem?_eq_getElem (by omega)]
  exact List.getElem_mem _
theorem ix_an {l : List An} {z : Int} (h0 : 0 ≤ z) (h : z < l.length) (G : Gp) : dIx (.lst (ansD l)) (.int z) G = .ok (anD (ofI l z)) G := by
  obtain ⟨j, rfl⟩ := Int.eq_ofNat_of_zero_le h0
  have hj : j < l.length := by omega
  refine ix_lst _ j _ ?_ G
  unfold ansD ofI
  simp [hj]
theorem len_an (l : List An) (G : Gp) : dLen [.lst (ansD l)] G = .ok (.int l.length) G := by simp [dLen, seqOf, lstOf]
theorem all_pos (e : En) : 0 < (allowed e).length := by cases e <;> decide
/-- the table's loop -/
theorem table_step (c : Int) (ks : List Int) (hk : ks.length = 14) (t : En → An) (ht : ∀ e, t e = ofI (allowed e) (ks.getD (ixE e) 0 % (allowed e).length)) (j : Nat) (hj : j < 14) (v4 v5 : Option Mi.D) :
    ∃ e : En, ens[j]? = some e ∧ l_law_table_1 [some (.int c), some (.cel 0), some (.lst (ens.map enD)), some (.lst (ks.map .int)), some (.int j), v5] [.dct (tabN t j)] =
      .nx [some (.int c), some (.cel 0), some (.lst (ens.map enD)), some (.lst (ks.map .int)), some (.int j), some (.lst (ansD (allowed e)))] [.dct (tabN t (j + 1))] := by
  obtain ⟨e, he⟩ : ∃ e, ens[j]? = some e := ⟨_, List.getElem?_eq_getElem (by exact hj)⟩
  refine ⟨e, he, ?_⟩
  have ej : ixE e = j := by
    have h1 := ens_ix e
    match j, hj with
    | 0, _ | 1, _ | 2, _ | 3, _ | 4, _ | 5, _ | 6, _ | 7, _ | 8, _ | 9, _ | 10, _ | 11, _ | 12, _ | 13, _ => cases he; rfl
    | j + 14, h => exact absurd h (by omega)
  have i1 := fun G => ix_lst (ens.map enD) j (enD e) (by rw [List.getElem?_map, he]; rfl) G
  have hkj : ks[j]? = some (ks.getD j 0) := by rw [List.getD_eq_getElem?_getD, List.getElem?_eq_getElem (by omega)]; rfl
  have i2 := fun G => ix_lst (ks.map .int) j (.int (ks.getD j 0)) (by rw [List.getElem?_map, hkj]; rfl) G
  have hp := all_pos e
  have hp2 : (0 : Int) < (allowed e).length := by omega
  have hc := choL e
  have i3 := fun G => len_an (allowed e) G
  have i4 := fun i G => dMod_pos i _ hp2 G
  have i5 := fun G => ix_an (l := allowed e) (z := ks.getD j 0 % (allowed e).length) (Int.emod_nonneg _ (by omega)) (Int.emod_lt_of_pos _ hp2) G
  have hte : anD (ofI (allowed e) (ks.getD j 0 % (allowed e).length)) = anD (t e) := by rw [ht e, ej]
  have hput := tabN_put t hj he
  have hsz : (tabN t j).length < sizeLine := size_lt (by
    have : (tabN t j).length ≤ 14 := by
      unfold tabN
      rw [List.length_map, List.length_take]
      omega
    omega)
  simp only [l_law_table_1, x_mSeq, x_mSet, x_mCall, x_mCons, x_mNil, x_m2, mV, i1, Out.bind_ok, hc, Out.toS_ok, List.append_nil, List.getElem?_cons_zero, List.getElem?_cons_succ, List.set_cons_succ, List.set_cons_zero, x_mAsg, x_gSubM, x_mCB, dInt_int, i2, i3, i4, i5, hte, fSub, keyOf_str, hsz, if_true, hput]
theorem tableM (c : Int) : ∃ t : En → An, okT t ∧ m_law_table [.int c] [] = .ok (.cel 0) [.dct (tabK t)] := by
  obtain ⟨ks, hr, h1, h2⟩ := rowL c 60 14 (by omega) (by omega) (by omega)
  refine ⟨fun e => ofI (allowed e) (ks.getD (ixE e) 0 % (allowed e).length), fun e => ofI_mem (Int.emod_nonneg _ (by have := all_pos e; omega)) (Int.emod_lt_of_pos _ (by have := all_pos e; omega)), ?_⟩
  generalize ht : (fun e => ofI (allowed e) (ks.getD (ixE e) 0 % (allowed e).length)) = t
  have ht2 : ∀ e, t e = ofI (allowed e) (ks.getD (ixE e) 0 % (allowed e).length) := fun e => by rw [← ht]
  have hr' : ∀ G, callF m_law_row 3 [.int c, .int 14, .int 60] G = .ok (.lst (ks.map .int)) G := hr
  have lp := forL_rng (g := gN 4) (b := l_law_table_1) (fun j => [some (.int c), some (.cel 0), some (.lst (ens.map enD)), some (.lst (ks.map .int)), if j = 0 then none else some (.int ((j - 1 : Nat) : Int)), if j = 0 then none else (ens[j - 1]?).map fun e => .lst (ansD (allowed e))]) (fun j => [.dct (tabN t j)]) 14 (fun j hj => by
    obtain ⟨e, he, h⟩ := table_step c ks h1 t ht2 j hj none (if j = 0 then none else (ens[j - 1]?).map fun e => .lst (ansD (allowed e)))
    refine ⟨_, _, rfl, h.trans ?_⟩
    simp [he])
  simp [m_law_table, fnM_ap, b_law_table, t_law_table_1, t_law_table_2, t_law_table_3, t_law_table_4, mV, entL, hr']
  simp only [Nat.reduceLT, if_true] at lp
  have lp2 : forL (gN 4) l_law_table_1 (rngD 0 14) [some (.int c), some (.cel 0), some (.lst (ens.map enD)), some (.lst (ks.map .int)), none, none] [.dct []] = _ := lp
  rw [lp2]
  simp
  rfl
theorem tableL (c : Int) : ∃ t : En → An, okT t ∧ (∀ G, callF m_law_table 1 [.int c] G = .ok (tabD t) G) ∧ (∀ G, callA m_law_table 1 [.int c] G = .ok (.cel G.length) (G ++ [.dct (tabK t)])) := by
  obtain ⟨t, h, e⟩ := tableM c
  refine ⟨t, h, fun G => ?_, fun G => ?_⟩
  · refine callF_ok rfl rfl e ?_
    have e1 : sub1 [.dct (tabK t)] (.cel 0) = tabD t := by simp [sub1, obD]
    have hl := noC_tab t
    unfold tree
    rw [e1, sub1_noC _ _ hl, sub1_noC _ _ hl, if_pos hl]
  · unfold callA
    rw [unties_noC G [.int c] rfl, if_pos ⟨rfl, rfl⟩, e]
    have : shDk G.length (tabK t) = tabK t := by kernel_rfl
    simp [shD, shO, this]
end Mi

set_option maxHeartbeats 4000000
/-! CL2: books made; what is wrong at an entry. -/
namespace Mi
open PySem PySem.Spec PyProof.Rows L2
def enOf (s : Str) : Option En := ens.find? fun e => decide (e.str = s)
theorem enOf_str (e : En) : enOf e.str = some e := by cases e <;> kernel_rfl
theorem find_dec {α : Type} {f : α → Str} {s : Str} {e : α} {l : List α} (h : (l.find? fun e => decide (f e = s)) = some e) : s = f e ∧ e ∈ l :=
  ⟨(by simpa using List.find?_some h : f e = s).symm, List.mem_of_find?_eq_some h⟩
theorem any_find {α : Type} (f : α → Str) (s : Str) (l : List α) : inD (.str s) (l.map fun e => .str (f e)) = (l.find? fun e => decide (f e = s)).isSome := by
  rw [List.isSome_find?]
  unfold inD
  rw [List.any_map]
  rfl
theorem enOf_some {s : Str} {e : En} (h : enOf s = some e) : s = e.str := (find_dec h).1
theorem in_ens (s : Str) : inD (.str s) (ens.map enD) = (enOf s).isSome := any_find En.str s ens
theorem ens_flat : (ens.map enD).all flatD = true := by kernel_rfl
/-- a drawn answer: a string or None -/
inductive Dr | s (x : Str) | n
def Dr.d : Dr → Mi.D
  | .s x => .str x
  | .n => .non
theorem Dr.flat (x : Dr) : flatD x.d = true := by cases x <;> rfl
@[simp] theorem Dr.noC (x : Dr) : Mi.noC x.d = true := by cases x <;> rfl
def anOf (e : En) : Dr → Option An
  | .s z => (allowed e).find? fun a => decide (a.str = z)
  | .n => none
theorem in_all (e : En) (x : Dr) : inD x.d (ansD (allowed e)) = (anOf e x).isSome := by
  cases x with
  | s z => exact any_find An.str z (allowed e)
  | n => cases e <;> rfl
theorem anOf_some {e : En} {x : Dr} {a : An} (h : anOf e x = some a) : x.d = anD a ∧ a ∈ allowed e := by
  cases x with
  | s z => exact ⟨congrArg Mi.D.str (find_dec h).1, (find_dec h).2⟩
  | n => cases h
theorem anOf_an {e : En} {a : An} (h : a ∈ allowed e) : anOf e (.s a.str) = some a := by
  revert h
  cases e <;> cases a <;> decide +kernel
theorem an_flat (e : En) : (ansD (allowed e)).all flatD = true := by cases e <;> kernel_rfl
/-! ### what is wrong -/
def wrong (s : Str) (x : Dr) : Option (Str × List (Str × Mi.D)) := match enOf s with
  | none => some ("BadEntry", [("entry", .str s)])
  | some e => match anOf e x with
    | none => some ("BadAnswer", [("answer", x.d), ("entry", .str s)])
    | some _ => none
def upT (t : En → An) (s : Str) (x : Dr) : En → An := match enOf s with
  | none => t
  | some e => match anOf e x with
    | none => t
    | some a => fun y => if y = e then a else t y
theorem wrong_none {s : Str} {x : Dr} (h : wrong s x = none) (t : En → An) : ∃ e a, s = e.str ∧ x.d = anD a ∧ a ∈ allowed e ∧ upT t s x = fun y => if y = e then a else t y := by
  unfold wrong at h
  unfold upT
  cases h1 : enOf s with
  | none => rw [h1] at h; cases h
  | some e =>
    rw [h1] at h
    cases h3 : anOf e x with
    | none => simp only [h3] at h; cases h
    | some a => exact ⟨e, a, enOf_some h1, (anOf_some h3).1, (anOf_some h3).2, by simp only [h3]⟩
theorem ansBad {s : Str} (h : enOf s = none) (G : Gp) : callF m_answers_at 1 [.str s] G = .exc "BadEntry" [("entry", .str s)] G := by
  refine callF_exc (G2 := []) rfl rfl ?_ rfl
  have hin : ∀ G, dNin (.str s) k_ENTRIES G = .ok (.bl true) G := fun G => by rw [kE, nin_seq (ys := ens.map enD) rfl rfl ens_flat, in_ens, h]; rfl
  simp [m_answers_at, fnM_ap, b_answers_at, mV, hin]
theorem nin_all (e : En) (x : Dr) (G : Gp) : dNin x.d (.tup (ansD (allowed e))) G = .ok (.bl (!(anOf e x).isSome)) G := by
  rw [nin_seq (ys := ansD (allowed e)) rfl x.flat (an_flat e), in_all]
theorem nin_cho (e : En) (x : Dr) (G : Gp) : dNin x.d (.lst (ansD (allowed e))) G = .ok (.bl (!(anOf e x).isSome)) G := by
  rw [nin_seq (ys := ansD (allowed e)) rfl x.flat (an_flat e), in_all]
theorem chk2 (s : Str) (x : Dr) (G : Gp) : callF m_check_answer 2 [.str s, x.d] G = match wrong s x with
    | none => .ok .non G
    | some (c, fs) => .exc c fs G := by
  have hc : ∀ s, noCs [.str s, x.d] = true := fun s => by simp
  have hf : ∀ s : Str, noCf [("answer", x.d), ("entry", Mi.D.str s)] = true := fun s => by simp [noCf]
  unfold wrong
  cases h : enOf s with
  | none =>
    refine callF_exc (G2 := []) rfl (hc _) ?_ rfl
    have := ansBad h
    simp [m_check_answer, fnM_ap, b_check_answer, mV, this]
  | some e =>
    obtain rfl := enOf_some h
    have h1 := ansL e
    have h2 := nin_all e x
    cases h3 : anOf e x with
    | none =>
      simp only [h3]
      refine callF_exc (G2 := []) rfl (hc _) ?_ (hf _)
      simp [m_check_answer, fnM_ap, b_check_answer, mV, h1, h2, h3]
    | some a =>
      simp only [h3]
      refine callF_okT (G2 := []) rfl (hc _) ?_ rfl
      simp [m_check_answer, fnM_ap, b_check_answer, mV, h1, h2, h3]
/-! ### books -/
abbrev dk (xs : List (Str × Dr)) : List (Key × Mi.D) := xs.map fun p => (.inr p.1, p.2.d)
theorem dk_get {xs : List (Str × Dr)} (hn : (xs.map (·.1)).Nodup) {s : Str} {x : Dr} (h : (s, x) ∈ xs) : getK (dk xs) (.inr s) = some x.d := by
  induction xs with
  | nil => cases h
  | cons p r ih =>
    unfold getK dk
    rw [List.map_cons, List.find?_cons]
    by_cases e : p.1 = s
    · rcases List.mem_cons.mp h with h | h
      · subst h; simp
      · simp only [List.map_cons, List.nodup_cons] at hn
        exact absurd (List.mem_map.mpr ⟨_, h, e.symm⟩) hn.1
    · rcases List.mem_cons.mp h with h | h
      · subst h; exact absurd rfl e
      · have e2 : decide ((Sum.inr p.1 : Key) = .inr s) = false := decide_eq_false fun z => e (by injection z)
        simp only [List.map_cons, List.nodup_cons] at hn
        rw [e2]
        exact ih hn.2 h
def firstW : List (Str × Dr) → Option (Str × List (Str × Mi.D))
  | [] => none
  | p :: r => match wrong p.1 p.2 with
    | none => firstW r
    | some w => some w
def upTs (t : En → An) : List (Str × Dr) → En → An
  | [] => t
  | p :: r => upTs (upT t p.1 p.2) r
abbrev bkF (ends : Str) (keep : Int) (tb : Mi.D) : List (Str × Mi.D) := [("rule", .str ends), ("kept", .int keep), ("names", k_ENTRIES), ("table", tb)]
abbrev bkD (ends : Str) (keep : Int) (t : En → An) : Mi.D := .ins "Book" (bkF ends keep (tabD t))
/-- a live book behind the cells G -/
def bkG (G : Gp) (ends : Str) (keep : Int) (t : En → An) : Gp := G ++ [.ins "Book" (bkF ends keep (.cel (G.length + 1))), .dct (tabK t)]
abbrev bkE (n : Nat) (ans : Mi.D) (ends : Str) (keep : Int) (v : Option Mi.D) : Ev := [some (.cel n), some ans, some (.str ends), some (.int keep), v]
theorem bk_0 (G : Gp) (ends : Str) (keep : Int) (t : En → An) : (bkG G ends keep t)[G.length]? = some (.ins "Book" (bkF ends keep (.cel (G.length + 1)))) := by
  unfold bkG
  rw [List.getElem?_append_right (Nat.le_refl _), Nat.sub_self]
  rfl
theorem bk_1 (G : Gp) (ends : Str) (keep : Int) (t : En → An) : (bkG G ends keep t)[G.length + 1]? = some (.dct (tabK t)) := by
  unfold bkG
  rw [List.getElem?_append_right (by omega), Nat.add_sub_cancel_left]
  rfl
theorem bk_lt (G : Gp) (ends : Str) (keep : Int) (t : En → An) {n : Nat} (h : n < G.length) : (bkG G ends keep t)[n]? = G[n]? := List.getElem?_append_left h
theorem bk_set (G : Gp) (ends : Str) (keep : Int) (t u : En → An) : (bkG G ends keep t).set (G.length + 1) (.dct (tabK u)) = bkG G ends keep u := by
  unfold bkG
  rw [List.set_append_right _ _ (by omega), Nat.add_sub_cancel_left]
  rfl
theorem bk_low (G : Gp) (ends : Str) (keep : Int) (t : En → An) {n : Nat} (o : Ob) (h : n < G.length) : (bkG G ends keep t).set n o = bkG (G.set n o) ends keep t := by
  unfold bkG
  rw [List.set_append_left _ _ h, List.length_set]
/-- the dict given: a tree, or a cell below the book -/
def GivenAt (G : Gp) (A : Mi.D) (xs : List (Str × Dr)) : Prop := A = .dct (dk xs) ∨ ∃ n, A = .cel n ∧ n < G.length ∧ (G[n]? = some (.dct (dk xs)) ∨ G[n]? = some (.lck (dk xs)))
theorem GivenAt.get {G : Gp} {A : Mi.D} {xs : List (Str × Dr)} (h : GivenAt G A xs) (hn : (xs.map (·.1)).Nodup) {s : Str} {x : Dr} (hx : (s, x) ∈ xs) (ends : Str) (keep : Int) (t : En → An) : dIx A (.str s) (bkG G ends keep t) = .ok x.d (bkG G ends keep t) := by
  rcases h with rfl | ⟨n, rfl, hl, h | h⟩
  · simp [dIx, seqOf, lstOf, dctOf, dk_get hn hx]
  · simp [dIx, seqOf, lstOf, dctOf, bk_lt _ _ _ _ hl, h, dk_get hn hx]
  · simp [dIx, seqOf, lstOf, dctOf, bk_lt _ _ _ _ hl, h, dk_get hn hx]
theorem init_step (G : Gp) {A : Mi.D} (xs : List (Str × Dr)) (hA : GivenAt G A xs) (hn : (xs.map (·.1)).Nodup) (ends : Str) (keep : Int) (t : En → An) {s : Str} {x : Dr} (h : (s, x) ∈ xs) :
    l_Book_init_1 (bkE G.length A ends keep (some (.str s))) (bkG G ends keep t) = match wrong s x with
      | none => .nx (bkE G.length A ends keep (some (.str s))) (bkG G ends keep (upT t s x))
      | some (c, fs) => .exc c fs (bkE G.length A ends keep (some (.str s))) (bkG G ends keep t) := by
  have i1 := hA.get hn h ends keep t
  have i2 := chk2 s x
  have i3 := bk_0 G ends keep t
  have i4 := bk_1 G ends keep t
  have hz : ens.length < sizeLine := size_lt (by decide)
  cases hw : wrong s x with
  | some w =>
    obtain ⟨c, fs⟩ := w
    rw [hw] at i2
    simp only at i2
    simp [l_Book_init_1, mV, i1, i2]
  | none =>
    obtain ⟨e, a, rfl, ha, _, hu⟩ := wrong_none hw t
    rw [hw] at i2
    simp only at i2
    have hp := tab_put t e a
    rw [ha] at i1 i2
    rw [hu]
    simp [l_Book_init_1, mV, i1, i2, insOf, i3, i4, List.lookup_cons, fSub, keyOf_str, hz, hp, bk_set]
theorem init_loop (G : Gp) {A : Mi.D} (all : List (Str × Dr)) (hA : GivenAt G A all) (hn : (all.map (·.1)).Nodup) (ends : Str) (keep : Int) : ∀ (xs : List (Str × Dr)) (t : En → An) (v : Option Mi.D), (∀ p ∈ xs, p ∈ all) →
    match firstW xs with
    | none => ∃ v', forL (gN 4) l_Book_init_1 ((dk xs).map fun p => kD p.1) (bkE G.length A ends keep v) (bkG G ends keep t) = .nx (bkE G.length A ends keep v') (bkG G ends keep (upTs t xs))
    | some (c, fs) => ∃ v' t', forL (gN 4) l_Book_init_1 ((dk xs).map fun p => kD p.1) (bkE G.length A ends keep v) (bkG G ends keep t) = .exc c fs (bkE G.length A ends keep v') (bkG G ends keep t')
  | [], t, v, _ => ⟨v, rfl⟩
  | p :: r, t, v, h => by
    have hg : gN 4 (.str p.1) (bkE G.length A ends keep v) (bkG G ends keep t) = .ok (bkE G.length A ends keep (some (.str p.1))) (bkG G ends keep t) := rfl
    have hs := init_step G all hA hn ends keep t (s := p.1) (x := p.2) (h p (List.mem_cons_self ..))
    unfold firstW
    rw [show (dk (p :: r)).map (fun p => kD p.1) = .str p.1 :: (dk r).map (fun p => kD p.1) from rfl, forL_cons, hg]
    simp only [hs]
    cases hw : wrong p.1 p.2 with
    | some w =>
      obtain ⟨c, fs⟩ := w
      exact ⟨_, _, rfl⟩
    | none => exact init_loop G all hA hn ends keep r (upT t p.1 p.2) (some (.str p.1)) fun q hq => h q (List.mem_cons_of_mem _ hq)
def tabA : En → An := fun _ => .abort
theorem tab0 (a b c d : Option Mi.D) (G : Gp) : dcL 4 mYes (mV 4) (mC (.str "abort")) [a, b, c, d, none] (ens.map enD) [] G = .ok (tabK tabA) G := by kernel_rfl
theorem isIntG (k : Int) (G : Gp) : callF m_is_integer 1 [.int k] G = .ok (.bl true) G := by
  refine callF_okT (G2 := []) rfl rfl ?_ rfl
  kernel_rfl
theorem last_get (G : Gp) (o : Ob) : (G ++ [o])[G.length]? = some o := by
  rw [List.getElem?_append_right (Nat.le_refl _), Nat.sub_self]
  rfl
theorem last_set (G : Gp) (o u : Ob) : (G ++ [o]).set G.length u = G ++ [u] := by
  rw [List.set_append_right _ _ (Nat.le_refl _), Nat.sub_self]
  rfl
/-- up to the loop -/
theorem init_head (G : Gp) (A : Mi.D) (ends : Str) (he : ends = "now" ∨ ends = "after") (keep : Int) (hk : 1 ≤ keep ∧ keep ≤ 20) : m_Book_init [.cel G.length, A, .str ends, .int keep] (G ++ [.ins "Book" []]) = (match t_Book_init_6 (bkE G.length A ends keep none) (bkG G ends keep tabA) with
    | .nx _ G' => .ok .non G'
    | .rt d G' => .ok d G'
    | .exc c fs _ G' => .exc c fs G'
    | _ => .bad) := by
  have h1 : ∀ G, dNin (.str ends) (.tup [.str "now", .str "after"]) G = .ok (.bl false) G := fun G => by
    rcases he with rfl | rfl <;> kernel_rfl
  have h2 := isIntG keep
  have h3 : ¬ keep < 1 := by omega
  have h4 : ¬ 20 < keep := by omega
  have h5 := tab0
  have h6 : ∀ G, dIsi [.str ends, .ty "str"] G = .ok (.bl true) G := fun G => rfl
  simp [m_Book_init, fnM_ap, b_Book_init, t_Book_init_1, t_Book_init_2, t_Book_init_3, t_Book_init_4, t_Book_init_5, mV, h1, h2, h3, h4, h6, wipeE, kE, fFldS, h5, putFD, last_get, last_set]
  rfl
theorem initL (G : Gp) {A : Mi.D} (xs : List (Str × Dr)) (hA : A = .dct (dk xs) ∨ ∃ n, A = .cel n ∧ G[n]? = some (.dct (dk xs))) (hn : (xs.map (·.1)).Nodup) (ends : Str) (he : ends = "now" ∨ ends = "after") (keep : Int) (hk : 1 ≤ keep ∧ keep ≤ 20) :
    match firstW xs with
    | none => m_Book_init [.cel G.length, A, .str ends, .int keep] (G ++ [.ins "Book" []]) = .ok .non (bkG G ends keep (upTs tabA xs))
    | some (c, fs) => ∃ t', m_Book_init [.cel G.length, A, .str ends, .int keep] (G ++ [.ins "Book" []]) = .exc c fs (bkG G ends keep t') := by
  rw [init_head G A ends he keep hk]
  rcases hA with rfl | ⟨n, rfl, hg⟩
  · have lp := init_loop G xs (.inl rfl) hn ends keep xs tabA none fun p h => h
    have h7 : ∀ G, dNotN (.dct (dk xs)) .non G = .ok (.bl true) G := fun G => rfl
    have e2 : t_Book_init_6 (bkE G.length (.dct (dk xs)) ends keep none) (bkG G ends keep tabA) = forL (gN 4) l_Book_init_1 ((dk xs).map fun p => kD p.1) (bkE G.length (.dct (dk xs)) ends keep none) (bkG G ends keep tabA) := by
      simp [t_Book_init_6, mV, h7, x_mForK]
    rw [e2]
    cases hw : firstW xs with
    | none =>
      rw [hw] at lp
      obtain ⟨v', lp⟩ := lp
      simp only [lp]
    | some w =>
      obtain ⟨c, fs⟩ := w
      rw [hw] at lp
      obtain ⟨v', t', lp⟩ := lp
      exact ⟨t', by simp only [lp]⟩
  · have hl : n < G.length := (List.getElem?_eq_some_iff.mp hg).1
    have hs : (G.set n (.lck (dk xs))).length = G.length := List.length_set
    have hg2 : (G.set n (.lck (dk xs)))[n]? = some (.lck (dk xs)) := by rw [List.getElem?_set_self hl]
    have lp := init_loop (G.set n (.lck (dk xs))) xs (.inr ⟨n, rfl, by rw [hs]; exact hl, .inr hg2⟩) hn ends keep xs tabA none fun p h => h
    rw [hs] at lp
    have h7 : ∀ G, dNotN (.cel n) .non G = .ok (.bl true) G := fun G => rfl
    have e2 : t_Book_init_6 (bkE G.length (.cel n) ends keep none) (bkG G ends keep tabA) = unlk n (dk xs) (forL (gN 4) l_Book_init_1 ((dk xs).map fun p => kD p.1) (bkE G.length (.cel n) ends keep none) (bkG (G.set n (.lck (dk xs))) ends keep tabA)) := by
      simp [t_Book_init_6, mV, h7, x_mForK, bk_lt _ _ _ _ hl, hg, bk_low _ _ _ _ _ hl]
    have back : ∀ u : En → An, (bkG (G.set n (.lck (dk xs))) ends keep u).set n (.dct (dk xs)) = bkG G ends keep u := fun u => by
      rw [bk_low _ _ _ _ _ (by rw [hs]; exact hl)]
      congr 1
      rw [List.set_set]
      obtain ⟨h, e⟩ := List.getElem?_eq_some_iff.mp hg
      rw [← e, List.set_getElem_self]
    have at2 : ∀ u : En → An, (bkG (G.set n (.lck (dk xs))) ends keep u)[n]? = some (.lck (dk xs)) := fun u => by rw [bk_lt _ _ _ _ (by rw [hs]; exact hl), hg2]
    rw [e2]
    cases hw : firstW xs with
    | none =>
      rw [hw] at lp
      obtain ⟨v', lp⟩ := lp
      simp only [lp, unlk, at2, back]
    | some w =>
      obtain ⟨c, fs⟩ := w
      rw [hw] at lp
      obtain ⟨v', t', lp⟩ := lp
      exact ⟨t', by simp only [lp, unlk, at2, back]⟩
theorem tree_bk (ends : Str) (keep : Int) (t : En → An) : tree (bkG [] ends keep t) (.cel 0) = some (bkD ends keep t) := by kernel_rfl
theorem noC_dk : ∀ xs : List (Str × Dr), noCk (dk xs) = true
  | [] => rfl
  | p :: r => by
    have := noC_dk r
    simp [dk, noCk] at this ⊢
    exact this
/-- Book(answers, ends = .., keep = ..) -/
theorem bookL (xs : List (Str × Dr)) (hn : (xs.map (·.1)).Nodup) (ends : Str) (he : ends = "now" ∨ ends = "after") (keep : Int) (hk : 1 ≤ keep ∧ keep ≤ 20) (hw : firstW xs = none) (G : Gp) :
    makeF "Book" m_Book_init 4 [.dct (dk xs), .str ends, .int keep] G = .ok (bkD ends keep (upTs tabA xs)) G := by
  have h := initL [] xs (.inl rfl) hn ends he keep hk
  rw [hw] at h
  exact makeF_ok rfl (by simp [noC_dct, noC_dk]) h (tree_bk _ _ _)

@[simp] theorem noC_kE : noC k_ENTRIES = true := by kernel_rfl
@[simp] theorem noC_bk (ends : Str) (keep : Int) (t : En → An) : noC (bkD ends keep t) = true := by kernel_rfl
/-! ### the book of a table -/
def tabS (t : En → An) : List (Str × Dr) := ens.map fun e => (e.str, .s (t e).str)
theorem tabS_dk (t : En → An) : dk (tabS t) = tabK t := rfl
theorem tabS_nd (t : En → An) : ((tabS t).map (·.1)).Nodup := by
  rw [show (tabS t).map (·.1) = ens.map En.str from rfl]
  decide +kernel
theorem wrong_ok {e : En} {a : An} (h : a ∈ allowed e) : wrong e.str (.s a.str) = none := by
  unfold wrong
  rw [enOf_str]
  simp only [anOf_an h]
theorem upT_ok {e : En} {a : An} (h : a ∈ allowed e) (t : En → An) : upT t e.str (.s a.str) = fun y => if y = e then a else t y := by
  unfold upT
  rw [enOf_str]
  simp only [anOf_an h]
theorem first_ok {t : En → An} (h : okT t) : ∀ l : List En, firstW (l.map fun e => (e.str, Dr.s (t e).str)) = none
  | [] => rfl
  | e :: l => by
    unfold firstW
    rw [List.map_cons]
    simp only [wrong_ok (h e)]
    exact first_ok h l
theorem ups_ok {t : En → An} (h : okT t) : ∀ (l : List En) (t0 : En → An) (x : En), upTs t0 (l.map fun e => (e.str, Dr.s (t e).str)) x = if x ∈ l then t x else t0 x
  | [], t0, x => by simp [upTs]
  | e :: l, t0, x => by
    rw [List.map_cons]
    unfold upTs
    rw [ups_ok h l, upT_ok (h e)]
    by_cases hx : x ∈ l
    · simp [hx]
    · by_cases hxe : x = e
      · subst hxe; simp
      · simp [hx, hxe]
theorem bookT {t : En → An} (h : okT t) (ends : Str) (he : ends = "now" ∨ ends = "after") (keep : Int) (hk : 1 ≤ keep ∧ keep ≤ 20) (G : Gp) : makeF "Book" m_Book_init 4 [tabD t, .str ends, .int keep] G = .ok (bkD ends keep t) G := by
  have := bookL (tabS t) (tabS_nd t) ends he keep hk (first_ok h ens) G
  rw [tabS_dk] at this
  rw [this]
  have e : upTs tabA (tabS t) = t := by
    funext x
    rw [tabS, ups_ok h, if_pos (mem_ens x)]
  rw [e]
end Mi

set_option maxHeartbeats 4000000
/-! CL3: live books: read, shown, met. -/
namespace Mi
open PySem PySem.Spec PyProof.Rows L2
/-- a live book at n, its table behind it -/
def bkAt (G : Gp) (n : Nat) (ends : Str) (keep : Int) (t : En → An) : Prop := G[n]? = some (.ins "Book" (bkF ends keep (.cel (n + 1)))) ∧ G[n + 1]? = some (.dct (tabK t))
def tbAt (G : Gp) (n : Nat) (t : En → An) : Prop := G[n]? = some (.dct (tabK t))
theorem tb_ix {G : Gp} {n : Nat} {t : En → An} (h : tbAt G n t) (e : En) : dIx (.cel n) (enD e) G = .ok (anD (t e)) G := by
  unfold tbAt at h
  simp [dIx, seqOf, lstOf, dctOf, h, tab_get]
theorem bk_ins {G : Gp} {n : Nat} {ends : Str} {keep : Int} {t : En → An} (h : bkAt G n ends keep t) : insOf G (.cel n) = some (("Book" : Str), bkF ends keep (.cel (n + 1))) := by
  simp only [insOf, h.1]
theorem nin_e (e : En) (G : Gp) : dNin (enD e) k_ENTRIES G = .ok (.bl false) G := by
  rw [kE, nin_seq (ys := ens.map enD) rfl rfl ens_flat, in_ens, enOf_str]
  rfl
theorem getS {G : Gp} {n : Nat} {ends : Str} {keep : Int} {t : En → An} (h : bkAt G n ends keep t) (e : En) : m_Book_getitem [.cel n, enD e] G = .ok (anD (t e)) G := by
  have h1 := nin_e e
  have h2 := tb_ix (G := G) (n := n + 1) (t := t) h.2 e
  simp [m_Book_getitem, fnM_ap, b_Book_getitem, mV, h1, bk_ins h, List.lookup_cons, h2]
theorem askS {G : Gp} {n : Nat} {ends : Str} {keep : Int} {t : En → An} (h : bkAt G n ends keep t) (e : En) : askD "Book" (callS m_Book_getitem 2) (.cel n) [enD e] G = .ok (anD (t e)) G := by
  rw [ask_ins (bk_ins h)]
  simp [getS h]
theorem endsS {G : Gp} {n : Nat} {ends : Str} {keep : Int} {t : En → An} (h : bkAt G n ends keep t) : m_Book_ends [.cel n] G = .ok (.str ends) G := by
  simp [m_Book_ends, fnM_ap, b_Book_ends, mV, bk_ins h, List.lookup_cons]
theorem keepS {G : Gp} {n : Nat} {ends : Str} {keep : Int} {t : En → An} (h : bkAt G n ends keep t) : m_Book_keep [.cel n] G = .ok (.int keep) G := by
  simp [m_Book_keep, fnM_ap, b_Book_keep, mV, bk_ins h, List.lookup_cons]
theorem str_ne (z : Str) (G : Gp) : dNe (.str z) (.str z) G = .ok (.bl false) G := by simp [dNe, dEqB, dScal]
theorem int_ne (z : Int) (G : Gp) : dNe (.int z) (.int z) G = .ok (.bl false) G := by simp [dNe, dEqB, dScal]
theorem isi_str (z : Str) (G : Gp) : dIsi [.str z, .ty "str"] G = .ok (.bl true) G := rfl
theorem isi_ib (z : Int) (G : Gp) : dIsi [.int z, .ty "bool"] G = .ok (.bl false) G := rfl
theorem isi_ii (z : Int) (G : Gp) : dIsi [.int z, .ty "int"] G = .ok (.bl true) G := rfl
/-! ### a meet -/
def lvl : An → Nat
  | .last => 2 | .old => 2 | .opn => 2 | .put => 2 | .skip => 2 | .wait => 1 | .wound => 0 | .abort => 0
def strict (a b : An) : An := if a = b then a else if lvl a = lvl b then .abort else if lvl a < lvl b then a else b
theorem stricterS (a b : An) (G : Gp) : m_stricter [anD a, anD b] G = .ok (anD (strict a b)) G := by
  cases a <;> cases b <;> kernel_rfl
def meetT (t u : En → An) : En → An := fun e => strict (t e) (u e)
/-- the table while the first entries of l have been met -/
def upd1 (t : En → An) (e : En) (a : An) : En → An := fun x => if x = e then a else t x
theorem bk_set2 {G : Gp} {n : Nat} {ends : Str} {keep : Int} {t u : En → An} (h : bkAt G n ends keep t) : bkAt (G.set (n + 1) (.dct (tabK u))) n ends keep u := by
  have hl := (List.getElem?_eq_some_iff.mp h.2).1
  exact ⟨by rw [List.getElem?_set_ne (by omega)]; exact h.1, by rw [List.getElem?_set_self hl]⟩
theorem tb_oth {G : Gp} {n m : Nat} {t : En → An} {o : Ob} (h : tbAt G m t) (hn : n ≠ m) : tbAt (G.set n o) m t := by
  unfold tbAt at h ⊢
  rw [List.getElem?_set_ne hn]
  exact h
theorem bk_oth {G : Gp} {n m : Nat} {ends : Str} {keep : Int} {t : En → An} {o : Ob} (h : bkAt G m ends keep t) (h1 : n ≠ m) (h2 : n ≠ m + 1) : bkAt (G.set n o) m ends keep t :=
  ⟨by rw [List.getElem?_set_ne h1]; exact h.1, by rw [List.getElem?_set_ne h2]; exact h.2⟩
theorem ens_sz : ens.length < sizeLine := size_lt (by decide)
theorem iand_step {G : Gp} {n m : Nat} {ends ends' : Str} {keep keep' : Int} {t u : En → An} (h : bkAt G n ends keep t) (h' : bkAt G m ends' keep' u) (e : En) (v : Option Mi.D) :
    l_Book_iand_1 [some (.cel n), some (.cel m), some (enD e)] G = .nx [some (.cel n), some (.cel m), some (enD e)] (G.set (n + 1) (.dct (tabK (upd1 t e (strict (t e) (u e)))))) := by
  have h1 := tb_ix (G := G) (n := n + 1) (t := t) h.2 e
  have h2 := tb_ix (G := G) (n := m + 1) (t := u) h'.2 e
  have h3 := stricterS (t e) (u e) G
  have hp := tab_put t e (strict (t e) (u e))
  have hg := h.2
  have hz := ens_sz
  simp [l_Book_iand_1, mV, bk_ins h, bk_ins h', List.lookup_cons, h1, h2, h3, fSub, hg, keyOf_str, hz, hp]
  rfl
theorem tb_back {G : Gp} {n : Nat} {t : En → An} (h : tbAt G n t) : G.set n (.dct (tabK t)) = G := by
  obtain ⟨hl, e⟩ := List.getElem?_eq_some_iff.mp h
  rw [← e, List.set_getElem_self]
theorem iand_loop {G : Gp} {n m : Nat} {ends ends' : Str} {keep keep' : Int} {u : En → An} (h' : bkAt G m ends' keep' u) (hnm : n ≠ m) (hn1 : n + 1 ≠ m) (hn2 : n ≠ m + 1) : ∀ (l : List En) (t : En → An), bkAt G n ends keep t → l.Nodup → ∀ v, ∃ w,
    forL (gN 2) l_Book_iand_1 (l.map enD) [some (.cel n), some (.cel m), v] G = .nx [some (.cel n), some (.cel m), w] (G.set (n + 1) (.dct (tabK fun x => if x ∈ l then strict (t x) (u x) else t x)))
  | [], t, h, _, v => by
    refine ⟨v, ?_⟩
    have : (fun x => if x ∈ ([] : List En) then strict (t x) (u x) else t x) = t := by funext x; simp
    rw [this, tb_back h.2]
    rfl
  | e :: l, t, h, hnd, v => by
    have hs := iand_step h h' e v
    have hnd' := List.nodup_cons.mp hnd
    have hb := bk_set2 (u := upd1 t e (strict (t e) (u e))) h
    have hb' := bk_oth (o := .dct (tabK (upd1 t e (strict (t e) (u e))))) h' hn1 (by omega)
    obtain ⟨w, ih⟩ := iand_loop hb' hnm hn1 hn2 l (upd1 t e (strict (t e) (u e))) hb hnd'.2 (some (enD e))
    refine ⟨w, ?_⟩
    have hg : gN 2 (enD e) [some (.cel n), some (.cel m), v] G = .ok [some (.cel n), some (.cel m), some (enD e)] G := rfl
    rw [List.map_cons, forL_cons, hg]
    simp only [hs]
    rw [ih, List.set_set]
    have : (fun x => if x ∈ l then strict (upd1 t e (strict (t e) (u e)) x) (u x) else upd1 t e (strict (t e) (u e)) x) = fun x => if x ∈ e :: l then strict (t x) (u x) else t x := by
      funext x
      by_cases hx : x = e
      · subst hx
        simp [hnd'.1, upd1]
      · simp [hx, upd1]
    rw [this]
theorem ens_nd : ens.Nodup := by decide
/-- x &= y on live books -/
def iandG (G : Gp) (n : Nat) (ends : Str) (keep : Int) (t : En → An) : Gp := (G.set n (.ins "Book" (bkF ends keep (.cel (n + 1))))).set (n + 1) (.dct (tabK t))
def mEnds (a b : Str) : Str := if b = "after" then "after" else a
def mKeep (a b : Int) : Int := if b < a then b else a
theorem iandS {G : Gp} {n m : Nat} {ends ends' : Str} {keep keep' : Int} {t u : En → An} (h : bkAt G n ends keep t) (h' : bkAt G m ends' keep' u) (hnm : n ≠ m) (hn1 : n + 1 ≠ m) (hn2 : n ≠ m + 1) :
    m_Book_iand [.cel n, .cel m] G = .ok (.cel n) (iandG G n (mEnds ends ends') (mKeep keep keep') (meetT t u)) := by
  obtain ⟨w, lp⟩ := iand_loop (n := n) (ends := ends) (keep := keep) h' hnm hn1 hn2 ens t h ens_nd none
  have et : (fun x => if x ∈ ens then strict (t x) (u x) else t x) = meetT t u := by funext x; simp [mem_ens, meetT]
  rw [et] at lp
  have hb := bk_set2 (u := meetT t u) h
  have hb' := bk_oth (o := .dct (tabK (meetT t u))) h' hn1 (by omega)
  generalize hG2 : G.set (n + 1) (.dct (tabK (meetT t u))) = G2 at lp hb hb'
  have hl : n < G2.length := (List.getElem?_eq_some_iff.mp hb.1).1
  -- the way to end
  have s1 : t_Book_iand_1 [some (.cel n), some (.cel m), w] G2 = t_Book_iand_2 [some (.cel n), some (.cel m), w] (G2.set n (.ins "Book" (bkF (mEnds ends ends') keep (.cel (n + 1))))) := by
    by_cases he : ends' = "after"
    · have e1 : mEnds ends ends' = "after" := by unfold mEnds; rw [if_pos he]
      rw [e1]
      simp [t_Book_iand_1, mV, bk_ins hb, bk_ins hb', List.lookup_cons, dEq, dEqB, dScal, he, fFldS, hb.1, putFD]
    · have e1 : mEnds ends ends' = ends := by unfold mEnds; rw [if_neg he]
      have e2 : G2.set n (.ins "Book" (bkF ends keep (.cel (n + 1)))) = G2 := by
        obtain ⟨hl, e⟩ := List.getElem?_eq_some_iff.mp hb.1
        rw [← e, List.set_getElem_self]
      rw [e1, e2]
      simp [t_Book_iand_1, mV, bk_ins hb, bk_ins hb', List.lookup_cons, dEq, dEqB, dScal, he]
  have hc : bkAt (G2.set n (.ins "Book" (bkF (mEnds ends ends') keep (.cel (n + 1))))) n (mEnds ends ends') keep (meetT t u) := ⟨by rw [List.getElem?_set_self hl], by rw [List.getElem?_set_ne (by omega)]; exact hb.2⟩
  have hc' := bk_oth (o := .ins "Book" (bkF (mEnds ends ends') keep (.cel (n + 1)))) hb' hnm hn2
  generalize hG3 : G2.set n (.ins "Book" (bkF (mEnds ends ends') keep (.cel (n + 1)))) = G3 at s1 hc hc'
  have s2 : t_Book_iand_2 [some (.cel n), some (.cel m), w] G3 = .rt (.cel n) (G3.set n (.ins "Book" (bkF (mEnds ends ends') (mKeep keep keep') (.cel (n + 1))))) := by
    by_cases he : keep' < keep
    · have e1 : mKeep keep keep' = keep' := by unfold mKeep; rw [if_pos he]
      rw [e1]
      simp [t_Book_iand_2, t_Book_iand_3, mV, bk_ins hc, bk_ins hc', List.lookup_cons, he, fFldS, hc.1, putFD]
    · have e1 : mKeep keep keep' = keep := by unfold mKeep; rw [if_neg he]
      have e2 : G3.set n (.ins "Book" (bkF (mEnds ends ends') keep (.cel (n + 1)))) = G3 := by
        obtain ⟨hl, e⟩ := List.getElem?_eq_some_iff.mp hc.1
        rw [← e, List.set_getElem_self]
      rw [e1, e2]
      simp [t_Book_iand_2, t_Book_iand_3, mV, bk_ins hc, bk_ins hc', List.lookup_cons, he]
  have e3 : G3.set n (.ins "Book" (bkF (mEnds ends ends') (mKeep keep keep') (.cel (n + 1)))) = iandG G n (mEnds ends ends') (mKeep keep keep') (meetT t u) := by
    rw [← hG3, List.set_set, ← hG2]
    unfold iandG
    rw [List.set_comm _ _ (by omega)]
  have x1 : (iAny (mC k_ENTRIES)) [some (.cel n), some (.cel m), none] G = .ok (ens.map enD) G := rfl
  show fnM 3 b_Book_iand [.cel n, .cel m] G = _
  simp only [fnM_ap, b_Book_iand, x_mSeq, x_mFor, List.map_cons, List.map_nil, List.length_cons, List.length_nil]
  rw [show ([some (.cel n), some (.cel m)] ++ List.replicate (3 - (0 + 1 + 1)) none : Ev) = [some (.cel n), some (.cel m), none] from rfl, x1]
  simp only [Out.toS_ok, lp, s1, s2, e3]
end Mi

set_option maxHeartbeats 40000000
namespace Mi
open PySem PySem.Spec PyProof.Rows L2 NdefX
noncomputable section
def t_law_level_2 : Sx := mRet (mC (.int 0))
def t_law_level_1 : Sx := mSeq (mIfS (mB (m2 dEq (mV 0) (mC (.str "wait")))) (mRet (mC (.int 1))) (mNop)) (t_law_level_2)
def b_law_level : Sx := mSeq (mIfS (mB (m2 dIn (mV 0) (mLstF (mCons (mC (.str "last")) (mCons (mC (.str "old")) (mCons (mC (.str "open")) (mCons (mC (.str "put")) (mCons (mC (.str "skip")) (mNil))))))))) (mRet (mC (.int 2))) (mNop)) (t_law_level_1)
def m_law_level : Fm := fnM 1 b_law_level
def l_law_meet_1 : Sx := mSeq (mAsg (gSubM (mV 2) (mV 3)) (m2 dIx (mV 0) (mV 3))) (mIfS (mAnd (mB (m2 dNe (m2 dIx (mV 0) (mV 3)) (m2 dIx (mV 1) (mV 3)))) (mB (m2 dEq (mCallS m_law_level 1 [] (mCons (m2 dIx (mV 0) (mV 3)) (mNil))) (mCallS m_law_level 1 [] (mCons (m2 dIx (mV 1) (mV 3)) (mNil)))))) (mAsg (gSubM (mV 2) (mV 3)) (mC (.str "abort"))) (mIfS (mB (m2 dLt (mCallS m_law_level 1 [] (mCons (m2 dIx (mV 1) (mV 3)) (mNil))) (mCallS m_law_level 1 [] (mCons (m2 dIx (mV 0) (mV 3)) (mNil))))) (mAsg (gSubM (mV 2) (mV 3)) (m2 dIx (mV 1) (mV 3))) (mNop)))
def t_law_meet_2 : Sx := mRet (mV 2)
def t_law_meet_1 : Sx := mSeq (mForK 0 (gN 3) (l_law_meet_1)) (t_law_meet_2)
def b_law_meet : Sx := mSeq (mSet 2 (mDnC)) (t_law_meet_1)
def m_law_meet : Fm := fnM 4 b_law_meet
def l_law_shows_1 : Sx := mIfS (mOr (mNot (mTru (mCB dIsi (mCons (mOix "Book" (callS m_Book_getitem 2) (mV 0) (mV 4)) (mCons (mC (.ty "str")) (mNil)))))) (mB (m2 dNe (mOix "Book" (callS m_Book_getitem 2) (mV 0) (mV 4)) (m2 dIx (mV 1) (mV 4))))) (mRet (mC (.bl false))) (mNop)
def t_law_shows_2 : Sx := mRet (mC (.bl true))
def t_law_shows_1 : Sx := mSeq (mFor (iAny (mCall m_law_entries 0 [] mNil)) (gN 4) (l_law_shows_1)) (t_law_shows_2)
def b_law_shows : Sx := mSeq (mIfS (mOr (mB (m2 dNe (mProp "Book" m_Book_ends (mV 0)) (mV 2))) (mOr (mTru (mCB dIsi (mCons (mProp "Book" m_Book_keep (mV 0)) (mCons (mC (.ty "bool")) (mNil))))) (mB (m2 dNe (mProp "Book" m_Book_keep (mV 0)) (mV 3))))) (mRet (mC (.bl false))) (mNop)) (t_law_shows_1)
def m_law_shows : Fm := fnM 5 b_law_shows
def l_law_1 : Sx := mIfS (mB (m2 dEq (m2 dIx (mV 3) (mV 2)) (mC (.int 1)))) (mAsg (gSubM (m2 dIx (mV 1) (mC (.int 1))) (m2 dIx (mV 4) (mV 2))) (m2 dIx (m2 dIx (mV 1) (mC (.int 0))) (m2 dIx (mV 4) (mV 2)))) (mNop)
def l_law_2 : Sx := mSeq (mIfS (mOr (mNot (mTru (mCallS m_law_shows 4 [] (mCons (mV 10) (mCons (mV 12) (mCons (mV 13) (mCons (mV 14) (mNil)))))))) (mNot (mTru (mCallS m_law_shows 4 [] (mCons (m2 dIx (mV 9) (mC (.int 0))) (mCons (mV 12) (mCons (mV 13) (mCons (mV 14) (mNil))))))))) (mRet (mC (.bl false))) (mNop)) (mSeq (mIfS (mNot (mTru (mCallS m_law_shows 4 [] (mCons (m2 dIx (mV 9) (mC (.int 1))) (mCons (m2 dIx (mV 1) (mC (.int 1))) (mCons (m2 dIx (mV 6) (mC (.int 1))) (mCons (m2 dIx (mV 8) (mC (.int 1))) (mNil)))))))) (mRet (mC (.bl false))) (mNop)) (mSeq (mIfS (mNot (mTru (mCallS m_law_shows 4 [] (mCons (mV 11) (mCons (m2 dIx (mV 1) (mC (.int 0))) (mCons (m2 dIx (mV 6) (mC (.int 0))) (mCons (m2 dIx (mV 8) (mC (.int 0))) (mNil)))))))) (mRet (mC (.bl false))) (mNop)) (mIand "Book" m_Book_iand 10 (m2 dIx (mV 9) (mC (.int 1))))))
def t_law_19 : Sx := mRet (mCallS m_law_shows 4 [] (mCons (m2 dIx (mV 9) (mC (.int 0))) (mCons (mV 12) (mCons (mV 13) (mCons (mCB dMin2 (mCons (mCB dInt (mCons (mV 14) (mNil))) (mCons (mCB dInt (mCons (m2 dIx (mV 8) (mC (.int 2))) (mNil))) (mNil)))) (mNil))))))
def t_law_18 : Sx := mSeq (mIfS (mB (m2 dEq (m2 dIx (mV 6) (mC (.int 2))) (mC (.str "after")))) (mSet 13 (mC (.str "after"))) (mNop)) (t_law_19)
def t_law_17 : Sx := mSeq (mSet 12 (mCallS m_law_meet 2 [] (mCons (mV 12) (mCons (m2 dIx (mV 1) (mC (.int 2))) (mNil))))) (t_law_18)
def t_law_16 : Sx := mSeq (mIand "Book" m_Book_iand 10 (m2 dIx (mV 9) (mC (.int 2)))) (t_law_17)
def t_law_15 : Sx := mSeq (mFor (iRng1m (mCons (mC (.int 2)) (mNil))) (gN 15) (l_law_2)) (t_law_16)
def t_law_14 : Sx := mSeq (mSet 14 (mCB dMin2 (mCons (mCB dInt (mCons (m2 dIx (mV 8) (mC (.int 0))) (mNil))) (mCons (mCB dInt (mCons (m2 dIx (mV 8) (mC (.int 1))) (mNil))) (mNil))))) (t_law_15)
def t_law_13 : Sx := mSeq (mIfS (mB (m2 dIn (mC (.str "after")) (mSl fSl (mV 6) (mNo) (mPart (mC (.int 2)))))) (mSet 13 (mC (.str "after"))) (mNop)) (t_law_14)
def t_law_12 : Sx := mSeq (mSet 13 (mC (.str "now"))) (t_law_13)
def t_law_11 : Sx := mSeq (mSet 12 (mCallS m_law_meet 2 [] (mCons (m2 dIx (mV 1) (mC (.int 0))) (mCons (m2 dIx (mV 1) (mC (.int 1))) (mNil))))) (t_law_12)
def t_law_10 : Sx := mSeq (mIand "Book" m_Book_iand 10 (m2 dIx (mV 9) (mC (.int 1)))) (t_law_11)
def t_law_9 : Sx := mSeq (mSet 11 (mMe "Book" "copy" (callS m_Book_copy 1) (mV 10) (mKw 0 0 (fun ds _ => ds) (mNil) (mNil)))) (t_law_10)
def t_law_8 : Sx := mSeq (mSet 10 (m2 dIx (mV 9) (mC (.int 0)))) (t_law_9)
def t_law_7 : Sx := mSeq (mSet 9 (mLc 2 [2] (iRng1m (mCons (mC (.int 3)) (mNil))) (mYes) (mCB (makeS "Book" m_Book_init 4) (mKw 1 2 (fun ds zs => ds ++ zs) (mCons (m2 dIx (mV 1) (mV 2)) (mNil)) (mCons (m2 dIx (mV 6) (mV 2)) (mCons (m2 dIx (mV 8) (mV 2)) (mNil))))))) (t_law_8)
def t_law_6 : Sx := mSeq (mSet 8 (mLc 2 [2] (iRng1m (mCons (mC (.int 3)) (mNil))) (mYes) (m2 dAdd (mC (.int 1)) (m2 dMod (mCB dInt (mCons (mCall m_law_cell 2 [] (mCons (mV 0) (mCons (m2 dAdd (mC (.int 5)) (mV 2)) (mNil)))) (mNil))) (mC (.int 20)))))) (t_law_7)
def t_law_5 : Sx := mSeq (mSet 6 (mLc 7 [7] (iAny (mLstF (mCons (mC (.int 1)) (mCons (mC (.int 2)) (mCons (mC (.int 4)) (mNil)))))) (mYes) (m2 dIx (mLstF (mCons (mC (.str "now")) (mCons (mC (.str "after")) (mNil)))) (m2 dMod (mCB dInt (mCons (m2 dDiv (mV 5) (mV 7)) (mNil))) (mC (.int 2)))))) (t_law_6)
def t_law_4 : Sx := mSeq (mSet 5 (mCall m_law_cell 2 [] (mCons (mV 0) (mCons (mC (.int 4)) (mNil))))) (t_law_5)
def t_law_3 : Sx := mSeq (mFor (iRng1m (mCons (mC (.int 14)) (mNil))) (gN 2) (l_law_1)) (t_law_4)
def t_law_2 : Sx := mSeq (mSet 4 (mCall m_law_entries 0 [] mNil)) (t_law_3)
def t_law_1 : Sx := mSeq (mSet 3 (mCall m_law_row 3 [] (mCons (mCall m_law_cell 2 [] (mCons (mV 0) (mCons (mC (.int 3)) (mNil)))) (mCons (mC (.int 14)) (mCons (mC (.int 4)) (mNil)))))) (t_law_2)
def b_law : Sx := mSeq (mSet 1 (mLcC 2 [2] (iRng1m (mCons (mC (.int 3)) (mNil))) (mYes) (mCallA m_law_table 1 [] (mCons (mCall m_law_cell 2 [] (mCons (mV 0) (mCons (mV 2) (mNil)))) (mNil))))) (t_law_1)
def m_law : Fm := fnM 16 b_law
end
end Mi

set_option maxHeartbeats 40000000
namespace Mi
open PySem PySem.Spec PyProof.Rows L2 NdefX
abbrev tp (i : Nat) : Stmt := PySem.Challenge.pw_stamprules_k08_meet_of_two_books.main.body.getD i (.Pass ⟨0, 0, 0, 0⟩)
abbrev dp_Book_ends : IniD := ⟨"Book", "Book.ends", defArgs (clsDef (tp 45) 1), defBody (clsDef (tp 45) 1), defScope (clsDef (tp 45) 1), some "ends"⟩
abbrev dp_Book_keep : IniD := ⟨"Book", "Book.keep", defArgs (clsDef (tp 45) 2), defBody (clsDef (tp 45) 2), defScope (clsDef (tp 45) 2), some "keep"⟩
abbrev dd_law_entries : He.DefD := ⟨("_law_entries", none), "_law_entries", "_law_entries", defArgs (tp 49), defBody (tp 49), defScope (tp 49), [], []⟩
abbrev dd_law_row : He.DefD := ⟨("_law_row", none), "_law_row", "_law_row", defArgs (tp 48), defBody (tp 48), defScope (tp 48), [], []⟩
abbrev dd_law_choices : He.DefD := ⟨("_law_choices", none), "_law_choices", "_law_choices", defArgs (tp 50), defBody (tp 50), defScope (tp 50), [], []⟩
abbrev dd_law_table : He.DefD := ⟨("_law_table", none), "_law_table", "_law_table", defArgs (tp 51), defBody (tp 51), defScope (tp 51), [], []⟩
abbrev dd_law_cell : He.DefD := ⟨("_law_cell", none), "_law_cell", "_law_cell", defArgs (tp 47), defBody (tp 47), defScope (tp 47), [], []⟩
abbrev dd_is_integer : He.DefD := ⟨("is_integer", none), "is_integer", "is_integer", defArgs (tp 8), defBody (tp 8), defScope (tp 8), [], []⟩
abbrev dd_answers_at : He.DefD := ⟨("answers_at", none), "answers_at", "answers_at", defArgs (tp 42), defBody (tp 42), defScope (tp 42), [], []⟩
abbrev dd_check_answer : He.DefD := ⟨("check_answer", none), "check_answer", "check_answer", defArgs (tp 43), defBody (tp 43), defScope (tp 43), [], []⟩
abbrev dd_Book_init : He.DefD := ⟨("Book", some "__init__"), "__init__", "Book.__init__", defArgs (clsDef (tp 45) 0), defBody (clsDef (tp 45) 0), defScope (clsDef (tp 45) 0), [.non], [("ends", (.str "now")), ("keep", (.int 1))]⟩
abbrev dd_Book_copy : He.DefD := ⟨("Book", some "copy"), "copy", "Book.copy", defArgs (clsDef (tp 45) 12), defBody (clsDef (tp 45) 12), defScope (clsDef (tp 45) 12), [], []⟩
abbrev dd_stricter : He.DefD := ⟨("stricter", none), "stricter", "stricter", defArgs (tp 44), defBody (tp 44), defScope (tp 44), [], []⟩
abbrev dd_Book_iand : He.DefD := ⟨("Book", some "__iand__"), "__iand__", "Book.__iand__", defArgs (clsDef (tp 45) 10), defBody (clsDef (tp 45) 10), defScope (clsDef (tp 45) 10), [], []⟩
abbrev dd_law_level : He.DefD := ⟨("_law_level", none), "_law_level", "_law_level", defArgs (tp 52), defBody (tp 52), defScope (tp 52), [], []⟩
abbrev dd_law_meet : He.DefD := ⟨("_law_meet", none), "_law_meet", "_law_meet", defArgs (tp 53), defBody (tp 53), defScope (tp 53), [], []⟩
abbrev dd_Book_getitem : He.DefD := ⟨("Book", some "__getitem__"), "__getitem__", "Book.__getitem__", defArgs (clsDef (tp 45) 4), defBody (clsDef (tp 45) 4), defScope (clsDef (tp 45) 4), [], []⟩
abbrev dd_law_shows : He.DefD := ⟨("_law_shows", none), "_law_shows", "_law_shows", defArgs (tp 54), defBody (tp 54), defScope (tp 54), [], []⟩
abbrev dd_law : He.DefD := ⟨("law", none), "law", "law", defArgs (tp 55), defBody (tp 55), defScope (tp 55), [], []⟩
abbrev di_BadSetting : IniD := ⟨"BadSetting", "BadSetting.__init__", defArgs (clsDef (tp 4) 0), defBody (clsDef (tp 4) 0), defScope (clsDef (tp 4) 0), none⟩
abbrev di_BadEntry : IniD := ⟨"BadEntry", "BadEntry.__init__", defArgs (clsDef (tp 2) 0), defBody (clsDef (tp 2) 0), defScope (clsDef (tp 2) 0), none⟩
abbrev di_BadAnswer : IniD := ⟨"BadAnswer", "BadAnswer.__init__", defArgs (clsDef (tp 3) 0), defBody (clsDef (tp 3) 0), defScope (clsDef (tp 3) 0), none⟩
def rd : RowD := { gl := ["_law_entries", "_law_row", "_law_choices", "_law_table", "_law_cell", "BadSetting", "is_integer", "Book", "ENTRIES", "BadEntry", "READ_ANSWERS", "answers_at", "BadAnswer", "check_answer", "LEVELS", "stricter", "_law_level", "_law_meet", "_law_shows", "law"], fr := ["range", "int", "len", "str", "isinstance", "super", "bool", "min"], fn := [dd_law_entries, dd_law_row, dd_law_choices, dd_law_table, dd_law_cell, dd_is_integer, dd_answers_at, dd_check_answer, dd_Book_init, dd_Book_copy, dd_stricter, dd_Book_iand, dd_law_level, dd_law_meet, dd_Book_getitem, dd_law_shows, dd_law], cs := [("ENTRIES", k_ENTRIES), ("READ_ANSWERS", k_READ_ANSWERS), ("LEVELS", k_LEVELS)], nums := [("MOST_KEPT", 20)], txts := [], ini := [di_BadSetting, di_BadEntry, di_BadAnswer], xs := [], file := "/claim/cut.py", kit := [], noat := [("BadSetting", "given"), ("BadEntry", "entry"), ("BadAnswer", "entry"), ("BadAnswer", "answer")], fas := [.cls "Book", .noat "Book" "rule", .noat "Book" "kept", .noat "Book" "names", .noat "Book" "table", .mkr "Book", .meth "Book" "copy", .meth "Book" "__iand__", .meth "Book" "__getitem__"], prs := [dp_Book_ends, dp_Book_keep], isi := [], sq := ["Book"] }
section
variable {w : World} {K : PySem.W.Frag} {mg : Str → Option Value} {base : Heap}
theorem x_BadSetting (R : Rw rd w K mg) : XcG PySem.Challenge.pw_stamprules_k08_meet_of_two_books w K mg base 1 "BadSetting" ["given"] :=
  XcG.mk1 (d := di_BadSetting) (file := "/claim/cut.py") (R.xW di_BadSetting (by simp [rd])).1 (R.xW di_BadSetting (by simp [rd])).2 R.any (R.no 0) (R.n 5) (R.g 5) (by rfl) (by rfl) rfl (nscope_by (by decide +kernel)) rfl rfl rfl (fun _ _ _ _ _ _ _ us hl => match us, hl with | [_, _], _ => rfl) (fun _ => rfl) (by decide) (by decide) (fun _ => rfl)
theorem x_BadEntry (R : Rw rd w K mg) : XcG PySem.Challenge.pw_stamprules_k08_meet_of_two_books w K mg base 1 "BadEntry" ["entry"] :=
  XcG.mk1 (d := di_BadEntry) (file := "/claim/cut.py") (R.xW di_BadEntry (by simp [rd])).1 (R.xW di_BadEntry (by simp [rd])).2 R.any (R.no 1) (R.n 5) (R.g 9) (by rfl) (by rfl) rfl (nscope_by (by decide +kernel)) rfl rfl rfl (fun _ _ _ _ _ _ _ us hl => match us, hl with | [_, _], _ => rfl) (fun _ => rfl) (by decide) (by decide) (fun _ => rfl)
theorem x_BadAnswer (R : Rw rd w K mg) : XcG PySem.Challenge.pw_stamprules_k08_meet_of_two_books w K mg base 1 "BadAnswer" ["entry", "answer"] :=
  XcG.mk2 (d := di_BadAnswer) (file := "/claim/cut.py") (R.xW di_BadAnswer (by simp [rd])).1 (R.xW di_BadAnswer (by simp [rd])).2 R.any (R.no 2) (R.no 3) (R.n 5) (R.g 12) (by rfl) (by rfl) rfl (nscope_by (by decide +kernel)) rfl rfl rfl (fun _ _ _ _ _ _ _ us hl => match us, hl with | [_, _, _], _ => rfl) (fun _ => rfl) (fun _ => rfl) (by decide) (by decide) (by decide) (by decide) (fun _ => rfl)
abbrev nn_law_entries : List Str := ["_law_names"]
theorem sc_law_entries : FnScope ["_law_names"] [] (defScope (tp 49)) := ⟨rfl, rfl, rfl, by decide +kernel, rfl, by decide +kernel, by decide +kernel⟩
theorem g__law_entries (R : Rw rd w K mg) : FnG PySem.Challenge.pw_stamprules_k08_meet_of_two_books w K mg base 1 "_law_entries" 0 [] m_law_entries := by
  obtain ⟨fd, F⟩ := R.d 0 (d := dd_law_entries) rfl
  refine FnG.mk (N := ["_law_names"]) (ps := []) (b := b_law_entries) F sc_law_entries (R.g 0) (fun _ _ _ _ _ _ us hl => match us, hl with | [], _ => rfl) fun cdv A outer s H E hr => ?_
  have S := sc_law_entries
  have hu := hr.units
  have hu1 := hu_of hr
  have tk := tk_of PySem.Challenge.pw_stamprules_k08_meet_of_two_books w K mg base ["_law_names"] "_law_entries" (defScope (tp 49)) (He.fAd K dd_law_entries.at_) cdv A outer s H E
  have hp := hp_of PySem.Challenge.pw_stamprules_k08_meet_of_two_books w K mg base ["_law_names"] "_law_entries" (defScope (tp 49)) (He.fAd K dd_law_entries.at_) cdv A outer s H E
  exact ssm_cons (sm_set S.nd rfl (by first | exact Or.inl rfl | exact Or.inr rfl) (em_lstF (am_cons (em_str) (am_cons (em_str) (am_cons (em_str) (am_cons (em_str) (am_nil))))))) (ssm_cons (sm_set S.nd rfl (by first | exact Or.inl rfl | exact Or.inr rfl) (em_op op_addA ok_add (em_v 0) (em_lstF (am_cons (em_str) (am_cons (em_str) (am_cons (em_str) (am_cons (em_str) (am_nil)))))))) (ssm_cons (sm_set S.nd rfl (by first | exact Or.inl rfl | exact Or.inr rfl) (em_op op_addA ok_add (em_v 0) (em_lstF (am_cons (em_str) (am_cons (em_str) (am_cons (em_str) (am_nil))))))) (ssm_one (sm_ret (em_op op_addA ok_add (em_v 0) (em_lstF (am_cons (em_str) (am_cons (em_str) (am_cons (em_str) (am_nil))))))))))
abbrev nn_law_row : List Str := ["_law_cell_here", "_law_count", "_law_base", "_law_row_here", "_law_rest", "_law_mixed", "_law_k"]
theorem sc_law_row : FnScope ["_law_cell_here", "_law_count", "_law_base", "_law_row_here", "_law_rest", "_law_mixed", "_law_k"] ["_law_cell_here", "_law_count", "_law_base"] (defScope (tp 48)) := ⟨rfl, rfl, rfl, by decide +kernel, rfl, by decide +kernel, by decide +kernel⟩
theorem g__law_row (R : Rw rd w K mg) : FnG PySem.Challenge.pw_stamprules_k08_meet_of_two_books w K mg base 1 "_law_row" 3 [] m_law_row := by
  obtain ⟨fd, F⟩ := R.d 1 (d := dd_law_row) rfl
  refine FnG.mk (N := ["_law_cell_here", "_law_count", "_law_base", "_law_row_here", "_law_rest", "_law_mixed", "_law_k"]) (ps := ["_law_cell_here", "_law_count", "_law_base"]) (b := b_law_row) F sc_law_row (R.g 1) (fun _ _ _ _ _ _ us hl => match us, hl with | [_, _, _], _ => rfl) fun cdv A outer s H E hr => ?_
  have S := sc_law_row
  have hu := hr.units
  have hu1 := hu_of hr
  have tk := tk_of PySem.Challenge.pw_stamprules_k08_meet_of_two_books w K mg base ["_law_cell_here", "_law_count", "_law_base", "_law_row_here", "_law_rest", "_law_mixed", "_law_k"] "_law_row" (defScope (tp 48)) (He.fAd K dd_law_row.at_) cdv A outer s H E
  have hp := hp_of PySem.Challenge.pw_stamprules_k08_meet_of_two_books w K mg base ["_law_cell_here", "_law_count", "_law_base", "_law_row_here", "_law_rest", "_law_mixed", "_law_k"] "_law_row" (defScope (tp 48)) (He.fAd K dd_law_row.at_) cdv A outer s H E
  exact ssm_cons (sm_set S.nd rfl (by first | exact Or.inl rfl | exact Or.inr rfl) (em_lstC (am_nil))) (ssm_cons (sm_set S.nd rfl (by first | exact Or.inl rfl | exact Or.inr rfl) (em_v 0)) (ssm_cons (sm_set S.nd rfl (by first | exact Or.inl rfl | exact Or.inr rfl) (em_op op_mod ok_mod (em_ct call_intA ok_intF (R.n 1) (by decide +kernel) (am_cons (em_op op_addA ok_add (em_op op_mul ok_mul (em_v 0) (em_int)) (em_int)) (am_nil))) (em_int))) (ssm_cons (sm_for hp rfl (im_range1 (R.n 0) (am_cons (em_v 1) (am_nil))) (gm_name S.nd rfl (by first | exact Or.inl rfl | exact Or.inr rfl)) (ssm_one (sm_if (tm_cmp op_ge ok_ge (em_v 0) (em_op op_pow ok_pow (em_int) (em_int)) (by rfl)) (ssm_cons (sm_expr (em_append (em_v 3) (am_cons (em_op op_mod ok_mod (em_ct call_intA ok_intF (R.n 1) (by decide +kernel) (am_cons (em_v 4) (am_nil))) (em_v 2)) (am_nil)))) (ssm_one (sm_set S.nd rfl (by first | exact Or.inl rfl | exact Or.inr rfl) (em_op op_fdiv ok_div (em_v 4) (em_v 2))))) (ssm_cons (sm_set S.nd rfl (by first | exact Or.inl rfl | exact Or.inr rfl) (em_op op_mod ok_mod (em_ct call_intA ok_intF (R.n 1) (by decide +kernel) (am_cons (em_op op_addA ok_add (em_op op_mul ok_mul (em_v 5) (em_int)) (em_int)) (am_nil))) (em_int))) (ssm_cons (sm_set S.nd rfl (by first | exact Or.inl rfl | exact Or.inr rfl) (em_op op_mod ok_mod (em_ct call_intA ok_intF (R.n 1) (by decide +kernel) (am_cons (em_op op_addA ok_add (em_op op_mul ok_mul (em_v 5) (em_int)) (em_v 6)) (am_nil))) (em_int))) (ssm_one (sm_expr (em_append (em_v 3) (am_cons (em_op op_mod ok_mod (em_ct call_intA ok_intF (R.n 1) (by decide +kernel) (am_cons (em_op op_fdiv ok_div (em_v 5) (em_int)) (am_nil))) (em_v 2)) (am_nil)))))))))) (ssm_one (sm_ret (em_v 3))))))
abbrev nn_law_choices : List Str := ["_law_name"]
theorem sc_law_choices : FnScope ["_law_name"] ["_law_name"] (defScope (tp 50)) := ⟨rfl, rfl, rfl, by decide +kernel, rfl, by decide +kernel, by decide +kernel⟩
theorem g__law_choices (R : Rw rd w K mg) : FnG PySem.Challenge.pw_stamprules_k08_meet_of_two_books w K mg base 1 "_law_choices" 1 [] m_law_choices := by
  obtain ⟨fd, F⟩ := R.d 2 (d := dd_law_choices) rfl
  refine FnG.mk (N := ["_law_name"]) (ps := ["_law_name"]) (b := b_law_choices) F sc_law_choices (R.g 2) (fun _ _ _ _ _ _ us hl => match us, hl with | [_], _ => rfl) fun cdv A outer s H E hr => ?_
  have S := sc_law_choices
  have hu := hr.units
  have hu1 := hu_of hr
  have tk := tk_of PySem.Challenge.pw_stamprules_k08_meet_of_two_books w K mg base ["_law_name"] "_law_choices" (defScope (tp 50)) (He.fAd K dd_law_choices.at_) cdv A outer s H E
  have hp := hp_of PySem.Challenge.pw_stamprules_k08_meet_of_two_books w K mg base ["_law_name"] "_law_choices" (defScope (tp 50)) (He.fAd K dd_law_choices.at_) cdv A outer s H E
  exact ssm_cons (sm_if (tm_cmp (op_eqA hu) ok_eq (em_v 0) (em_str) (by rfl)) (ssm_one (sm_ret (em_lstF (am_cons (em_str) (am_cons (em_str) (am_cons (em_str) (am_nil))))))) (ssm_nil)) (ssm_cons (sm_if (tm_cmp (op_eqA hu) ok_eq (em_v 0) (em_str) (by rfl)) (ssm_one (sm_ret (em_lstF (am_cons (em_str) (am_cons (em_str) (am_cons (em_str) (am_cons (em_str) (am_cons (em_str) (am_nil))))))))) (ssm_nil)) (ssm_cons (sm_if (tm_cmp (op_inA hu1) ok_in (em_v 0) (em_lstF (am_cons (em_str) (am_cons (em_str) (am_nil)))) (by rfl)) (ssm_one (sm_ret (em_lstF (am_cons (em_str) (am_cons (em_str) (am_cons (em_str) (am_cons (em_str) (am_nil)))))))) (ssm_nil)) (ssm_cons (sm_if (tm_cmp (op_inA hu1) ok_in (em_v 0) (em_lstF (am_cons (em_str) (am_cons (em_str) (am_nil)))) (by rfl)) (ssm_one (sm_ret (em_lstF (am_cons (em_str) (am_cons (em_str) (am_nil)))))) (ssm_nil)) (ssm_cons (sm_if (tm_cmp (op_inA hu1) ok_in (em_v 0) (em_lstF (am_cons (em_str) (am_cons (em_str) (am_nil)))) (by rfl)) (ssm_one (sm_ret (em_lstF (am_cons (em_str) (am_cons (em_str) (am_nil)))))) (ssm_nil)) (ssm_one (sm_ret (em_lstF (am_cons (em_str) (am_cons (em_str) (am_cons (em_str) (am_cons (em_str) (am_nil))))))))))))
abbrev nn_law_table : List Str := ["_law_cell_here", "_law_table_here", "_law_names", "_law_draws", "_law_k", "_law_options"]
theorem sc_law_table : FnScope ["_law_cell_here", "_law_table_here", "_law_names", "_law_draws", "_law_k", "_law_options"] ["_law_cell_here"] (defScope (tp 51)) := ⟨rfl, rfl, rfl, by decide +kernel, rfl, by decide +kernel, by decide +kernel⟩
theorem g__law_table (R : Rw rd w K mg) : FnG PySem.Challenge.pw_stamprules_k08_meet_of_two_books w K mg base 2 "_law_table" 1 [] m_law_table := by
  obtain ⟨fd, F⟩ := R.d 3 (d := dd_law_table) rfl
  refine FnG.mk (N := ["_law_cell_here", "_law_table_here", "_law_names", "_law_draws", "_law_k", "_law_options"]) (ps := ["_law_cell_here"]) (b := b_law_table) F sc_law_table (R.g 3) (fun _ _ _ _ _ _ us hl => match us, hl with | [_], _ => rfl) fun cdv A outer s H E hr => ?_
  have S := sc_law_table
  have hu := hr.units
  have hu1 := hu_of hr
  have tk := tk_of PySem.Challenge.pw_stamprules_k08_meet_of_two_books w K mg base ["_law_cell_here", "_law_table_here", "_law_names", "_law_draws", "_law_k", "_law_options"] "_law_table" (defScope (tp 51)) (He.fAd K dd_law_table.at_) cdv A outer s H E
  have hp := hp_of PySem.Challenge.pw_stamprules_k08_meet_of_two_books w K mg base ["_law_cell_here", "_law_table_here", "_law_names", "_law_draws", "_law_k", "_law_options"] "_law_table" (defScope (tp 51)) (He.fAd K dd_law_table.at_) cdv A outer s H E
  exact ssm_cons (sm_set S.nd rfl (by first | exact Or.inl rfl | exact Or.inr rfl) (em_dnC)) (ssm_cons (sm_set S.nd rfl (by first | exact Or.inl rfl | exact Or.inr rfl) (em_cG0 (g__law_entries R) hr (by decide) tk)) (ssm_cons (sm_set S.nd rfl (by first | exact Or.inl rfl | exact Or.inr rfl) (em_cG (g__law_row R) hr (by decide) tk (am_cons (em_v 0) (am_cons (em_int) (am_cons (em_int) (am_nil)))))) (ssm_cons (sm_for hp rfl (im_range1 (R.n 0) (am_cons (em_int) (am_nil))) (gm_name S.nd rfl (by first | exact Or.inl rfl | exact Or.inr rfl)) (ssm_cons (sm_set S.nd rfl (by first | exact Or.inl rfl | exact Or.inr rfl) (em_cG (g__law_choices R) hr (by decide) tk (am_cons (em_ix hu1 (em_v 2) (em_v 4) (fun _ _ => rfl)) (am_nil)))) (ssm_one (sm_asg (em_ix hu1 (em_v 5) (em_op op_mod ok_mod (em_ct call_intA ok_intF (R.n 1) (by decide +kernel) (am_cons (em_ix hu1 (em_v 3) (em_v 4) (fun _ _ => rfl)) (am_nil))) (em_cb call_lenA ok_len (R.n 2) (by decide +kernel) (am_cons (em_v 5) (am_nil)))) (fun _ _ => rfl)) (gm_sub hu1 (em_v 1) (em_ix hu1 (em_v 2) (em_v 4) (fun _ _ => rfl))))))) (ssm_one (sm_ret (em_v 1))))))
abbrev nn_law_cell : List Str := ["_law_script", "_law_k"]
theorem sc_law_cell : FnScope ["_law_script", "_law_k"] ["_law_script", "_law_k"] (defScope (tp 47)) := ⟨rfl, rfl, rfl, by decide +kernel, rfl, by decide +kernel, by decide +kernel⟩
theorem g__law_cell (R : Rw rd w K mg) : FnG PySem.Challenge.pw_stamprules_k08_meet_of_two_books w K mg base 1 "_law_cell" 2 [] m_law_cell := by
  obtain ⟨fd, F⟩ := R.d 4 (d := dd_law_cell) rfl
  refine FnG.mk (N := ["_law_script", "_law_k"]) (ps := ["_law_script", "_law_k"]) (b := b_law_cell) F sc_law_cell (R.g 4) (fun _ _ _ _ _ _ us hl => match us, hl with | [_, _], _ => rfl) fun cdv A outer s H E hr => ?_
  have S := sc_law_cell
  have hu := hr.units
  have hu1 := hu_of hr
  have tk := tk_of PySem.Challenge.pw_stamprules_k08_meet_of_two_books w K mg base ["_law_script", "_law_k"] "_law_cell" (defScope (tp 47)) (He.fAd K dd_law_cell.at_) cdv A outer s H E
  have hp := hp_of PySem.Challenge.pw_stamprules_k08_meet_of_two_books w K mg base ["_law_script", "_law_k"] "_law_cell" (defScope (tp 47)) (He.fAd K dd_law_cell.at_) cdv A outer s H E
  exact ssm_cons (sm_if (tm_cmp op_lt ok_lt (em_v 1) (em_cb call_lenA ok_len (R.n 2) (by decide +kernel) (am_cons (em_v 0) (am_nil))) (by rfl)) (ssm_one (sm_ret (em_ix hu1 (em_v 0) (em_v 1) (fun _ _ => rfl)))) (ssm_nil)) (ssm_one (sm_ret (em_int)))
abbrev nn_is_integer : List Str := ["given"]
theorem sc_is_integer : FnScope ["given"] ["given"] (defScope (tp 8)) := ⟨rfl, rfl, rfl, by decide +kernel, rfl, by decide +kernel, by decide +kernel⟩
theorem g_is_integer (R : Rw rd w K mg) : FnG PySem.Challenge.pw_stamprules_k08_meet_of_two_books w K mg base 1 "is_integer" 1 [] m_is_integer := by
  obtain ⟨fd, F⟩ := R.d 5 (d := dd_is_integer) rfl
  refine FnG.mk (N := ["given"]) (ps := ["given"]) (b := b_is_integer) F sc_is_integer (R.g 6) (fun _ _ _ _ _ _ us hl => match us, hl with | [_], _ => rfl) fun cdv A outer s H E hr => ?_
  have S := sc_is_integer
  have hu := hr.units
  have hu1 := hu_of hr
  have tk := tk_of PySem.Challenge.pw_stamprules_k08_meet_of_two_books w K mg base ["given"] "is_integer" (defScope (tp 8)) (He.fAd K dd_is_integer.at_) cdv A outer s H E
  have hp := hp_of PySem.Challenge.pw_stamprules_k08_meet_of_two_books w K mg base ["given"] "is_integer" (defScope (tp 8)) (He.fAd K dd_is_integer.at_) cdv A outer s H E
  exact ssm_one (sm_ret (em_and (em_cb call_isi ok_isi (R.n 4) (by decide +kernel) (am_cons (em_v 0) (am_cons (em_ty (R.n 1) (by decide +kernel)) (am_nil)))) (em_one (em_not (em_cb call_isi ok_isi (R.n 4) (by decide +kernel) (am_cons (em_v 0) (am_cons (em_ty (R.n 6) (by decide +kernel)) (am_nil))))))))
abbrev nn_answers_at : List Str := ["entry", "where"]
theorem sc_answers_at : FnScope ["entry", "where"] ["entry"] (defScope (tp 42)) := ⟨rfl, rfl, rfl, by decide +kernel, rfl, by decide +kernel, by decide +kernel⟩
theorem g_answers_at (R : Rw rd w K mg) : FnG PySem.Challenge.pw_stamprules_k08_meet_of_two_books w K mg base 3 "answers_at" 1 [] m_answers_at := by
  obtain ⟨fd, F⟩ := R.d 6 (d := dd_answers_at) rfl
  refine FnG.mk (N := ["entry", "where"]) (ps := ["entry"]) (b := b_answers_at) F sc_answers_at (R.g 11) (fun _ _ _ _ _ _ us hl => match us, hl with | [_], _ => rfl) fun cdv A outer s H E hr => ?_
  have S := sc_answers_at
  have hu := hr.units
  have hu1 := hu_of hr
  have tk := tk_of PySem.Challenge.pw_stamprules_k08_meet_of_two_books w K mg base ["entry", "where"] "answers_at" (defScope (tp 42)) (He.fAd K dd_answers_at.at_) cdv A outer s H E
  have hp := hp_of PySem.Challenge.pw_stamprules_k08_meet_of_two_books w K mg base ["entry", "where"] "answers_at" (defScope (tp 42)) (He.fAd K dd_answers_at.at_) cdv A outer s H E
  exact ssm_cons (sm_if (tm_cmp (op_ninA hu1) ok_nin (em_v 0) (em_ob (R.g 8) (R.c 0)) (by rfl)) (ssm_one (sm_rG (x_BadEntry R) hr (by decide) tk (am_cons (em_v 0) (am_nil)))) (ssm_nil)) (ssm_cons (sm_if (tm_cmp (op_inA hu1) ok_in (em_v 0) (em_ob (R.g 10) (R.c 1)) (by rfl)) (ssm_one (sm_ret (em_ix hu1 (em_ob (R.g 10) (R.c 1)) (em_v 0) (fun _ _ => rfl)))) (ssm_nil)) (ssm_cons (sm_set S.nd rfl (by first | exact Or.inl rfl | exact Or.inr rfl) (em_ix hu1 (em_split (em_v 0) (am_cons (em_str) (am_nil))) (em_int) (fun _ _ => rfl))) (ssm_cons (sm_if (tm_cmp (op_inA hu1) ok_in (em_v 1) (em_tup (am_cons (em_str) (am_cons (em_str) (am_nil)))) (by rfl)) (ssm_one (sm_ret (em_tup (am_cons (em_str) (am_cons (em_str) (am_nil)))))) (ssm_nil)) (ssm_cons (sm_if (tm_cmp (op_eqA hu) ok_eq (em_v 1) (em_str) (by rfl)) (ssm_one (sm_ret (em_tup (am_cons (em_str) (am_cons (em_str) (am_nil)))))) (ssm_nil)) (ssm_one (sm_ret (em_tup (am_cons (em_str) (am_cons (em_str) (am_cons (em_str) (am_cons (em_str) (am_nil))))))))))))
abbrev nn_check_answer : List Str := ["entry", "answer"]
theorem sc_check_answer : FnScope ["entry", "answer"] ["entry", "answer"] (defScope (tp 43)) := ⟨rfl, rfl, rfl, by decide +kernel, rfl, by decide +kernel, by decide +kernel⟩
theorem g_check_answer (R : Rw rd w K mg) : FnG PySem.Challenge.pw_stamprules_k08_meet_of_two_books w K mg base 4 "check_answer" 2 [] m_check_answer := by
  obtain ⟨fd, F⟩ := R.d 7 (d := dd_check_answer) rfl
  refine FnG.mk (N := ["entry", "answer"]) (ps := ["entry", "answer"]) (b := b_check_answer) F sc_check_answer (R.g 13) (fun _ _ _ _ _ _ us hl => match us, hl with | [_, _], _ => rfl) fun cdv A outer s H E hr => ?_
  have S := sc_check_answer
  have hu := hr.units
  have hu1 := hu_of hr
  have tk := tk_of PySem.Challenge.pw_stamprules_k08_meet_of_two_books w K mg base ["entry", "answer"] "check_answer" (defScope (tp 43)) (He.fAd K dd_check_answer.at_) cdv A outer s H E
  have hp := hp_of PySem.Challenge.pw_stamprules_k08_meet_of_two_books w K mg base ["entry", "answer"] "check_answer" (defScope (tp 43)) (He.fAd K dd_check_answer.at_) cdv A outer s H E
  exact ssm_one (sm_if (tm_cmp (op_ninA hu1) ok_nin (em_v 1) (em_cG (g_answers_at R) hr (by decide) tk (am_cons (em_v 0) (am_nil))) (by rfl)) (ssm_one (sm_rG (x_BadAnswer R) hr (by decide) tk (am_cons (em_v 0) (am_cons (em_v 1) (am_nil))))) (ssm_nil))
abbrev nn_Book_init : List Str := ["self", "answers", "ends", "keep", "entry"]
theorem sc_Book_init : FnScope ["self", "answers", "ends", "keep", "entry"] ["self", "answers", "ends", "keep"] (defScope (clsDef (tp 45) 0)) := ⟨rfl, rfl, rfl, by decide +kernel, rfl, by decide +kernel, by decide +kernel⟩
theorem fb_Book_init (R : Rw rd w K mg) (cdv : Value) (A : Around) (outer : List Env) (s : Shared) (H : Hp) (E : XK) (hr : Room 4 (A.deeper (envOfC "Book.__init__" (defScope (clsDef (tp 45) 0)) s.heap.objs.size (He.fAd K dd_Book_init.at_) cdv))) : PSsm (cxOf (L2.CX PySem.Challenge.pw_stamprules_k08_meet_of_two_books w) PySem.Challenge.pw_stamprules_k08_meet_of_two_books w K mg base ["self", "answers", "ends", "keep", "entry"] "Book.__init__" (defScope (clsDef (tp 45) 0)) (He.fAd K dd_Book_init.at_) cdv A outer s H E) (WE1 E) (defBody (clsDef (tp 45) 0)) b_Book_init := by
  have S := sc_Book_init
  have hu := hr.units
  have hu1 := hu_of hr
  have tk := tk_of PySem.Challenge.pw_stamprules_k08_meet_of_two_books w K mg base ["self", "answers", "ends", "keep", "entry"] "Book.__init__" (defScope (clsDef (tp 45) 0)) (He.fAd K dd_Book_init.at_) cdv A outer s H E
  have hp := hp_of PySem.Challenge.pw_stamprules_k08_meet_of_two_books w K mg base ["self", "answers", "ends", "keep", "entry"] "Book.__init__" (defScope (clsDef (tp 45) 0)) (He.fAd K dd_Book_init.at_) cdv A outer s H E
  exact ssm_cons (sm_if (tm_w (wm_or (tm_not (tm_tru (em_cb call_isi ok_isi (R.n 4) (by decide +kernel) (am_cons (em_v 2) (am_cons (em_ty (R.n 3) (by decide +kernel)) (am_nil)))))) (wm_or1 (tm_cmp (op_ninA hu1) ok_nin (em_v 2) (em_tup (am_cons (em_str) (am_cons (em_str) (am_nil)))) (by rfl))))) (ssm_one (sm_rG (x_BadSetting R) hr (by decide) tk (am_cons (em_v 2) (am_nil)))) (ssm_nil)) (ssm_cons (sm_if (tm_w (wm_or (tm_not (tm_tru (em_cG (g_is_integer R) hr (by decide) tk (am_cons (em_v 3) (am_nil))))) (wm_or (tm_cmp op_lt ok_lt (em_v 3) (em_int) (by rfl)) (wm_or1 (tm_cmp op_gt ok_gt (em_v 3) (em_gInt (R.i 0)) (by rfl)))))) (ssm_one (sm_rG (x_BadSetting R) hr (by decide) tk (am_cons (em_v 3) (am_nil)))) (ssm_nil)) (ssm_cons (sm_asg (em_v 2) (gm_fld (AtC.cons (R.g 7) (R.f 0) (R.f 1) (AtC.nil)) (em_v 0))) (ssm_cons (sm_asg (em_v 3) (gm_fld (AtC.cons (R.g 7) (R.f 0) (R.f 2) (AtC.nil)) (em_v 0))) (ssm_cons (sm_asg (em_ob (R.g 8) (R.c 0)) (gm_fld (AtC.cons (R.g 7) (R.f 0) (R.f 3) (AtC.nil)) (em_v 0))) (ssm_cons (sm_asg (em_dcC rfl S.nd (own := [("entry", 4)]) ⟨im_any (em_ob (R.g 8) (R.c 0)), blkOk_by (N := nn_Book_init) (sc := defScope (clsDef (tp 45) 0)) (by decide +kernel), fun _ _ _ _ _ => pg_name (i := 4) S.nd rfl (Or.inl rfl), fun _ _ _ _ _ => tsm_nil, fun _ _ _ _ _ => em_v 4, fun _ _ _ _ _ => em_str⟩) (gm_fld (AtC.cons (R.g 7) (R.f 0) (R.f 4) (AtC.nil)) (em_v 0))) (ssm_one (sm_if (tm_cmp op_notN ok_notN (em_v 1) (em_non) (by rfl)) (ssm_one (sm_forK (i := 1) hp rfl tk (gm_name S.nd rfl (by first | exact Or.inl rfl | exact Or.inr rfl)) (fun W3 tk3 => ssm_cons (sm_expr (em_cG (g_check_answer R) hr (by decide) tk3 (am_cons (em_v 4) (am_cons (em_ix hu1 (em_v 1) (em_v 4) (fun _ _ => rfl)) (am_nil))))) (ssm_one (sm_asg (em_ix hu1 (em_v 1) (em_v 4) (fun _ _ => rfl)) (gm_sub hu1 (em_fld (AtC.cons (R.g 7) (R.f 0) (R.f 4) (AtC.nil)) (em_v 0)) (em_v 4))))))) (ssm_nil))))))))
theorem mk_Book_init_0 (R : Rw rd w K mg) : MkG PySem.Challenge.pw_stamprules_k08_meet_of_two_books w K mg base 5 "Book" 1 ["ends", "keep"] (fun ds zs => ds ++ zs) m_Book_init 4 := by
  obtain ⟨fd, F⟩ := R.d 8 (d := dd_Book_init) rfl
  obtain ⟨its, mv, B⟩ := FunD.kbinds F 2 ["ends", "keep"] [] (ps := ["self", "answers", "ends", "keep"]) (fun us its mv ws => us ++ ws) (by simp [He.DefD.dvs]) (by simp [He.DefD.kws]) (by simp [He.DefD.kws, He.Dv.v]) (fun r1 r2 r3 r4 => (r1.append r4)) (fun T D doc pm an cdv ct us its mv ws l1 l2 l3 l4 => match us, its, mv, ws, l1, l2, l3, l4 with | [_, _], [_], [], [_, _], _, _, _, _ => ⟨_, rfl, rfl⟩)
  exact MkG.mk (N := ["self", "answers", "ends", "keep", "entry"]) (ps := ["self", "answers", "ends", "keep"]) (b := b_Book_init) F sc_Book_init (R.g 7) (R.f 5) B (fun v vs zs _ _ => rfl) (fun F ro ds es vs zs r1 r2 => (Reps.append r1 r2)) fun cdv A outer s H E hr => fb_Book_init R cdv A outer s H E hr
abbrev nn_Book_copy : List Str := ["self"]
theorem sc_Book_copy : FnScope ["self"] ["self"] (defScope (clsDef (tp 45) 12)) := ⟨rfl, rfl, rfl, by decide +kernel, rfl, by decide +kernel, by decide +kernel⟩
theorem fb_Book_copy (R : Rw rd w K mg) (cdv : Value) (A : Around) (outer : List Env) (s : Shared) (H : Hp) (E : XK) (hr : Room 6 (A.deeper (envOfC "Book.copy" (defScope (clsDef (tp 45) 12)) s.heap.objs.size (He.fAd K dd_Book_copy.at_) cdv))) : PSsm (cxOf (L2.CX PySem.Challenge.pw_stamprules_k08_meet_of_two_books w) PySem.Challenge.pw_stamprules_k08_meet_of_two_books w K mg base ["self"] "Book.copy" (defScope (clsDef (tp 45) 12)) (He.fAd K dd_Book_copy.at_) cdv A outer s H E) (WE1 E) (defBody (clsDef (tp 45) 12)) b_Book_copy := by
  have S := sc_Book_copy
  have hu := hr.units
  have hu1 := hu_of hr
  have tk := tk_of PySem.Challenge.pw_stamprules_k08_meet_of_two_books w K mg base ["self"] "Book.copy" (defScope (clsDef (tp 45) 12)) (He.fAd K dd_Book_copy.at_) cdv A outer s H E
  have hp := hp_of PySem.Challenge.pw_stamprules_k08_meet_of_two_books w K mg base ["self"] "Book.copy" (defScope (clsDef (tp 45) 12)) (He.fAd K dd_Book_copy.at_) cdv A outer s H E
  exact ssm_one (sm_ret (em_mk (mk_Book_init_0 R) mk_S hr (by decide) tk (am_cons (em_fld (AtC.cons (R.g 7) (R.f 0) (R.f 4) (AtC.nil)) (em_v 0)) (am_nil)) (km_cons (em_fld (AtC.cons (R.g 7) (R.f 0) (R.f 1) (AtC.nil)) (em_v 0)) (km_cons (em_fld (AtC.cons (R.g 7) (R.f 0) (R.f 2) (AtC.nil)) (em_v 0)) (km_nil)))))
theorem mt_Book_copy_0 (R : Rw rd w K mg) : MtG PySem.Challenge.pw_stamprules_k08_meet_of_two_books w K mg base 7 "Book" "copy" 0 [] (fun ds _ => ds) m_Book_copy 1 := by
  obtain ⟨fd, F⟩ := R.d 9 (d := dd_Book_copy) rfl
  have B := kb_plain (ps := ["self"]) F (fun _ _ _ _ _ _ us hl => match us, hl with | [_], _ => rfl)
  exact MtG.mk (N := ["self"]) (ps := ["self"]) (b := b_Book_copy) F sc_Book_copy (R.g 7) (R.f 0) (R.f 6) B (fun v vs zs _ _ => rfl) (fun F ro ds es vs zs r1 r2 => r1) fun cdv A outer s H E hr => fb_Book_copy R cdv A outer s H E hr
abbrev nn_stricter : List Str := ["answer", "other"]
theorem sc_stricter : FnScope ["answer", "other"] ["answer", "other"] (defScope (tp 44)) := ⟨rfl, rfl, rfl, by decide +kernel, rfl, by decide +kernel, by decide +kernel⟩
theorem g_stricter (R : Rw rd w K mg) : FnG PySem.Challenge.pw_stamprules_k08_meet_of_two_books w K mg base 1 "stricter" 2 [] m_stricter := by
  obtain ⟨fd, F⟩ := R.d 10 (d := dd_stricter) rfl
  refine FnG.mk (N := ["answer", "other"]) (ps := ["answer", "other"]) (b := b_stricter) F sc_stricter (R.g 15) (fun _ _ _ _ _ _ us hl => match us, hl with | [_, _], _ => rfl) fun cdv A outer s H E hr => ?_
  have S := sc_stricter
  have hu := hr.units
  have hu1 := hu_of hr
  have tk := tk_of PySem.Challenge.pw_stamprules_k08_meet_of_two_books w K mg base ["answer", "other"] "stricter" (defScope (tp 44)) (He.fAd K dd_stricter.at_) cdv A outer s H E
  have hp := hp_of PySem.Challenge.pw_stamprules_k08_meet_of_two_books w K mg base ["answer", "other"] "stricter" (defScope (tp 44)) (He.fAd K dd_stricter.at_) cdv A outer s H E
  exact ssm_cons (sm_if (tm_cmp (op_eqA hu) ok_eq (em_v 0) (em_v 1) (by rfl)) (ssm_one (sm_ret (em_v 0))) (ssm_nil)) (ssm_cons (sm_if (tm_cmp (op_eqA hu) ok_eq (em_ix hu1 (em_ob (R.g 14) (R.c 2)) (em_v 0) (fun _ _ => rfl)) (em_ix hu1 (em_ob (R.g 14) (R.c 2)) (em_v 1) (fun _ _ => rfl)) (by rfl)) (ssm_one (sm_ret (em_str))) (ssm_nil)) (ssm_one (sm_ret (em_if (tm_cmp op_lt ok_lt (em_ix hu1 (em_ob (R.g 14) (R.c 2)) (em_v 0) (fun _ _ => rfl)) (em_ix hu1 (em_ob (R.g 14) (R.c 2)) (em_v 1) (fun _ _ => rfl)) (by rfl)) (em_v 0) (em_v 1)))))
abbrev nn_Book_iand : List Str := ["self", "other", "entry"]
theorem sc_Book_iand : FnScope ["self", "other", "entry"] ["self", "other"] (defScope (clsDef (tp 45) 10)) := ⟨rfl, rfl, rfl, by decide +kernel, rfl, by decide +kernel, by decide +kernel⟩
theorem fb_Book_iand (R : Rw rd w K mg) (cdv : Value) (A : Around) (outer : List Env) (s : Shared) (H : Hp) (E : XK) (hr : Room 1 (A.deeper (envOfC "Book.__iand__" (defScope (clsDef (tp 45) 10)) s.heap.objs.size (He.fAd K dd_Book_iand.at_) cdv))) : PSsm (cxOf (L2.CX PySem.Challenge.pw_stamprules_k08_meet_of_two_books w) PySem.Challenge.pw_stamprules_k08_meet_of_two_books w K mg base ["self", "other", "entry"] "Book.__iand__" (defScope (clsDef (tp 45) 10)) (He.fAd K dd_Book_iand.at_) cdv A outer s H E) (WE1 E) (defBody (clsDef (tp 45) 10)) b_Book_iand := by
  have S := sc_Book_iand
  have hu := hr.units
  have hu1 := hu_of hr
  have tk := tk_of PySem.Challenge.pw_stamprules_k08_meet_of_two_books w K mg base ["self", "other", "entry"] "Book.__iand__" (defScope (clsDef (tp 45) 10)) (He.fAd K dd_Book_iand.at_) cdv A outer s H E
  have hp := hp_of PySem.Challenge.pw_stamprules_k08_meet_of_two_books w K mg base ["self", "other", "entry"] "Book.__iand__" (defScope (clsDef (tp 45) 10)) (He.fAd K dd_Book_iand.at_) cdv A outer s H E
  exact ssm_cons (sm_for hp rfl (im_any (em_ob (R.g 8) (R.c 0))) (gm_name S.nd rfl (by first | exact Or.inl rfl | exact Or.inr rfl)) (ssm_one (sm_asg (em_cS (g_stricter R) hr (by decide) tk (am_cons (em_ix hu1 (em_fld (AtC.cons (R.g 7) (R.f 0) (R.f 4) (AtC.nil)) (em_v 0)) (em_v 2) (fun _ _ => rfl)) (am_cons (em_ix hu1 (em_fld (AtC.cons (R.g 7) (R.f 0) (R.f 4) (AtC.nil)) (em_v 1)) (em_v 2) (fun _ _ => rfl)) (am_nil)))) (gm_sub hu1 (em_fld (AtC.cons (R.g 7) (R.f 0) (R.f 4) (AtC.nil)) (em_v 0)) (em_v 2))))) (ssm_cons (sm_if (tm_cmp (op_eqA hu) ok_eq (em_fld (AtC.cons (R.g 7) (R.f 0) (R.f 1) (AtC.nil)) (em_v 1)) (em_str) (by rfl)) (ssm_one (sm_asg (em_str) (gm_fld (AtC.cons (R.g 7) (R.f 0) (R.f 1) (AtC.nil)) (em_v 0)))) (ssm_nil)) (ssm_cons (sm_if (tm_cmp op_lt ok_lt (em_fld (AtC.cons (R.g 7) (R.f 0) (R.f 2) (AtC.nil)) (em_v 1)) (em_fld (AtC.cons (R.g 7) (R.f 0) (R.f 2) (AtC.nil)) (em_v 0)) (by rfl)) (ssm_one (sm_asg (em_fld (AtC.cons (R.g 7) (R.f 0) (R.f 2) (AtC.nil)) (em_v 1)) (gm_fld (AtC.cons (R.g 7) (R.f 0) (R.f 2) (AtC.nil)) (em_v 0)))) (ssm_nil)) (ssm_one (sm_ret (em_v 0)))))
theorem ow_Book_iand (R : Rw rd w K mg) : OwG PySem.Challenge.pw_stamprules_k08_meet_of_two_books w K mg base 2 "Book" "__iand__" m_Book_iand 2 := by
  obtain ⟨fd, F⟩ := R.d 11 (d := dd_Book_iand) rfl
  exact ⟨_, _, fd, ["self", "other"], R.g 7, He.meth_ok (R.f 7), fn_in F, fn_ok (N := ["self", "other", "entry"]) (ps := ["self", "other"]) (b := b_Book_iand) F sc_Book_iand fun cdv A outer s H E hr => fb_Book_iand R cdv A outer s H E hr, F.bindsN (fun _ _ _ _ _ _ us hl => match us, hl with | [_, _], _ => rfl)⟩
abbrev nn_law_level : List Str := ["_law_answer"]
theorem sc_law_level : FnScope ["_law_answer"] ["_law_answer"] (defScope (tp 52)) := ⟨rfl, rfl, rfl, by decide +kernel, rfl, by decide +kernel, by decide +kernel⟩
theorem g__law_level (R : Rw rd w K mg) : FnG PySem.Challenge.pw_stamprules_k08_meet_of_two_books w K mg base 1 "_law_level" 1 [] m_law_level := by
  obtain ⟨fd, F⟩ := R.d 12 (d := dd_law_level) rfl
  refine FnG.mk (N := ["_law_answer"]) (ps := ["_law_answer"]) (b := b_law_level) F sc_law_level (R.g 16) (fun _ _ _ _ _ _ us hl => match us, hl with | [_], _ => rfl) fun cdv A outer s H E hr => ?_
  have S := sc_law_level
  have hu := hr.units
  have hu1 := hu_of hr
  have tk := tk_of PySem.Challenge.pw_stamprules_k08_meet_of_two_books w K mg base ["_law_answer"] "_law_level" (defScope (tp 52)) (He.fAd K dd_law_level.at_) cdv A outer s H E
  have hp := hp_of PySem.Challenge.pw_stamprules_k08_meet_of_two_books w K mg base ["_law_answer"] "_law_level" (defScope (tp 52)) (He.fAd K dd_law_level.at_) cdv A outer s H E
  exact ssm_cons (sm_if (tm_cmp (op_inA hu1) ok_in (em_v 0) (em_lstF (am_cons (em_str) (am_cons (em_str) (am_cons (em_str) (am_cons (em_str) (am_cons (em_str) (am_nil))))))) (by rfl)) (ssm_one (sm_ret (em_int))) (ssm_nil)) (ssm_cons (sm_if (tm_cmp (op_eqA hu) ok_eq (em_v 0) (em_str) (by rfl)) (ssm_one (sm_ret (em_int))) (ssm_nil)) (ssm_one (sm_ret (em_int))))
abbrev nn_law_meet : List Str := ["_law_one", "_law_two", "_law_table_here", "_law_name"]
theorem sc_law_meet : FnScope ["_law_one", "_law_two", "_law_table_here", "_law_name"] ["_law_one", "_law_two"] (defScope (tp 53)) := ⟨rfl, rfl, rfl, by decide +kernel, rfl, by decide +kernel, by decide +kernel⟩
theorem g__law_meet (R : Rw rd w K mg) : FnG PySem.Challenge.pw_stamprules_k08_meet_of_two_books w K mg base 2 "_law_meet" 2 [] m_law_meet := by
  obtain ⟨fd, F⟩ := R.d 13 (d := dd_law_meet) rfl
  refine FnG.mk (N := ["_law_one", "_law_two", "_law_table_here", "_law_name"]) (ps := ["_law_one", "_law_two"]) (b := b_law_meet) F sc_law_meet (R.g 17) (fun _ _ _ _ _ _ us hl => match us, hl with | [_, _], _ => rfl) fun cdv A outer s H E hr => ?_
  have S := sc_law_meet
  have hu := hr.units
  have hu1 := hu_of hr
  have tk := tk_of PySem.Challenge.pw_stamprules_k08_meet_of_two_books w K mg base ["_law_one", "_law_two", "_law_table_here", "_law_name"] "_law_meet" (defScope (tp 53)) (He.fAd K dd_law_meet.at_) cdv A outer s H E
  have hp := hp_of PySem.Challenge.pw_stamprules_k08_meet_of_two_books w K mg base ["_law_one", "_law_two", "_law_table_here", "_law_name"] "_law_meet" (defScope (tp 53)) (He.fAd K dd_law_meet.at_) cdv A outer s H E
  exact ssm_cons (sm_set S.nd rfl (by first | exact Or.inl rfl | exact Or.inr rfl) (em_dnC)) (ssm_cons (sm_forK (i := 0) hp rfl tk (gm_name S.nd rfl (by first | exact Or.inl rfl | exact Or.inr rfl)) (fun W3 tk3 => ssm_cons (sm_asg (em_ix hu1 (em_v 0) (em_v 3) (fun _ _ => rfl)) (gm_sub hu1 (em_v 2) (em_v 3))) (ssm_one (sm_if (tm_w (wm_and (tm_cmp (op_neA hu) ok_ne (em_ix hu1 (em_v 0) (em_v 3) (fun _ _ => rfl)) (em_ix hu1 (em_v 1) (em_v 3) (fun _ _ => rfl)) (by rfl)) (wm_and1 (tm_cmp (op_eqA hu) ok_eq (em_cS (g__law_level R) hr (by decide) tk3 (am_cons (em_ix hu1 (em_v 0) (em_v 3) (fun _ _ => rfl)) (am_nil))) (em_cS (g__law_level R) hr (by decide) tk3 (am_cons (em_ix hu1 (em_v 1) (em_v 3) (fun _ _ => rfl)) (am_nil))) (by rfl))))) (ssm_one (sm_asg (em_str) (gm_sub hu1 (em_v 2) (em_v 3)))) (ssm_one (sm_if (tm_cmp op_lt ok_lt (em_cS (g__law_level R) hr (by decide) tk3 (am_cons (em_ix hu1 (em_v 1) (em_v 3) (fun _ _ => rfl)) (am_nil))) (em_cS (g__law_level R) hr (by decide) tk3 (am_cons (em_ix hu1 (em_v 0) (em_v 3) (fun _ _ => rfl)) (am_nil))) (by rfl)) (ssm_one (sm_asg (em_ix hu1 (em_v 1) (em_v 3) (fun _ _ => rfl)) (gm_sub hu1 (em_v 2) (em_v 3)))) (ssm_nil))))))) (ssm_one (sm_ret (em_v 2))))
abbrev nn_Book_ends : List Str := ["self"]
theorem sc_Book_ends : FnScope ["self"] ["self"] (defScope (clsDef (tp 45) 1)) := ⟨rfl, rfl, rfl, by decide +kernel, rfl, by decide +kernel, by decide +kernel⟩
theorem fb_Book_ends (R : Rw rd w K mg) (cdv : Value) (A : Around) (outer : List Env) (s : Shared) (H : Hp) (E : XK) (hr : Room 0 (A.deeper (envOfC "Book.ends" (defScope (clsDef (tp 45) 1)) s.heap.objs.size (pga K "Book" "ends") cdv))) : PSsm (cxOf (L2.CX PySem.Challenge.pw_stamprules_k08_meet_of_two_books w) PySem.Challenge.pw_stamprules_k08_meet_of_two_books w K mg base ["self"] "Book.ends" (defScope (clsDef (tp 45) 1)) (pga K "Book" "ends") cdv A outer s H E) (WE1 E) (defBody (clsDef (tp 45) 1)) b_Book_ends := by
  have S := sc_Book_ends
  have hu := hr.units
  have hu1 := hu_of hr
  have tk := tk_of PySem.Challenge.pw_stamprules_k08_meet_of_two_books w K mg base ["self"] "Book.ends" (defScope (clsDef (tp 45) 1)) (pga K "Book" "ends") cdv A outer s H E
  have hp := hp_of PySem.Challenge.pw_stamprules_k08_meet_of_two_books w K mg base ["self"] "Book.ends" (defScope (clsDef (tp 45) 1)) (pga K "Book" "ends") cdv A outer s H E
  exact ssm_one (sm_ret (em_fld (AtC.cons (R.g 7) (R.f 0) (R.f 1) (AtC.nil)) (em_v 0)))
theorem pr_Book_ends (R : Rw rd w K mg) : PrG PySem.Challenge.pw_stamprules_k08_meet_of_two_books w K mg base 1 "Book" "ends" m_Book_ends := by
  obtain ⟨hp, fd, F⟩ := prp_ok (d := dp_Book_ends) rfl (R.pM dp_Book_ends (by simp [rd])).1 (R.pM dp_Book_ends (by simp [rd])).2
  exact ⟨_, _, _, fd, ["self"], R.g 7, He.cls_ok (R.f 0), hp, fn_ok (N := ["self"]) (ps := ["self"]) (b := b_Book_ends) F sc_Book_ends fun cdv A outer s H E hr => fb_Book_ends R cdv A outer s H E hr, F.bindsN (fun _ _ _ _ _ _ us hl => match us, hl with | [_], _ => rfl)⟩
abbrev nn_Book_keep : List Str := ["self"]
theorem sc_Book_keep : FnScope ["self"] ["self"] (defScope (clsDef (tp 45) 2)) := ⟨rfl, rfl, rfl, by decide +kernel, rfl, by decide +kernel, by decide +kernel⟩
theorem fb_Book_keep (R : Rw rd w K mg) (cdv : Value) (A : Around) (outer : List Env) (s : Shared) (H : Hp) (E : XK) (hr : Room 0 (A.deeper (envOfC "Book.keep" (defScope (clsDef (tp 45) 2)) s.heap.objs.size (pga K "Book" "keep") cdv))) : PSsm (cxOf (L2.CX PySem.Challenge.pw_stamprules_k08_meet_of_two_books w) PySem.Challenge.pw_stamprules_k08_meet_of_two_books w K mg base ["self"] "Book.keep" (defScope (clsDef (tp 45) 2)) (pga K "Book" "keep") cdv A outer s H E) (WE1 E) (defBody (clsDef (tp 45) 2)) b_Book_keep := by
  have S := sc_Book_keep
  have hu := hr.units
  have hu1 := hu_of hr
  have tk := tk_of PySem.Challenge.pw_stamprules_k08_meet_of_two_books w K mg base ["self"] "Book.keep" (defScope (clsDef (tp 45) 2)) (pga K "Book" "keep") cdv A outer s H E
  have hp := hp_of PySem.Challenge.pw_stamprules_k08_meet_of_two_books w K mg base ["self"] "Book.keep" (defScope (clsDef (tp 45) 2)) (pga K "Book" "keep") cdv A outer s H E
  exact ssm_one (sm_ret (em_fld (AtC.cons (R.g 7) (R.f 0) (R.f 2) (AtC.nil)) (em_v 0)))
theorem pr_Book_keep (R : Rw rd w K mg) : PrG PySem.Challenge.pw_stamprules_k08_meet_of_two_books w K mg base 1 "Book" "keep" m_Book_keep := by
  obtain ⟨hp, fd, F⟩ := prp_ok (d := dp_Book_keep) rfl (R.pM dp_Book_keep (by simp [rd])).1 (R.pM dp_Book_keep (by simp [rd])).2
  exact ⟨_, _, _, fd, ["self"], R.g 7, He.cls_ok (R.f 0), hp, fn_ok (N := ["self"]) (ps := ["self"]) (b := b_Book_keep) F sc_Book_keep fun cdv A outer s H E hr => fb_Book_keep R cdv A outer s H E hr, F.bindsN (fun _ _ _ _ _ _ us hl => match us, hl with | [_], _ => rfl)⟩
abbrev nn_Book_getitem : List Str := ["self", "at"]
theorem sc_Book_getitem : FnScope ["self", "at"] ["self", "at"] (defScope (clsDef (tp 45) 4)) := ⟨rfl, rfl, rfl, by decide +kernel, rfl, by decide +kernel, by decide +kernel⟩
theorem fb_Book_getitem (R : Rw rd w K mg) (cdv : Value) (A : Around) (outer : List Env) (s : Shared) (H : Hp) (E : XK) (hr : Room 2 (A.deeper (envOfC "Book.__getitem__" (defScope (clsDef (tp 45) 4)) s.heap.objs.size (He.fAd K dd_Book_getitem.at_) cdv))) : PSsm (cxOf (L2.CX PySem.Challenge.pw_stamprules_k08_meet_of_two_books w) PySem.Challenge.pw_stamprules_k08_meet_of_two_books w K mg base ["self", "at"] "Book.__getitem__" (defScope (clsDef (tp 45) 4)) (He.fAd K dd_Book_getitem.at_) cdv A outer s H E) (WE1 E) (defBody (clsDef (tp 45) 4)) b_Book_getitem := by
  have S := sc_Book_getitem
  have hu := hr.units
  have hu1 := hu_of hr
  have tk := tk_of PySem.Challenge.pw_stamprules_k08_meet_of_two_books w K mg base ["self", "at"] "Book.__getitem__" (defScope (clsDef (tp 45) 4)) (He.fAd K dd_Book_getitem.at_) cdv A outer s H E
  have hp := hp_of PySem.Challenge.pw_stamprules_k08_meet_of_two_books w K mg base ["self", "at"] "Book.__getitem__" (defScope (clsDef (tp 45) 4)) (He.fAd K dd_Book_getitem.at_) cdv A outer s H E
  exact ssm_cons (sm_if (tm_cmp (op_ninA hu1) ok_nin (em_v 1) (em_ob (R.g 8) (R.c 0)) (by rfl)) (ssm_one (sm_rG (x_BadEntry R) hr (by decide) tk (am_cons (em_v 1) (am_nil)))) (ssm_nil)) (ssm_one (sm_ret (em_ix hu1 (em_fld (AtC.cons (R.g 7) (R.f 0) (R.f 4) (AtC.nil)) (em_v 0)) (em_v 1) (fun _ _ => rfl))))
theorem ow_Book_getitem (R : Rw rd w K mg) : OwG PySem.Challenge.pw_stamprules_k08_meet_of_two_books w K mg base 3 "Book" "__getitem__" m_Book_getitem 2 := by
  obtain ⟨fd, F⟩ := R.d 14 (d := dd_Book_getitem) rfl
  exact ⟨_, _, fd, ["self", "at"], R.g 7, He.meth_ok (R.f 8), fn_in F, fn_ok (N := ["self", "at"]) (ps := ["self", "at"]) (b := b_Book_getitem) F sc_Book_getitem fun cdv A outer s H E hr => fb_Book_getitem R cdv A outer s H E hr, F.bindsN (fun _ _ _ _ _ _ us hl => match us, hl with | [_, _], _ => rfl)⟩
abbrev nn_law_shows : List Str := ["_law_book", "_law_table_here", "_law_rule", "_law_kept", "_law_name"]
theorem sc_law_shows : FnScope ["_law_book", "_law_table_here", "_law_rule", "_law_kept", "_law_name"] ["_law_book", "_law_table_here", "_law_rule", "_law_kept"] (defScope (tp 54)) := ⟨rfl, rfl, rfl, by decide +kernel, rfl, by decide +kernel, by decide +kernel⟩
theorem g__law_shows (R : Rw rd w K mg) : FnG PySem.Challenge.pw_stamprules_k08_meet_of_two_books w K mg base 5 "_law_shows" 4 [] m_law_shows := by
  obtain ⟨fd, F⟩ := R.d 15 (d := dd_law_shows) rfl
  refine FnG.mk (N := ["_law_book", "_law_table_here", "_law_rule", "_law_kept", "_law_name"]) (ps := ["_law_book", "_law_table_here", "_law_rule", "_law_kept"]) (b := b_law_shows) F sc_law_shows (R.g 18) (fun _ _ _ _ _ _ us hl => match us, hl with | [_, _, _, _], _ => rfl) fun cdv A outer s H E hr => ?_
  have S := sc_law_shows
  have hu := hr.units
  have hu1 := hu_of hr
  have tk := tk_of PySem.Challenge.pw_stamprules_k08_meet_of_two_books w K mg base ["_law_book", "_law_table_here", "_law_rule", "_law_kept", "_law_name"] "_law_shows" (defScope (tp 54)) (He.fAd K dd_law_shows.at_) cdv A outer s H E
  have hp := hp_of PySem.Challenge.pw_stamprules_k08_meet_of_two_books w K mg base ["_law_book", "_law_table_here", "_law_rule", "_law_kept", "_law_name"] "_law_shows" (defScope (tp 54)) (He.fAd K dd_law_shows.at_) cdv A outer s H E
  exact ssm_cons (sm_if (tm_w (wm_or (tm_cmp (op_neA hu) ok_ne (em_prop (pr_Book_ends R) hr (by decide) (em_v 0)) (em_v 2) (by rfl)) (wm_or (tm_tru (em_cb call_isi ok_isi (R.n 4) (by decide +kernel) (am_cons (em_prop (pr_Book_keep R) hr (by decide) (em_v 0)) (am_cons (em_ty (R.n 6) (by decide +kernel)) (am_nil))))) (wm_or1 (tm_cmp (op_neA hu) ok_ne (em_prop (pr_Book_keep R) hr (by decide) (em_v 0)) (em_v 3) (by rfl)))))) (ssm_one (sm_ret (em_bl))) (ssm_nil)) (ssm_cons (sm_for hp rfl (im_any (em_cG0 (g__law_entries R) hr (by decide) tk)) (gm_name S.nd rfl (by first | exact Or.inl rfl | exact Or.inr rfl)) (ssm_one (sm_if (tm_w (wm_or (tm_not (tm_tru (em_cb call_isi ok_isi (R.n 4) (by decide +kernel) (am_cons (em_oix (ow_Book_getitem R) ck_S hr (by decide) tk (em_v 0) (em_v 4)) (am_cons (em_ty (R.n 3) (by decide +kernel)) (am_nil)))))) (wm_or1 (tm_cmp (op_neA hu) ok_ne (em_oix (ow_Book_getitem R) ck_S hr (by decide) tk (em_v 0) (em_v 4)) (em_ix hu1 (em_v 1) (em_v 4) (fun _ _ => rfl)) (by rfl))))) (ssm_one (sm_ret (em_bl))) (ssm_nil)))) (ssm_one (sm_ret (em_bl))))
abbrev nn_law : List Str := ["_law_script", "_law_tables", "_law_k", "_law_draws", "_law_names", "_law_cell_here", "_law_rules", "_law_part", "_law_many", "_law_books", "_law_one", "_law_before", "_law_due", "_law_rule", "_law_kept", "_law_turn"]
theorem sc_law : FnScope ["_law_script", "_law_tables", "_law_k", "_law_draws", "_law_names", "_law_cell_here", "_law_rules", "_law_part", "_law_many", "_law_books", "_law_one", "_law_before", "_law_due", "_law_rule", "_law_kept", "_law_turn"] ["_law_script"] (defScope (tp 55)) := ⟨rfl, rfl, rfl, by decide +kernel, rfl, by decide +kernel, by decide +kernel⟩
theorem g_law (R : Rw rd w K mg) : ∃ fd : FuncData, (∀ (s : Shared) (u : Value), BindsTo s fd ⟨[u], []⟩ [("_law_script", u)]) ∧ ∀ base : Heap, FnOk PySem.Challenge.pw_stamprules_k08_meet_of_two_books w K mg base (L2.CX PySem.Challenge.pw_stamprules_k08_meet_of_two_books w) 8 (He.ga K "law") fd ["_law_script"] (SpF ⟨K, mg, w, none⟩ m_law 1) := by
  obtain ⟨fd, F⟩ := R.d 16 (d := dd_law) rfl
  refine ⟨fd, fun s u => FunD.bindsA (ps := ["_law_script"]) F (fun _ _ _ _ _ _ us hl => match us, hl with | [_], _ => rfl) s [u] rfl, fun base => fn_ok (N := ["_law_script", "_law_tables", "_law_k", "_law_draws", "_law_names", "_law_cell_here", "_law_rules", "_law_part", "_law_many", "_law_books", "_law_one", "_law_before", "_law_due", "_law_rule", "_law_kept", "_law_turn"]) (ps := ["_law_script"]) (b := b_law) F sc_law fun cdv A outer s H E hr => ?_⟩
  have S := sc_law
  have hu := hr.units
  have hu1 := hu_of hr
  have tk := tk_of PySem.Challenge.pw_stamprules_k08_meet_of_two_books w K mg base ["_law_script", "_law_tables", "_law_k", "_law_draws", "_law_names", "_law_cell_here", "_law_rules", "_law_part", "_law_many", "_law_books", "_law_one", "_law_before", "_law_due", "_law_rule", "_law_kept", "_law_turn"] "law" (defScope (tp 55)) (He.fAd K dd_law.at_) cdv A outer s H E
  have hp := hp_of PySem.Challenge.pw_stamprules_k08_meet_of_two_books w K mg base ["_law_script", "_law_tables", "_law_k", "_law_draws", "_law_names", "_law_cell_here", "_law_rules", "_law_part", "_law_many", "_law_books", "_law_one", "_law_before", "_law_due", "_law_rule", "_law_kept", "_law_turn"] "law" (defScope (tp 55)) (He.fAd K dd_law.at_) cdv A outer s H E
  exact ssm_cons (sm_set S.nd rfl (by first | exact Or.inl rfl | exact Or.inr rfl) (em_lcC rfl S.nd (own := [("_law_k", 2)]) ⟨im_range1 (R.n 0) (am_cons (em_int) (am_nil)), blkOk_by (N := nn_law) (sc := defScope (tp 55)) (by decide +kernel), fun _ _ _ _ _ => pg_name (i := 2) S.nd rfl (Or.inl rfl), fun _ _ _ _ _ => tsm_nil, fun _ _ _ _ _ => em_cA (g__law_table R) hr (by decide) tk0 (am_cons (em_cG (g__law_cell R) hr (by decide) tk0 (am_cons (em_v 0) (am_cons (em_v 2) (am_nil)))) (am_nil))⟩)) (ssm_cons (sm_set S.nd rfl (by first | exact Or.inl rfl | exact Or.inr rfl) (em_cG (g__law_row R) hr (by decide) tk (am_cons (em_cG (g__law_cell R) hr (by decide) tk (am_cons (em_v 0) (am_cons (em_int) (am_nil)))) (am_cons (em_int) (am_cons (em_int) (am_nil)))))) (ssm_cons (sm_set S.nd rfl (by first | exact Or.inl rfl | exact Or.inr rfl) (em_cG0 (g__law_entries R) hr (by decide) tk)) (ssm_cons (sm_for hp rfl (im_range1 (R.n 0) (am_cons (em_int) (am_nil))) (gm_name S.nd rfl (by first | exact Or.inl rfl | exact Or.inr rfl)) (ssm_one (sm_if (tm_cmp (op_eqA hu) ok_eq (em_ix hu1 (em_v 3) (em_v 2) (fun _ _ => rfl)) (em_int) (by rfl)) (ssm_one (sm_asg (em_ix hu1 (em_ix hu1 (em_v 1) (em_int) (fun _ _ => rfl)) (em_ix hu1 (em_v 4) (em_v 2) (fun _ _ => rfl)) (fun _ _ => rfl)) (gm_sub hu1 (em_ix hu1 (em_v 1) (em_int) (fun _ _ => rfl)) (em_ix hu1 (em_v 4) (em_v 2) (fun _ _ => rfl))))) (ssm_nil)))) (ssm_cons (sm_set S.nd rfl (by first | exact Or.inl rfl | exact Or.inr rfl) (em_cG (g__law_cell R) hr (by decide) tk (am_cons (em_v 0) (am_cons (em_int) (am_nil))))) (ssm_cons (sm_set S.nd rfl (by first | exact Or.inl rfl | exact Or.inr rfl) (em_lc rfl S.nd (own := [("_law_part", 7)]) ⟨im_any (em_lstF (am_cons (em_int) (am_cons (em_int) (am_cons (em_int) (am_nil))))), blkOk_by (N := nn_law) (sc := defScope (tp 55)) (by decide +kernel), fun _ _ _ _ _ => pg_name (i := 7) S.nd rfl (Or.inl rfl), fun _ _ _ _ _ => tsm_nil, fun _ _ _ _ _ => em_ix hu1 (em_lstF (am_cons (em_str) (am_cons (em_str) (am_nil)))) (em_op op_mod ok_mod (em_ct call_intA ok_intF (R.n 1) (by decide +kernel) (am_cons (em_op op_fdiv ok_div (em_v 5) (em_v 7)) (am_nil))) (em_int)) (fun _ _ => rfl)⟩)) (ssm_cons (sm_set S.nd rfl (by first | exact Or.inl rfl | exact Or.inr rfl) (em_lc rfl S.nd (own := [("_law_k", 2)]) ⟨im_range1 (R.n 0) (am_cons (em_int) (am_nil)), blkOk_by (N := nn_law) (sc := defScope (tp 55)) (by decide +kernel), fun _ _ _ _ _ => pg_name (i := 2) S.nd rfl (Or.inl rfl), fun _ _ _ _ _ => tsm_nil, fun _ _ _ _ _ => em_op op_addA ok_add (em_int) (em_op op_mod ok_mod (em_ct call_intA ok_intF (R.n 1) (by decide +kernel) (am_cons (em_cG (g__law_cell R) hr (by decide) tk0 (am_cons (em_v 0) (am_cons (em_op op_addA ok_add (em_int) (em_v 2)) (am_nil)))) (am_nil))) (em_int))⟩)) (ssm_cons (sm_setLc rfl S.nd rfl rfl (sw_true rfl rfl rfl (by decide +kernel)) (own := [("_law_k", 2)]) ⟨im_range1 (R.n 0) (am_cons (em_int) (am_nil)), blkOk_by (N := nn_law) (sc := defScope (tp 55)) (by decide +kernel), fun _ _ _ _ _ => pg_name (i := 2) S.nd rfl (Or.inl rfl), fun _ _ _ _ _ => tsm_nil, fun _ _ _ _ _ => em_mk (mk_Book_init_0 R) mk_S hr (by decide) tk0 (am_cons (em_ix hu1 (em_v 1) (em_v 2) (fun _ _ => rfl)) (am_nil)) (km_cons (em_ix hu1 (em_v 6) (em_v 2) (fun _ _ => rfl)) (km_cons (em_ix hu1 (em_v 8) (em_v 2) (fun _ _ => rfl)) (km_nil)))⟩) (ssm_cons (sm_set S.nd rfl (by first | exact Or.inl rfl | exact Or.inr rfl) (em_ix hu1 (em_v 9) (em_int) (fun _ _ => rfl))) (ssm_cons (sm_set S.nd rfl (by first | exact Or.inl rfl | exact Or.inr rfl) (em_me0 (mt_Book_copy_0 R) ck_S hr (by decide) tk (em_v 10) (km_nil))) (ssm_cons (sm_iand (i := 10) (ow_Book_iand R) hr (by decide) (R.sqB 0) (R.g 7) rfl S.nd rfl (by first | exact Or.inl rfl | exact Or.inr rfl) (em_ix hu1 (em_v 9) (em_int) (fun _ _ => rfl))) (ssm_cons (sm_set S.nd rfl (by first | exact Or.inl rfl | exact Or.inr rfl) (em_cS (g__law_meet R) hr (by decide) tk (am_cons (em_ix hu1 (em_v 1) (em_int) (fun _ _ => rfl)) (am_cons (em_ix hu1 (em_v 1) (em_int) (fun _ _ => rfl)) (am_nil))))) (ssm_cons (sm_set S.nd rfl (by first | exact Or.inl rfl | exact Or.inr rfl) (em_str)) (ssm_cons (sm_if (tm_cmp (op_inA hu1) ok_in (em_str) (em_slice s_sl (em_v 6) (om_none) (om_some (em_int))) (by rfl)) (ssm_one (sm_set S.nd rfl (by first | exact Or.inl rfl | exact Or.inr rfl) (em_str))) (ssm_nil)) (ssm_cons (sm_set S.nd rfl (by first | exact Or.inl rfl | exact Or.inr rfl) (em_cb (call_min2 rfl) ok_min2 (R.n 7) (by decide +kernel) (am_cons (em_ct call_intA ok_intF (R.n 1) (by decide +kernel) (am_cons (em_ix hu1 (em_v 8) (em_int) (fun _ _ => rfl)) (am_nil))) (am_cons (em_ct call_intA ok_intF (R.n 1) (by decide +kernel) (am_cons (em_ix hu1 (em_v 8) (em_int) (fun _ _ => rfl)) (am_nil))) (am_nil))))) (ssm_cons (sm_for hp rfl (im_range1 (R.n 0) (am_cons (em_int) (am_nil))) (gm_name S.nd rfl (by first | exact Or.inl rfl | exact Or.inr rfl)) (ssm_cons (sm_if (tm_w (wm_or (tm_not (tm_tru (em_cS (g__law_shows R) hr (by decide) tk (am_cons (em_v 10) (am_cons (em_v 12) (am_cons (em_v 13) (am_cons (em_v 14) (am_nil)))))))) (wm_or1 (tm_not (tm_tru (em_cS (g__law_shows R) hr (by decide) tk (am_cons (em_ix hu1 (em_v 9) (em_int) (fun _ _ => rfl)) (am_cons (em_v 12) (am_cons (em_v 13) (am_cons (em_v 14) (am_nil))))))))))) (ssm_one (sm_ret (em_bl))) (ssm_nil)) (ssm_cons (sm_if (tm_not (tm_tru (em_cS (g__law_shows R) hr (by decide) tk (am_cons (em_ix hu1 (em_v 9) (em_int) (fun _ _ => rfl)) (am_cons (em_ix hu1 (em_v 1) (em_int) (fun _ _ => rfl)) (am_cons (em_ix hu1 (em_v 6) (em_int) (fun _ _ => rfl)) (am_cons (em_ix hu1 (em_v 8) (em_int) (fun _ _ => rfl)) (am_nil)))))))) (ssm_one (sm_ret (em_bl))) (ssm_nil)) (ssm_cons (sm_if (tm_not (tm_tru (em_cS (g__law_shows R) hr (by decide) tk (am_cons (em_v 11) (am_cons (em_ix hu1 (em_v 1) (em_int) (fun _ _ => rfl)) (am_cons (em_ix hu1 (em_v 6) (em_int) (fun _ _ => rfl)) (am_cons (em_ix hu1 (em_v 8) (em_int) (fun _ _ => rfl)) (am_nil)))))))) (ssm_one (sm_ret (em_bl))) (ssm_nil)) (ssm_one (sm_iand (i := 10) (ow_Book_iand R) hr (by decide) (R.sqB 0) (R.g 7) rfl S.nd rfl (by first | exact Or.inl rfl | exact Or.inr rfl) (em_ix hu1 (em_v 9) (em_int) (fun _ _ => rfl)))))))) (ssm_cons (sm_iand (i := 10) (ow_Book_iand R) hr (by decide) (R.sqB 0) (R.g 7) rfl S.nd rfl (by first | exact Or.inl rfl | exact Or.inr rfl) (em_ix hu1 (em_v 9) (em_int) (fun _ _ => rfl))) (ssm_cons (sm_set S.nd rfl (by first | exact Or.inl rfl | exact Or.inr rfl) (em_cS (g__law_meet R) hr (by decide) tk (am_cons (em_v 12) (am_cons (em_ix hu1 (em_v 1) (em_int) (fun _ _ => rfl)) (am_nil))))) (ssm_cons (sm_if (tm_cmp (op_eqA hu) ok_eq (em_ix hu1 (em_v 6) (em_int) (fun _ _ => rfl)) (em_str) (by rfl)) (ssm_one (sm_set S.nd rfl (by first | exact Or.inl rfl | exact Or.inr rfl) (em_str))) (ssm_nil)) (ssm_one (sm_ret (em_cS (g__law_shows R) hr (by decide) tk (am_cons (em_ix hu1 (em_v 9) (em_int) (fun _ _ => rfl)) (am_cons (em_v 12) (am_cons (em_v 13) (am_cons (em_cb (call_min2 rfl) ok_min2 (R.n 7) (by decide +kernel) (am_cons (em_ct call_intA ok_intF (R.n 1) (by decide +kernel) (am_cons (em_v 14) (am_nil))) (am_cons (em_ct call_intA ok_intF (R.n 1) (by decide +kernel) (am_cons (em_ix hu1 (em_v 8) (em_int) (fun _ _ => rfl)) (am_nil))) (am_nil)))) (am_nil))))))))))))))))))))))))))
end
end Mi

set_option maxHeartbeats 0
namespace Mi
open PySem PySem.Spec PyProof.Rows L2
abbrev hR : PySem.W.OpenRow := PySem.W.OpenLaw.row PySem.Challenge.rw_stamprules_k08_meet_of_two_books
def hnames : List Str := (["StampError", "BadEntry", "BadAnswer", "BadSetting", "BadStep", "GREATEST", "is_integer", "place", "SIGNS", "DIGITS", "FIXED_READS", "KINDS", "NEW_ITEM", "is_item", "is_step", "check_run", "start", "older_version", "fallen_with", "dropped", "bound", "read_step", "write_entry", "write_step", "commit_step", "step_on", "lets_by", "is_stamp_word", "steps_of", "MOST_KEPT"] : List Str) ++ (["PARTINGS", "depth_run", "deep_runs", "parted", "ENTRIES", "READ_ANSWERS", "LEVELS", "answers_at", "check_answer", "stricter", "Book", "_law_cell", "_law_row", "_law_entries", "_law_choices", "_law_table", "_law_level", "_law_meet", "_law_shows"] : List Str)
theorem hrun (w : World) : HandSHeadRun.RunEq hR (PySem.W.view hR.prog [55]) (rd.hook 5) (rd.ob 5) 8000 hnames w := by
  refine PySem.W.byRow2 "special-get-raises" (P := fun w => HandSHeadRun.RunEq hR (PySem.W.view hR.prog [55]) (rd.hook 5) (rd.ob 5) 8000 hnames w) ?_ ?_ w
  · intro w os
    kernel_rfl
  · intro w os
    kernel_rfl
end Mi

set_option maxHeartbeats 4000000
namespace Mi
open PySem PySem.Spec PyProof.Rows L2
theorem levelS (a : An) (G : Gp) : m_law_level [anD a] G = .ok (.int (lvl a)) G := by
  cases a <;> kernel_rfl
/-! ### the law's meet -/
theorem an_ne (a b : An) (G : Gp) : dNe (anD a) (anD b) G = .ok (.bl (!decide (a = b))) G := by
  have : dNe (anD a) (anD b) G = .ok (.bl (!decide (a.str = b.str))) G := by simp [dNe, dEqB, dScal]
  rw [this]
  cases a <;> cases b <;> kernel_rfl
theorem forL_idx {α : Type} {g : Gx} {b : Sx} (f : α → Mi.D) (L : List α) (E : Nat → Ev) (P : Nat → Gp) (hs : ∀ j x, L[j]? = some x → ∃ e1 G1, g (f x) (E j) (P j) = .ok e1 G1 ∧ b e1 G1 = .nx (E (j + 1)) (P (j + 1))) :
    ∀ (l : List α) (j : Nat), L.drop j = l → forL g b (l.map f) (E j) (P j) = .nx (E (j + l.length)) (P (j + l.length))
  | [], j, _ => rfl
  | x :: l, j, h => by
    have hx : L[j]? = some x := by
      have := congrArg List.head? h
      rwa [List.head?_drop] at this
    have ht : L.drop (j + 1) = l := by
      have := congrArg List.tail h
      rwa [List.tail_drop] at this
    obtain ⟨e1, G1, h1, h2⟩ := hs j x hx
    rw [List.map_cons, forL_cons, h1]
    simp only [h2]
    have := forL_idx f L E P hs l (j + 1) ht
    rw [this, List.length_cons]
    have e : j + 1 + l.length = j + (l.length + 1) := by omega
    rw [e]
theorem tabN_put2 (r : En → An) (y : An) {j : Nat} (hj : j < 14) {e : En} (he : ens[j]? = some e) : putD (tabN r (j + 1)) (.inr e.str) (anD y) = tabN (upd1 r e y) (j + 1) := by
  match j, hj with
  | 0, _ | 1, _ | 2, _ | 3, _ | 4, _ | 5, _ | 6, _ | 7, _ | 8, _ | 9, _ | 10, _ | 11, _ | 12, _ | 13, _ => cases he; kernel_rfl
  | j + 14, h => exact absurd h (by omega)
theorem tabN_old (r : En → An) (y : An) {j : Nat} (hj : j < 14) {e : En} (he : ens[j]? = some e) : tabN (upd1 r e y) j = tabN r j := by
  match j, hj with
  | 0, _ | 1, _ | 2, _ | 3, _ | 4, _ | 5, _ | 6, _ | 7, _ | 8, _ | 9, _ | 10, _ | 11, _ | 12, _ | 13, _ => cases he; kernel_rfl
  | j + 14, h => exact absurd h (by omega)
theorem upd1_at (r : En → An) (e : En) (y : An) : upd1 r e y e = y := if_pos rfl
theorem upd1_back (r : En → An) (e : En) : upd1 r e (r e) = r := by
  funext x
  unfold upd1
  split
  · rename_i h; rw [h]
  · rfl
theorem upd1_two (r : En → An) (e : En) (y z : An) : upd1 (upd1 r e y) e z = upd1 r e z := by
  funext x
  unfold upd1
  split <;> rfl
/-- the heap in the law's meet -/
def meG (G : Gp) (n : Nat) (t r : En → An) (j : Nat) : Gp := (G.set n (.lck (tabK t))) ++ [.dct (tabN r j)]
theorem meG_set (G : Gp) (n : Nat) (t r s : En → An) (i j : Nat) : (meG G n t r i).set G.length (.dct (tabN s j)) = meG G n t s j := by
  unfold meG
  rw [List.set_append_right _ _ (by simp)]
  simp
theorem meet_step {G : Gp} {n m : Nat} {t u : En → An} (h : tbAt G n t) (h' : tbAt G m u) (hnm : n ≠ m) (j : Nat) (hj : j < 14) (e : En) (he : ens[j]? = some e) :
    l_law_meet_1 [some (.cel n), some (.cel m), some (.cel G.length), some (enD e)] (meG G n t (meetT t u) j) = .nx [some (.cel n), some (.cel m), some (.cel G.length), some (enD e)] (meG G n t (meetT t u) (j + 1)) := by
  have ln : n < G.length := (List.getElem?_eq_some_iff.mp h).1
  have lm : m < G.length := (List.getElem?_eq_some_iff.mp h').1
  have c1 : ∀ r i, (meG G n t r i)[n]? = some (.lck (tabK t)) := fun r i => by
    unfold meG
    rw [List.getElem?_append_left (by simpa using ln), List.getElem?_set_self ln]
  have c2 : ∀ r i, (meG G n t r i)[m]? = some (.dct (tabK u)) := fun r i => by
    unfold meG
    rw [List.getElem?_append_left (by simpa using lm), List.getElem?_set_ne hnm]
    exact h'
  have c3 : ∀ r i, (meG G n t r i)[G.length]? = some (.dct (tabN r i)) := fun r i => by
    unfold meG
    rw [List.getElem?_append_right (by simp)]
    simp
  have d1 : ∀ r i, dIx (.cel n) (enD e) (meG G n t r i) = .ok (anD (t e)) (meG G n t r i) := fun r i => by simp [dIx, seqOf, lstOf, dctOf, c1, tab_get]
  have d2 : ∀ r i, dIx (.cel m) (enD e) (meG G n t r i) = .ok (anD (u e)) (meG G n t r i) := fun r i => by simp [dIx, seqOf, lstOf, dctOf, c2, tab_get]
  have hz : ∀ r i, (tabN r i).length < sizeLine := fun r i => size_lt (by
    have : (tabN r i).length ≤ 14 := by
      unfold tabN
      rw [List.length_map, List.length_take]
      have : ens.length = 14 := rfl
      omega
    omega)
  -- the first store
  have p1 : putD (tabN (meetT t u) j) (.inr e.str) (anD (t e)) = tabN (upd1 (meetT t u) e (t e)) (j + 1) := by
    rw [← tabN_old (meetT t u) (t e) hj he]
    have := tabN_put (upd1 (meetT t u) e (t e)) hj he
    rw [upd1_at] at this
    exact this
  have p2 : ∀ y, putD (tabN (upd1 (meetT t u) e (t e)) (j + 1)) (.inr e.str) (anD y) = tabN (upd1 (meetT t u) e y) (j + 1) := fun y => by
    rw [tabN_put2 _ _ hj he, upd1_two]
  have f1 : fSub (.cel G.length) (enD e) (anD (t e)) (meG G n t (meetT t u) j) = some (meG G n t (upd1 (meetT t u) e (t e)) (j + 1)) := by
    simp only [fSub, c3, keyOf_str, hz, if_true, p1, meG_set]
  have f2 : ∀ y, fSub (.cel G.length) (enD e) (anD y) (meG G n t (upd1 (meetT t u) e (t e)) (j + 1)) = some (meG G n t (upd1 (meetT t u) e y) (j + 1)) := fun y => by
    simp only [fSub, c3, keyOf_str, hz, if_true, p2, meG_set]
  have l1 := fun G => levelS (t e) G
  have l2 := fun G => levelS (u e) G
  have hq : ∀ (a b : Nat) (G : Gp), dEq (.int a) (.int b) G = .ok (.bl (decide (a = b))) G := fun a b G => by
    simp only [dEq, dEqB, dScal]
    by_cases h : a = b
    · subst h; simp
    · have h2 : ¬ (a : Int) = b := by omega
      simp only [h, h2, decide_false]
  have hlt : ∀ (a b : Nat) (G : Gp), dLt (.int a) (.int b) G = .ok (.bl (decide (a < b))) G := fun a b G => by
    by_cases h : a < b
    · have h2 : (a : Int) < b := by omega
      simp [h]
    · have h2 : ¬ (a : Int) < b := by omega
      simp [h]
  have fin : ∀ y, meetT t u e = y → upd1 (meetT t u) e y = meetT t u := fun y h => by rw [← h, upd1_back]
  have ne := an_ne (t e) (u e)
  by_cases a1 : t e = u e
  · have f : meetT t u e = t e := by unfold meetT strict; rw [if_pos a1]
    have hh : ¬ lvl (u e) < lvl (t e) := by rw [a1]; omega
    have ne1 : ∀ G, dNe (anD (t e)) (anD (u e)) G = .ok (.bl false) G := fun G => by rw [ne]; simp [a1]
    have ne2 : ∀ G, dLt (.int (lvl (u e))) (.int (lvl (t e))) G = .ok (.bl false) G := fun G => by rw [hlt]; simp [hh]
    simp only [l_law_meet_1, x_mSeq, x_mAsg, x_gSubM, x_m2, x_mIfS, x_mAnd, x_mB, x_mCallS, x_mCons, x_mNil, mV, List.getElem?_cons_zero, List.getElem?_cons_succ, Out.bind_ok, d1, Out.toS_ok, f1, d2, ne1]
    simp [l1, l2, ne2, d1, d2, mV]
    rw [fin _ f]
  · by_cases a2 : lvl (t e) = lvl (u e)
    · have f : meetT t u e = .abort := by unfold meetT strict; rw [if_neg a1, if_pos a2]
      have f2' := f2 .abort
      simp [l_law_meet_1, mV, d1, d2, f1, ne, a1, l1, l2, hq, a2]
      have f3 : fSub (.cel G.length) (enD e) (.str "abort") (meG G n t (upd1 (meetT t u) e (t e)) (j + 1)) = _ := f2'
      rw [f3, fin _ f]
    · by_cases a3 : lvl (u e) < lvl (t e)
      · have f : meetT t u e = u e := by unfold meetT strict; rw [if_neg a1, if_neg a2, if_neg (by omega)]
        simp [l_law_meet_1, mV, d1, d2, f1, ne, a1, l1, l2, hq, a2, hlt, a3, f2]
        rw [fin _ f]
      · have f : meetT t u e = t e := by unfold meetT strict; rw [if_neg a1, if_neg a2, if_pos (by omega)]
        simp [l_law_meet_1, mV, d1, d2, f1, ne, a1, l1, l2, hq, a2, hlt, a3]
        rw [fin _ f]
theorem meetS {G : Gp} {n m : Nat} {t u : En → An} (h : tbAt G n t) (h' : tbAt G m u) (hnm : n ≠ m) : m_law_meet [.cel n, .cel m] G = .ok (.cel G.length) (G ++ [.dct (tabK (meetT t u))]) := by
  have ln : n < G.length := (List.getElem?_eq_some_iff.mp h).1
  have lp := forL_idx (g := gN 3) (b := l_law_meet_1) enD ens (fun j => [some (.cel n), some (.cel m), some (.cel G.length), if j = 0 then none else (ens[j - 1]?).map enD]) (fun j => meG G n t (meetT t u) j) (fun j e he => by
    have hj : j < 14 := (List.getElem?_eq_some_iff.mp he).1
    refine ⟨_, _, rfl, (meet_step h h' hnm j hj e he).trans ?_⟩
    simp [he]) ens 0 rfl
  have hk : ((tabK t).map fun p => kD p.1) = ens.map enD := rfl
  have h0 : (G ++ [Ob.dct []])[n]? = some (.dct (tabK t)) := by rw [List.getElem?_append_left ln]; exact h
  have h1 : (G ++ [Ob.dct []]).set n (.lck (tabK t)) = meG G n t (meetT t u) 0 := by
    unfold meG
    rw [List.set_append_left _ _ ln]
    rfl
  have h2 : (meG G n t (meetT t u) 14)[n]? = some (.lck (tabK t)) := by
    unfold meG
    rw [List.getElem?_append_left (by simpa using ln), List.getElem?_set_self ln]
  have h3 : (meG G n t (meetT t u) 14).set n (.dct (tabK t)) = G ++ [.dct (tabK (meetT t u))] := by
    unfold meG
    rw [List.set_append_left _ _ (by simpa using ln), List.set_set, tb_back h, tabN_all]
  have lp2 : forL (gN 3) l_law_meet_1 (ens.map enD) [some (.cel n), some (.cel m), some (.cel G.length), none] (meG G n t (meetT t u) 0) = .nx [some (.cel n), some (.cel m), some (.cel G.length), some (enD .wap)] (meG G n t (meetT t u) 14) := lp
  have e1 : mForK 0 (gN 3) l_law_meet_1 [some (.cel n), some (.cel m), some (.cel G.length), none] (G ++ [.dct []]) = unlk n (tabK t) (forL (gN 3) l_law_meet_1 (ens.map enD) [some (.cel n), some (.cel m), some (.cel G.length), none] (meG G n t (meetT t u) 0)) := by
    simp only [x_mForK, List.getElem?_cons_zero, h0, hk, h1]
  simp [m_law_meet, fnM_ap, b_law_meet, t_law_meet_1, t_law_meet_2]
  rw [e1, lp2]
  simp [unlk, h2, h3, mV]
/-! ### what is shown -/
theorem showsS {G : Gp} {n m : Nat} {ends : Str} {keep : Int} {t : En → An} (h : bkAt G n ends keep t) (h' : tbAt G m t) : m_law_shows [.cel n, .cel m, .str ends, .int keep] G = .ok (.bl true) G := by
  have st : ∀ (e : En) v, l_law_shows_1 [some (.cel n), some (.cel m), some (.str ends), some (.int keep), some (enD e)] G = .nx [some (.cel n), some (.cel m), some (.str ends), some (.int keep), v] G ∨ True := fun _ _ => .inr trivial
  obtain ⟨e2, lp, w, rfl⟩ := forL_keep (g := gN 4) (b := l_law_shows_1) (G := G) (xs := ens.map enD) (env := [some (.cel n), some (.cel m), some (.str ends), some (.int keep), none]) (fun e => ∃ w, e = [some (.cel n), some (.cel m), some (.str ends), some (.int keep), w]) (fun d hd e he => by
    obtain ⟨x, _, rfl⟩ := List.mem_map.mp hd
    obtain ⟨w, rfl⟩ := he
    refine ⟨_, rfl, _, ?_, some (enD x), rfl⟩
    have a1 := askS h x
    have a2 := tb_ix h' x
    have a3 := isi_str (t x).str
    have a4 := str_ne (t x).str
    simp [l_law_shows_1, mV, a1, a2, a3, a4]) ⟨_, rfl⟩
  have p1 := endsS h
  have p2 := keepS h
  have b1 := bk_ins h
  have q1 := str_ne ends
  have q2 := int_ne keep
  have q3 := isi_ib keep
  simp [m_law_shows, fnM_ap, b_law_shows, t_law_shows_1, t_law_shows_2, mV, b1, p1, p2, q1, q2, q3, entL]
  rw [lp]
/-! ### books made on the cells -/
theorem bookS {G : Gp} {n : Nat} {t : En → An} (h : tbAt G n t) (ht : okT t) (ends : Str) (he : ends = "now" ∨ ends = "after") (keep : Int) (hk : 1 ≤ keep ∧ keep ≤ 20) : makeS "Book" m_Book_init 4 [.cel n, .str ends, .int keep] G = .ok (.cel G.length) (bkG G ends keep t) := by
  have hi := initL G (A := .cel n) (tabS t) (.inr ⟨n, rfl, by rw [tabS_dk]; exact h⟩) (tabS_nd t) ends he keep hk
  rw [show firstW (tabS t) = none from first_ok ht ens] at hi
  have e : upTs tabA (tabS t) = t := by
    funext x
    rw [tabS, ups_ok ht, if_pos (mem_ens x)]
  rw [e] at hi
  have hi' : m_Book_init [.cel G.length, .cel n, .str ends, .int keep] (G ++ [.ins "Book" []]) = .ok .non (bkG G ends keep t) := hi
  unfold makeS
  rw [if_pos (by rfl), hi']
theorem copyS {G : Gp} {n : Nat} {t : En → An} {ends : Str} {keep : Int} (h : bkAt G n ends keep t) (ht : okT t) (he : ends = "now" ∨ ends = "after") (hk : 1 ≤ keep ∧ keep ≤ 20) : m_Book_copy [.cel n] G = .ok (.cel G.length) (bkG G ends keep t) := by
  have hb := bookS (G := G) (n := n + 1) h.2 ht ends he keep hk
  simp [m_Book_copy, fnM_ap, b_Book_copy, mV, bk_ins h, List.lookup_cons, hb]
theorem bk_new (G : Gp) (ends : Str) (keep : Int) (t : En → An) : bkAt (bkG G ends keep t) G.length ends keep t := ⟨bk_0 G ends keep t, bk_1 G ends keep t⟩
theorem bk_keep {G : Gp} {n : Nat} {e1 : Str} {k1 : Int} {u : En → An} (h : bkAt G n e1 k1 u) (ends : Str) (keep : Int) (t : En → An) : bkAt (bkG G ends keep t) n e1 k1 u := by
  have h1 := (List.getElem?_eq_some_iff.mp h.1).1
  have h2 := (List.getElem?_eq_some_iff.mp h.2).1
  exact ⟨by rw [bk_lt _ _ _ _ h1]; exact h.1, by rw [bk_lt _ _ _ _ h2]; exact h.2⟩
theorem tb_keep {G : Gp} {n : Nat} {u : En → An} (h : tbAt G n u) (ends : Str) (keep : Int) (t : En → An) : tbAt (bkG G ends keep t) n u := by
  have h1 := (List.getElem?_eq_some_iff.mp h).1
  unfold tbAt
  rw [bk_lt _ _ _ _ h1]
  exact h
theorem tb_app {G : Gp} {n : Nat} {u : En → An} (h : tbAt G n u) (o : Ob) : tbAt (G ++ [o]) n u := by
  have h1 := (List.getElem?_eq_some_iff.mp h).1
  unfold tbAt
  rw [List.getElem?_append_left h1]
  exact h
theorem bk_app {G : Gp} {n : Nat} {e1 : Str} {k1 : Int} {u : En → An} (h : bkAt G n e1 k1 u) (o : Ob) : bkAt (G ++ [o]) n e1 k1 u := by
  have h1 := (List.getElem?_eq_some_iff.mp h.1).1
  have h2 := (List.getElem?_eq_some_iff.mp h.2).1
  exact ⟨by rw [List.getElem?_append_left h1]; exact h.1, by rw [List.getElem?_append_left h2]; exact h.2⟩
theorem tb_last (G : Gp) (u : En → An) : tbAt (G ++ [.dct (tabK u)]) G.length u := last_get G _
/-- behind x &= y -/
theorem iand_at {G : Gp} {n : Nat} {e0 : Str} {k0 : Int} {t0 : En → An} (h : bkAt G n e0 k0 t0) (ends : Str) (keep : Int) (t : En → An) : bkAt (iandG G n ends keep t) n ends keep t := by
  have h1 := (List.getElem?_eq_some_iff.mp h.1).1
  have h2 := (List.getElem?_eq_some_iff.mp h.2).1
  unfold iandG
  exact ⟨by rw [List.getElem?_set_ne (by omega), List.getElem?_set_self h1], by rw [List.getElem?_set_self (by simpa using h2)]⟩
theorem iand_bk {G : Gp} {n m : Nat} {e0 : Str} {k0 : Int} {t0 : En → An} (h : bkAt G m e0 k0 t0) (h1 : n ≠ m) (h2 : n ≠ m + 1) (h3 : n + 1 ≠ m) (ends : Str) (keep : Int) (t : En → An) : bkAt (iandG G n ends keep t) m e0 k0 t0 :=
  bk_oth (bk_oth h h1 h2) h3 (by omega)
theorem iand_tb {G : Gp} {n m : Nat} {t0 : En → An} (h : tbAt G m t0) (h1 : n ≠ m) (h3 : n + 1 ≠ m) (ends : Str) (keep : Int) (t : En → An) : tbAt (iandG G n ends keep t) m t0 :=
  tb_oth (tb_oth h h1) h3
theorem iand_len (G : Gp) (n : Nat) (ends : Str) (keep : Int) (t : En → An) : (iandG G n ends keep t).length = G.length := by simp [iandG]
theorem bkG_len (G : Gp) (ends : Str) (keep : Int) (t : En → An) : (bkG G ends keep t).length = G.length + 2 := by simp [bkG]
theorem strict_idem (a b : An) : strict (strict a b) b = strict a b := by cases a <;> cases b <;> decide
theorem meet_idem (t u : En → An) : meetT (meetT t u) u = meetT t u := by funext e; exact strict_idem _ _
theorem ends_idem (a b : Str) : mEnds (mEnds a b) b = mEnds a b := by unfold mEnds; split <;> rfl
theorem keep_idem (a b : Int) : mKeep (mKeep a b) b = mKeep a b := by
  unfold mKeep
  by_cases h : b < a
  · rw [if_pos h, if_neg (by omega)]
  · rw [if_neg h, if_neg h]
/-! ### the law -/
theorem forL_inv {g : Gx} {b : Sx} (I : Ev → Gp → Prop) : ∀ {xs : List Mi.D} {env : Ev} {G : Gp}, (∀ d ∈ xs, ∀ e G, I e G → ∃ e1 G1, g d e G = .ok e1 G1 ∧ ∃ e2 G2, b e1 G1 = .nx e2 G2 ∧ I e2 G2) → I env G → ∃ e' G', forL g b xs env G = .nx e' G' ∧ I e' G'
  | [], env, G, _, h => ⟨env, G, rfl, h⟩
  | d :: xs, env, G, hs, h => by
    obtain ⟨e1, G1, h1, e2, G2, h2, h3⟩ := hs d (List.mem_cons_self ..) env G h
    obtain ⟨e', G', h4, h5⟩ := forL_inv I (fun d hd => hs d (List.mem_cons_of_mem _ hd)) h3
    refine ⟨e', G', ?_, h5⟩
    rw [forL_cons, h1]
    simp only [h2]
    exact h4
abbrev G4 (T0 T1 T2 : En → An) : Gp := [.dct (tabK T0), .dct (tabK T1), .dct (tabK T2), .lst [.cel 0, .cel 1, .cel 2]]
abbrev LE (ns ks : List Int) (v2 v5 v6 v7 v8 v9 v10 v11 v12 v13 v14 v15 : Option Mi.D) : Ev := [some (.scr (ns.map .int)), some (.cel 3), v2, some (.lst (ks.map .int)), some (.lst (ens.map enD)), v5, v6, v7, v8, v9, v10, v11, v12, v13, v14, v15]
theorem tabs_ix (T0 T1 T2 : En → An) (G : Gp) (h : G[3]? = some (.lst [.cel 0, .cel 1, .cel 2])) (j : Nat) (hj : j < 3) : dIx (.cel 3) (.int j) G = .ok (.cel j) G := by
  match j, hj with
  | 0, _ | 1, _ | 2, _ => simp only [dIx, seqOf, lstOf, h]; rfl
theorem draw_step (ns ks : List Int) (hk : ks.length = 14) (T0 T1 T2 : En → An) (h0 : okT T0) (h1 : okT T1) (j : Nat) (hj : j < 14) : ∃ T1', okT T1' ∧
    l_law_1 (LE ns ks (some (.int j)) none none none none none none none none none none none) (G4 T0 T1 T2) = .nx (LE ns ks (some (.int j)) none none none none none none none none none none none) (G4 T0 T1' T2) := by
  obtain ⟨e, he⟩ : ∃ e, ens[j]? = some e := ⟨_, List.getElem?_eq_getElem (by exact hj)⟩
  have i1 := fun G => ix_lst (ens.map enD) j (enD e) (by rw [List.getElem?_map, he]; rfl) G
  have hkj : ks[j]? = some (ks.getD j 0) := by rw [List.getD_eq_getElem?_getD, List.getElem?_eq_getElem (by omega)]; rfl
  have i2 := fun G => ix_lst (ks.map .int) j (.int (ks.getD j 0)) (by rw [List.getElem?_map, hkj]; rfl) G
  generalize hz0 : ks.getD j 0 = z at i2
  have a0 : dIx (.cel 3) (.int 0) (G4 T0 T1 T2) = .ok (.cel 0) (G4 T0 T1 T2) := tabs_ix T0 T1 T2 _ rfl 0 (by omega)
  have a1 : dIx (.cel 3) (.int 1) (G4 T0 T1 T2) = .ok (.cel 1) (G4 T0 T1 T2) := tabs_ix T0 T1 T2 _ rfl 1 (by omega)
  have a2 := tb_ix (G := G4 T0 T1 T2) (n := 0) (t := T0) rfl e
  have hp := tab_put T1 e (T0 e)
  have hz := ens_sz
  by_cases hd : z = 1
  · refine ⟨upd1 T1 e (T0 e), fun x => ?_, ?_⟩
    · unfold upd1
      split
      · rename_i hx; subst hx; exact h0 x
      · exact h1 x
    · simp [l_law_1, mV, i1, i2, hd, dEq, dEqB, dScal, a0, a1, a2, fSub, keyOf_str, hz, hp]
      intro a _
      rfl
  · refine ⟨T1, h1, ?_⟩
    simp only [l_law_1, x_mIfS, x_mB, x_m2, mV, List.getElem?_cons_zero, List.getElem?_cons_succ, Out.bind_ok, i2]
    simp [dEq, dEqB, dScal, hd, mV]
theorem nowafter (z : Int) : ∃ r : Str, (r = "now" ∨ r = "after") ∧ ∀ G, dIx (.lst [.str "now", .str "after"]) (.int (z % 2)) G = .ok (.str r) G := by
  have : z % 2 = 0 ∨ z % 2 = 1 := by omega
  rcases this with h | h
  · exact ⟨"now", .inl rfl, fun G => by rw [h]; exact ix_lst _ 0 _ rfl G⟩
  · exact ⟨"after", .inr rfl, fun G => by rw [h]; exact ix_lst _ 1 _ rfl G⟩
theorem law_ok (ns : List Int) : ∃ G, m_law [.scr (ns.map .int)] [] = .ok (.bl true) G := by
  have hc : ∀ (i : Int) (j : Nat), i = j → ∀ G, callF m_law_cell 2 [.scr (ns.map .int), .int i] G = .ok (.int (cl ns j)) G := fun i j h G => by rw [h]; exact cellL ns j G
  have hc0 := hc 0 0 rfl
  have hc1 := hc 1 1 rfl
  have hc2 := hc 2 2 rfl
  have hc3 := hc 3 3 rfl
  have hc4 := hc 4 4 rfl
  have hc5 := hc 5 5 rfl
  have hc6 := hc 6 6 rfl
  have hc7 := hc 7 7 rfl
  obtain ⟨T0, o0, _, q0⟩ := tableL (cl ns 0)
  obtain ⟨T1a, o1a, _, q1⟩ := tableL (cl ns 1)
  obtain ⟨T2, o2, _, q2⟩ := tableL (cl ns 2)
  obtain ⟨ks, hrow, hks, _⟩ := rowL (cl ns 3) 4 14 (by omega) (by omega) (by omega)
  have hrow' : ∀ G, callF m_law_row 3 [.int (cl ns 3), .int 14, .int 4] G = .ok (.lst (ks.map .int)) G := hrow
  obtain ⟨e', G', hl1, T1, o1, w2, rfl, rfl⟩ := forL_inv (g := gN 2) (b := l_law_1) (xs := rngD 0 14) (env := LE ns ks none none none none none none none none none none none none) (G := G4 T0 T1a T2)
    (fun e G => ∃ T1, okT T1 ∧ ∃ w, e = LE ns ks w none none none none none none none none none none none ∧ G = G4 T0 T1 T2) (fun d hd e G he => by
      obtain ⟨j, rfl, hj⟩ := mem_rng hd
      obtain ⟨t, ot, w, rfl, rfl⟩ := he
      obtain ⟨t', ot', hs⟩ := draw_step ns ks hks T0 t T2 o0 ot j hj
      exact ⟨_, _, rfl, _, _, hs, t', ot', _, rfl, rfl⟩) ⟨T1a, o1a, _, rfl, rfl⟩
  obtain ⟨r0, hr0, x0⟩ := nowafter (cl ns 4)
  obtain ⟨r1, hr1, x1⟩ := nowafter (cl ns 4 / 2)
  obtain ⟨r2, hr2, x2⟩ := nowafter (cl ns 4 / 4)
  have hs : ∀ k : Nat, k ≤ 100 → k < sizeLine := fun k hk => size_lt (by omega)
  have hs' : ∀ k : Nat, k ≤ 100 → k ≤ sizeLine := fun k hk => Nat.le_of_lt (hs k hk)
  have hr3 : rngD 0 3 = [.int 0, .int 1, .int 2] := by simp [rngD, List.range_succ]
  have hm20 : ∀ z G, dMod (.int z) (.int 20) G = .ok (.int (z % 20)) G := fun z G => dMod_pos _ _ (by omega) G
  have hm2 : ∀ z G, dMod (.int z) (.int 2) G = .ok (.int (z % 2)) G := fun z G => dMod_pos _ _ (by omega) G
  have e1 : b_law [some (.scr (ns.map .int)), none, none, none, none, none, none, none, none, none, none, none, none, none, none, none] [] = t_law_3 (LE ns ks none none none none none none none none none none none none) (G4 T0 T1a T2) := by
    simp [b_law, t_law_1, t_law_2, mV, hr3, lcL, Out.nox, hs, hc0, hc1, hc2, hc3, q0, q1, q2, wipeE, hrow', entL]
  have e3 : t_law_3 (LE ns ks none none none none none none none none none none none none) (G4 T0 T1a T2) = t_law_4 (LE ns ks w2 none none none none none none none none none none none) (G4 T0 T1 T2) := by
    simp [t_law_3]
    rw [hl1]
  generalize hk0 : 1 + cl ns 5 % 20 = k0
  generalize hk1 : 1 + cl ns 6 % 20 = k1
  generalize hk2 : 1 + cl ns 7 % 20 = k2
  have b0 : 1 ≤ k0 ∧ k0 ≤ 20 := by omega
  have b1 : 1 ≤ k1 ∧ k1 ≤ 20 := by omega
  have b2 : 1 ≤ k2 ∧ k2 ≤ 20 := by omega
  have e4 : t_law_4 (LE ns ks w2 none none none none none none none none none none none) (G4 T0 T1 T2) = t_law_7 (LE ns ks w2 (some (.int (cl ns 4))) (some (.lst [.str r0, .str r1, .str r2])) none (some (.lst [.int k0, .int k1, .int k2])) none none none none none none none) (G4 T0 T1 T2) := by
    simp [t_law_4, t_law_5, t_law_6, mV, hc4, hc5, hc6, hc7, hr3, lcL, Out.nox, hs, hs', wipeE, hm2, hm20, x0, x1, x2, hk0, hk1, hk2]
  -- the heaps
  have c3 : (G4 T0 T1 T2)[3]? = some (.lst [.cel 0, .cel 1, .cel 2]) := rfl
  have tb0 : tbAt (G4 T0 T1 T2) 0 T0 := rfl
  have tb1 : tbAt (G4 T0 T1 T2) 1 T1 := rfl
  have tb2 : tbAt (G4 T0 T1 T2) 2 T2 := rfl
  have len0 : (G4 T0 T1 T2).length = 4 := rfl
  generalize hA0 : G4 T0 T1 T2 = A0 at e3 e4 c3 tb0 tb1 tb2 len0
  have f0 := bookS tb0 o0 r0 hr0 k0 b0
  rw [len0] at f0
  have g4 := bk_new A0 r0 k0 T0
  rw [len0] at g4
  have c31 : (bkG A0 r0 k0 T0)[3]? = some (.lst [.cel 0, .cel 1, .cel 2]) := by rw [bk_lt _ _ _ _ (by omega)]; exact c3
  replace tb0 := tb_keep tb0 r0 k0 T0
  replace tb1 := tb_keep tb1 r0 k0 T0
  replace tb2 := tb_keep tb2 r0 k0 T0
  have len1 : (bkG A0 r0 k0 T0).length = 6 := by rw [bkG_len, len0]
  generalize hA1 : bkG A0 r0 k0 T0 = A1 at f0 g4 c31 tb0 tb1 tb2 len1
  have f1 := bookS tb1 o1 r1 hr1 k1 b1
  rw [len1] at f1
  have g6 := bk_new A1 r1 k1 T1
  rw [len1] at g6
  have c32 : (bkG A1 r1 k1 T1)[3]? = some (.lst [.cel 0, .cel 1, .cel 2]) := by rw [bk_lt _ _ _ _ (by omega)]; exact c31
  replace tb0 := tb_keep tb0 r1 k1 T1
  replace tb1 := tb_keep tb1 r1 k1 T1
  replace tb2 := tb_keep tb2 r1 k1 T1
  replace g4 := bk_keep g4 r1 k1 T1
  have len2 : (bkG A1 r1 k1 T1).length = 8 := by rw [bkG_len, len1]
  generalize hA2 : bkG A1 r1 k1 T1 = A2 at f1 g4 g6 c32 tb0 tb1 tb2 len2
  have f2 := bookS tb2 o2 r2 hr2 k2 b2
  rw [len2] at f2
  have g8 := bk_new A2 r2 k2 T2
  rw [len2] at g8
  have c33 : (bkG A2 r2 k2 T2)[3]? = some (.lst [.cel 0, .cel 1, .cel 2]) := by rw [bk_lt _ _ _ _ (by omega)]; exact c32
  replace tb0 := tb_keep tb0 r2 k2 T2
  replace tb1 := tb_keep tb1 r2 k2 T2
  replace tb2 := tb_keep tb2 r2 k2 T2
  replace g4 := bk_keep g4 r2 k2 T2
  replace g6 := bk_keep g6 r2 k2 T2
  have len3 : (bkG A2 r2 k2 T2).length = 10 := by rw [bkG_len, len2]
  generalize hA3 : bkG A2 r2 k2 T2 = A3 at f2 g4 g6 g8 c33 tb0 tb1 tb2 len3
  have rule_ix : ∀ (j : Nat) (r : Str), ([.str r0, .str r1, .str r2] : List Mi.D)[j]? = some (.str r) → ∀ G, dIx (.lst [.str r0, .str r1, .str r2]) (.int j) G = .ok (.str r) G := fun j r h G => ix_lst _ j _ h G
  have keep_ix : ∀ (j : Nat) (k : Int), ([.int k0, .int k1, .int k2] : List Mi.D)[j]? = some (.int k) → ∀ G, dIx (.lst [.int k0, .int k1, .int k2]) (.int j) G = .ok (.int k) G := fun j r h G => ix_lst _ j _ h G
  have ru0 := rule_ix 0 r0 rfl
  have ru1 := rule_ix 1 r1 rfl
  have ru2 := rule_ix 2 r2 rfl
  have ke0 := keep_ix 0 k0 rfl
  have ke1 := keep_ix 1 k1 rfl
  have ke2 := keep_ix 2 k2 rfl
  have tx0 := tabs_ix T0 T1 T2 A0 c3 0 (by omega)
  have tx1 := tabs_ix T0 T1 T2 A1 c31 1 (by omega)
  have tx2 := tabs_ix T0 T1 T2 A2 c32 2 (by omega)
  simp only [Int.cast_ofNat_Int, Int.ofNat_eq_natCast, Int.natCast_zero, Int.natCast_one] at ru0 ru1 ru2 ke0 ke1 ke2 tx0 tx1 tx2
  have e7 : t_law_7 (LE ns ks w2 (some (.int (cl ns 4))) (some (.lst [.str r0, .str r1, .str r2])) none (some (.lst [.int k0, .int k1, .int k2])) none none none none none none none) A0 = t_law_8 (LE ns ks w2 (some (.int (cl ns 4))) (some (.lst [.str r0, .str r1, .str r2])) none (some (.lst [.int k0, .int k1, .int k2])) (some (.lst [.cel 4, .cel 6, .cel 8])) none none none none none none) A3 := by
    simp [t_law_7, mV, hr3, lcL, Out.nox, hs, wipeE, tx0, tx1, tx2, ru0, ru1, ru2, ke0, ke1, ke2, f0, f1, f2]
  have bx : ∀ (j : Nat) (d : Mi.D), ([.cel 4, .cel 6, .cel 8] : List Mi.D)[j]? = some d → ∀ G, dIx (.lst [.cel 4, .cel 6, .cel 8]) (.int j) G = .ok d G := fun j r h G => ix_lst _ j _ h G
  have bx0 := bx 0 _ rfl
  have bx1 := bx 1 _ rfl
  have bx2 := bx 2 _ rfl
  simp only [Int.cast_ofNat_Int, Int.ofNat_eq_natCast, Int.natCast_zero, Int.natCast_one] at bx0 bx1 bx2
  -- the copy
  have f3 := copyS g4 o0 hr0 b0
  rw [len3] at f3
  have g10 := bk_new A3 r0 k0 T0
  rw [len3] at g10
  have c34 : (bkG A3 r0 k0 T0)[3]? = some (.lst [.cel 0, .cel 1, .cel 2]) := by rw [bk_lt _ _ _ _ (by omega)]; exact c33
  have i34 := bk_ins g4
  replace tb0 := tb_keep tb0 r0 k0 T0
  replace tb1 := tb_keep tb1 r0 k0 T0
  replace tb2 := tb_keep tb2 r0 k0 T0
  replace g4 := bk_keep g4 r0 k0 T0
  replace g6 := bk_keep g6 r0 k0 T0
  replace g8 := bk_keep g8 r0 k0 T0
  have len4 : (bkG A3 r0 k0 T0).length = 12 := by rw [bkG_len, len3]
  generalize hA4 : bkG A3 r0 k0 T0 = A4 at f3 g4 g6 g8 g10 c34 tb0 tb1 tb2 len4
  have e8 : t_law_8 (LE ns ks w2 (some (.int (cl ns 4))) (some (.lst [.str r0, .str r1, .str r2])) none (some (.lst [.int k0, .int k1, .int k2])) (some (.lst [.cel 4, .cel 6, .cel 8])) none none none none none none) A3 = t_law_10 (LE ns ks w2 (some (.int (cl ns 4))) (some (.lst [.str r0, .str r1, .str r2])) none (some (.lst [.int k0, .int k1, .int k2])) (some (.lst [.cel 4, .cel 6, .cel 8])) (some (.cel 4)) (some (.cel 10)) none none none none) A4 := by
    simp [t_law_8, t_law_9, mV, bx0, i34, List.lookup_cons, f3]
  -- the meet
  have ask : ∀ {G : Gp} {e : Str} {k : Int} {t : En → An}, bkAt G 4 e k t → ∀ m, askD "Book" (callS m_Book_iand 2) (.cel 4) [.cel m] G = m_Book_iand [.cel 4, .cel m] G := fun h m => by
    rw [ask_ins (bk_ins h)]
    simp
  have f5 := iandS g4 g6 (by omega) (by omega) (by omega)
  have a5 := ask g4 6
  have h4 := iand_at g4 (mEnds r0 r1) (mKeep k0 k1) (meetT T0 T1)
  replace g6 := iand_bk g6 (n := 4) (by omega) (by omega) (by omega) (mEnds r0 r1) (mKeep k0 k1) (meetT T0 T1)
  replace g8 := iand_bk g8 (n := 4) (by omega) (by omega) (by omega) (mEnds r0 r1) (mKeep k0 k1) (meetT T0 T1)
  replace g10 := iand_bk g10 (n := 4) (by omega) (by omega) (by omega) (mEnds r0 r1) (mKeep k0 k1) (meetT T0 T1)
  replace tb0 := iand_tb tb0 (n := 4) (by omega) (by omega) (mEnds r0 r1) (mKeep k0 k1) (meetT T0 T1)
  replace tb1 := iand_tb tb1 (n := 4) (by omega) (by omega) (mEnds r0 r1) (mKeep k0 k1) (meetT T0 T1)
  replace tb2 := iand_tb tb2 (n := 4) (by omega) (by omega) (mEnds r0 r1) (mKeep k0 k1) (meetT T0 T1)
  have c35 : (iandG A4 4 (mEnds r0 r1) (mKeep k0 k1) (meetT T0 T1))[3]? = some (.lst [.cel 0, .cel 1, .cel 2]) := by
    unfold iandG
    rw [List.getElem?_set_ne (by omega), List.getElem?_set_ne (by omega)]
    exact c34
  have len5 : (iandG A4 4 (mEnds r0 r1) (mKeep k0 k1) (meetT T0 T1)).length = 12 := by rw [iand_len, len4]
  rw [f5] at a5
  generalize hA5 : iandG A4 4 (mEnds r0 r1) (mKeep k0 k1) (meetT T0 T1) = A5 at a5 h4 g6 g8 g10 tb0 tb1 tb2 c35 len5
  -- the law's meet
  have f6 := meetS tb0 tb1 (by omega)
  rw [len5] at f6
  have td := tb_last A5 (meetT T0 T1)
  rw [len5] at td
  have ty0 := tabs_ix T0 T1 T2 A5 c35 0 (by omega)
  have ty1 := tabs_ix T0 T1 T2 A5 c35 1 (by omega)
  have c36 : (A5 ++ [.dct (tabK (meetT T0 T1))])[3]? = some (.lst [.cel 0, .cel 1, .cel 2]) := by rw [List.getElem?_append_left (by omega)]; exact c35
  replace tb0 := tb_app tb0 (.dct (tabK (meetT T0 T1)))
  replace tb1 := tb_app tb1 (.dct (tabK (meetT T0 T1)))
  replace tb2 := tb_app tb2 (.dct (tabK (meetT T0 T1)))
  replace h4 := bk_app h4 (.dct (tabK (meetT T0 T1)))
  replace g6 := bk_app g6 (.dct (tabK (meetT T0 T1)))
  replace g8 := bk_app g8 (.dct (tabK (meetT T0 T1)))
  replace g10 := bk_app g10 (.dct (tabK (meetT T0 T1)))
  have len6 : (A5 ++ [Ob.dct (tabK (meetT T0 T1))]).length = 13 := by simp [len5]
  generalize hA6 : A5 ++ [Ob.dct (tabK (meetT T0 T1))] = A6 at f6 td c36 tb0 tb1 tb2 h4 g6 g8 g10 len6
  simp only [Int.cast_ofNat_Int, Int.ofNat_eq_natCast, Int.natCast_zero, Int.natCast_one] at ty0 ty1
  have hin : ∀ G, dIn (.str "after") (.lst [.str r0, .str r1]) G = .ok (.bl (decide (mEnds r0 r1 = "after"))) G := fun G => by
    rcases hr0 with rfl | rfl <;> rcases hr1 with rfl | rfl <;> kernel_rfl
  have hsl : ∀ G, fSl (.lst [.str r0, .str r1, .str r2]) none (some 2) G = .ok (.lst [.str r0, .str r1]) G := fun G => rfl
  have hmE : mEnds r0 r1 = "now" ∨ mEnds r0 r1 = "after" := by unfold mEnds; split; exact .inr rfl; exact hr0
  have hmin : (if k1 < k0 then k1 else k0) = mKeep k0 k1 := rfl
  have e10 : t_law_10 (LE ns ks w2 (some (.int (cl ns 4))) (some (.lst [.str r0, .str r1, .str r2])) none (some (.lst [.int k0, .int k1, .int k2])) (some (.lst [.cel 4, .cel 6, .cel 8])) (some (.cel 4)) (some (.cel 10)) none none none none) A4 = t_law_15 (LE ns ks w2 (some (.int (cl ns 4))) (some (.lst [.str r0, .str r1, .str r2])) none (some (.lst [.int k0, .int k1, .int k2])) (some (.lst [.cel 4, .cel 6, .cel 8])) (some (.cel 4)) (some (.cel 10)) (some (.cel 12)) (some (.str (mEnds r0 r1))) (some (.int (mKeep k0 k1))) none) A6 := by
    have s1 : t_law_10 (LE ns ks w2 (some (.int (cl ns 4))) (some (.lst [.str r0, .str r1, .str r2])) none (some (.lst [.int k0, .int k1, .int k2])) (some (.lst [.cel 4, .cel 6, .cel 8])) (some (.cel 4)) (some (.cel 10)) none none none none) A4 = t_law_11 (LE ns ks w2 (some (.int (cl ns 4))) (some (.lst [.str r0, .str r1, .str r2])) none (some (.lst [.int k0, .int k1, .int k2])) (some (.lst [.cel 4, .cel 6, .cel 8])) (some (.cel 4)) (some (.cel 10)) none none none none) A5 := by
      simp [t_law_10, mIand, mV, bx1, a5]
    rw [s1]
    rcases hmE with h | h
    · simp [t_law_11, t_law_12, t_law_13, t_law_14, mV, ty0, ty1, f6, hsl, hin, h, ke0, ke1, dMin2, hmin]
    · simp [t_law_11, t_law_12, t_law_13, t_law_14, mV, ty0, ty1, f6, hsl, hin, h, ke0, ke1, dMin2, hmin]
  -- the turns
  have turn : ∀ (G : Gp) (v : Option Mi.D), (bkAt G 4 (mEnds r0 r1) (mKeep k0 k1) (meetT T0 T1) ∧ bkAt G 6 r1 k1 T1 ∧ bkAt G 8 r2 k2 T2 ∧ bkAt G 10 r0 k0 T0 ∧ tbAt G 0 T0 ∧ tbAt G 1 T1 ∧ tbAt G 2 T2 ∧ tbAt G 12 (meetT T0 T1) ∧ G[3]? = some (.lst [.cel 0, .cel 1, .cel 2]) ∧ G.length = 13) →
      ∃ G', (bkAt G' 4 (mEnds r0 r1) (mKeep k0 k1) (meetT T0 T1) ∧ bkAt G' 6 r1 k1 T1 ∧ bkAt G' 8 r2 k2 T2 ∧ bkAt G' 10 r0 k0 T0 ∧ tbAt G' 0 T0 ∧ tbAt G' 1 T1 ∧ tbAt G' 2 T2 ∧ tbAt G' 12 (meetT T0 T1) ∧ G'[3]? = some (.lst [.cel 0, .cel 1, .cel 2]) ∧ G'.length = 13) ∧
        l_law_2 (LE ns ks w2 (some (.int (cl ns 4))) (some (.lst [.str r0, .str r1, .str r2])) none (some (.lst [.int k0, .int k1, .int k2])) (some (.lst [.cel 4, .cel 6, .cel 8])) (some (.cel 4)) (some (.cel 10)) (some (.cel 12)) (some (.str (mEnds r0 r1))) (some (.int (mKeep k0 k1))) v) G =
          .nx (LE ns ks w2 (some (.int (cl ns 4))) (some (.lst [.str r0, .str r1, .str r2])) none (some (.lst [.int k0, .int k1, .int k2])) (some (.lst [.cel 4, .cel 6, .cel 8])) (some (.cel 4)) (some (.cel 10)) (some (.cel 12)) (some (.str (mEnds r0 r1))) (some (.int (mKeep k0 k1))) v) G' := by
    intro G v ⟨h4, g6, g8, g10, tb0, tb1, tb2, td, c3, len⟩
    have s1 := showsS h4 td
    have s2 := showsS g6 tb1
    have s3 := showsS g10 tb0
    have f := iandS h4 g6 (by omega) (by omega) (by omega)
    rw [ends_idem, keep_idem, meet_idem] at f
    have a := ask h4 6
    rw [f] at a
    have z0 := tabs_ix T0 T1 T2 G c3 0 (by omega)
    have z1 := tabs_ix T0 T1 T2 G c3 1 (by omega)
    simp only [Int.cast_ofNat_Int, Int.ofNat_eq_natCast, Int.natCast_zero, Int.natCast_one] at z0 z1
    refine ⟨iandG G 4 (mEnds r0 r1) (mKeep k0 k1) (meetT T0 T1), ⟨iand_at h4 _ _ _, iand_bk g6 (by omega) (by omega) (by omega) _ _ _, iand_bk g8 (by omega) (by omega) (by omega) _ _ _, iand_bk g10 (by omega) (by omega) (by omega) _ _ _, iand_tb tb0 (by omega) (by omega) _ _ _, iand_tb tb1 (by omega) (by omega) _ _ _, iand_tb tb2 (by omega) (by omega) _ _ _, iand_tb td (by omega) (by omega) _ _ _, ?_, by rw [iand_len, len]⟩, ?_⟩
    · unfold iandG
      rw [List.getElem?_set_ne (by omega), List.getElem?_set_ne (by omega)]
      exact c3
    · simp [l_law_2, mIand, mV, bx0, bx1, s1, s2, s3, z0, z1, ru0, ru1, ke0, ke1, a]
  obtain ⟨e', A8, lp, v15, rfl, h4, g6, g8, g10, tb0, tb1, tb2, td, c3, len⟩ := forL_inv (g := gN 15) (b := l_law_2) (xs := rngD 0 2) (env := LE ns ks w2 (some (.int (cl ns 4))) (some (.lst [.str r0, .str r1, .str r2])) none (some (.lst [.int k0, .int k1, .int k2])) (some (.lst [.cel 4, .cel 6, .cel 8])) (some (.cel 4)) (some (.cel 10)) (some (.cel 12)) (some (.str (mEnds r0 r1))) (some (.int (mKeep k0 k1))) none) (G := A6)
    (fun e G => ∃ v, e = LE ns ks w2 (some (.int (cl ns 4))) (some (.lst [.str r0, .str r1, .str r2])) none (some (.lst [.int k0, .int k1, .int k2])) (some (.lst [.cel 4, .cel 6, .cel 8])) (some (.cel 4)) (some (.cel 10)) (some (.cel 12)) (some (.str (mEnds r0 r1))) (some (.int (mKeep k0 k1))) v ∧
      (bkAt G 4 (mEnds r0 r1) (mKeep k0 k1) (meetT T0 T1) ∧ bkAt G 6 r1 k1 T1 ∧ bkAt G 8 r2 k2 T2 ∧ bkAt G 10 r0 k0 T0 ∧ tbAt G 0 T0 ∧ tbAt G 1 T1 ∧ tbAt G 2 T2 ∧ tbAt G 12 (meetT T0 T1) ∧ G[3]? = some (.lst [.cel 0, .cel 1, .cel 2]) ∧ G.length = 13)) (fun d hd e G he => by
      obtain ⟨j, rfl, hj⟩ := mem_rng hd
      obtain ⟨v, rfl, hG⟩ := he
      obtain ⟨G', h1, h2⟩ := turn G (some (.int j)) hG
      exact ⟨_, _, rfl, _, _, h2, _, rfl, h1⟩) ⟨none, rfl, h4, g6, g8, g10, tb0, tb1, tb2, td, c36, len6⟩
  -- the third book
  have f9 := iandS h4 g8 (by omega) (by omega) (by omega)
  have a9 := ask h4 8
  rw [f9] at a9
  have h9 := iand_at h4 (mEnds (mEnds r0 r1) r2) (mKeep (mKeep k0 k1) k2) (meetT (meetT T0 T1) T2)
  have tb9 := iand_tb tb2 (n := 4) (by omega) (by omega) (mEnds (mEnds r0 r1) r2) (mKeep (mKeep k0 k1) k2) (meetT (meetT T0 T1) T2)
  have td9 := iand_tb td (n := 4) (by omega) (by omega) (mEnds (mEnds r0 r1) r2) (mKeep (mKeep k0 k1) k2) (meetT (meetT T0 T1) T2)
  have c9 : (iandG A8 4 (mEnds (mEnds r0 r1) r2) (mKeep (mKeep k0 k1) k2) (meetT (meetT T0 T1) T2))[3]? = some (.lst [.cel 0, .cel 1, .cel 2]) := by
    unfold iandG
    rw [List.getElem?_set_ne (by omega), List.getElem?_set_ne (by omega)]
    exact c3
  have len9 : (iandG A8 4 (mEnds (mEnds r0 r1) r2) (mKeep (mKeep k0 k1) k2) (meetT (meetT T0 T1) T2)).length = 13 := by rw [iand_len, len]
  generalize hA9 : iandG A8 4 (mEnds (mEnds r0 r1) r2) (mKeep (mKeep k0 k1) k2) (meetT (meetT T0 T1) T2) = A9 at a9 h9 tb9 td9 c9 len9
  have f10 := meetS td9 tb9 (by omega)
  rw [len9] at f10
  have h10 := bk_app h9 (.dct (tabK (meetT (meetT T0 T1) T2)))
  have t10 := tb_last A9 (meetT (meetT T0 T1) T2)
  rw [len9] at t10
  have sh := showsS h10 t10
  have z2 := tabs_ix T0 T1 T2 A9 c9 2 (by omega)
  simp only [Int.cast_ofNat_Int, Int.ofNat_eq_natCast] at z2
  have hmin2 : (if k2 < mKeep k0 k1 then k2 else mKeep k0 k1) = mKeep (mKeep k0 k1) k2 := rfl
  have e15 : ∃ G, t_law_15 (LE ns ks w2 (some (.int (cl ns 4))) (some (.lst [.str r0, .str r1, .str r2])) none (some (.lst [.int k0, .int k1, .int k2])) (some (.lst [.cel 4, .cel 6, .cel 8])) (some (.cel 4)) (some (.cel 10)) (some (.cel 12)) (some (.str (mEnds r0 r1))) (some (.int (mKeep k0 k1))) none) A6 = .rt (.bl true) G := by
    refine ⟨A9 ++ [.dct (tabK (meetT (meetT T0 T1) T2))], ?_⟩
    have s1 : t_law_15 (LE ns ks w2 (some (.int (cl ns 4))) (some (.lst [.str r0, .str r1, .str r2])) none (some (.lst [.int k0, .int k1, .int k2])) (some (.lst [.cel 4, .cel 6, .cel 8])) (some (.cel 4)) (some (.cel 10)) (some (.cel 12)) (some (.str (mEnds r0 r1))) (some (.int (mKeep k0 k1))) none) A6 = t_law_16 (LE ns ks w2 (some (.int (cl ns 4))) (some (.lst [.str r0, .str r1, .str r2])) none (some (.lst [.int k0, .int k1, .int k2])) (some (.lst [.cel 4, .cel 6, .cel 8])) (some (.cel 4)) (some (.cel 10)) (some (.cel 12)) (some (.str (mEnds r0 r1))) (some (.int (mKeep k0 k1))) v15) A8 := by
      simp [t_law_15]
      rw [lp]
    rw [s1]
    by_cases h : r2 = "after"
    · have e1 : mEnds (mEnds r0 r1) r2 = "after" := by unfold mEnds; rw [if_pos h]
      rw [e1] at sh
      subst h
      simp [t_law_16, t_law_17, t_law_18, t_law_19, mIand, mV, bx0, bx2, a9, z2, f10, ru2, ke2, dEq, dEqB, dScal, dMin2, hmin2, sh]
    · have e1 : mEnds (mEnds r0 r1) r2 = mEnds r0 r1 := by unfold mEnds; rw [if_neg h]
      rw [e1] at sh
      simp [t_law_16, t_law_17, t_law_18, t_law_19, mIand, mV, bx0, bx2, a9, z2, f10, ru2, ke2, dEq, dEqB, dScal, h, dMin2, hmin2, sh]
  obtain ⟨G, e15⟩ := e15
  refine ⟨G, fnM_rt (env := [some (.scr (ns.map .int)), none, none, none, none, none, none, none, none, none, none, none, none, none, none, none]) rfl ?_⟩
  rw [e1, e3, e4, e7, e8, e10, e15]
end Mi

set_option maxHeartbeats 0
open PySem PySem.W PySem.Calls PyProof.Rows
theorem PySem.Challenge.cw_stamprules_k08_meet_of_two_books_holds : PySem.Challenge.rw_stamprules_k08_meet_of_two_books.Holds := by
  w_on; o_law
  refine HandSHeadRun.head_any (r := OpenLaw.row PySem.Challenge.rw_stamprules_k08_meet_of_two_books) (q := view (OpenLaw.row PySem.Challenge.rw_stamprules_k08_meet_of_two_books).prog [55]) (H := Mi.rd.hook 5) (ob := Mi.rd.ob 5) (M := 8000) (loose := Mi.hnames) (d := HandSHeadRun.topDef (OpenLaw.row PySem.Challenge.rw_stamprules_k08_meet_of_two_books).prog 55) (kwd := []) (Mi.rd.ob_eq 5)
    (by kernel_rfl) (fun s => by kernel_rfl) Mi.hrun (by kernel_rfl) (by kernel_rfl) (by kernel_rfl) (by rfl) (by first | assumption | decide +kernel) (by decide +kernel) ⟨rfl, rfl, rfl, rfl, rfl, by decide +kernel⟩ ?hw ?hc
  case hw => w_witness2
  case hc =>
    refine L2.walk_ofE (l := PySem.Challenge.rw_stamprules_k08_meet_of_two_books) (n := 63) (k := 8) (x := "_law_script") (CX := Mi.CXw PySem.Challenge.pw_stamprules_k08_meet_of_two_books) rfl (by decide) (by kernel_rfl) ⟨rfl, by decide, by decide⟩ ?F (fun H s e s' h => Mi.cxw_none H s e s' h)
    intro w mg fa h Y G hmg0
    obtain ⟨K, KX, c⟩ := Y
    have hmg : mg ("law" : PySem.Str) = some (.ref fa) := by
      have e : (HandSHeadRun.topDef (OpenLaw.row PySem.Challenge.rw_stamprules_k08_meet_of_two_books).prog 55).name = ("law" : PySem.Str) := by kernel_rfl
      rw [← e]
      exact hmg0
    have R : Mi.Rw Mi.rd w K mg := Mi.Rw.of (n := 5) KX G c
    have e := hmg.symm.trans (R.gM "law" (by simp [Mi.rd]))
    cases e
    obtain ⟨fd, hb, hF⟩ := Mi.g_law R
    exact ⟨K, fd, _, KX, hb, fun H a ns hl _ hS => Mi.law_sp (fun ns _ => Mi.law_ok ns) H a ns hl hS, fun base _ _ => Mi.fn_cx (fun _ _ _ _ _ _ h => ⟨w, h⟩) (hF base)⟩

