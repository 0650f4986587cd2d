import PyProof.Rows.All
import Wide.All
import OpenK.AllK
import Wide.FinOn
import PySem.Challenge.RW_pq1456_01
open PySem PySem.W PyProof.Rows PySem.Spec PySem.Calls
set_option maxRecDepth 100000
set_option Elab.async false
set_option linter.unusedSectionVars false
set_option linter.unusedVariables false
set_option maxHeartbeats 8000000
set_option genSizeOf false
set_option genInjectivity false
namespace Mine
section

/-- the world's parameters, as far as dicts' hashes are asked -/
class Pm where
  p : Params
theorem byC {p : Prop} (h : (p → False) → False) : p := Classical.byContradiction h
variable [Pm]

inductive KvsAre : List DictEntry → List (PyData × PyData) → Prop where
  | nil : KvsAre [] []
  | cons {x : Str} {t : Tok} {v : Value} {d : PyData} {r : List DictEntry} {q : List (PyData × PyData)} : PyProof.V.Flat v d → KvsAre r q → KvsAre (⟨PyData.keyHash Pm.p x, .str x t, v⟩ :: r) ((.str x, d) :: q)
mutual
/-- data, as a heap bears them; a dict's keys are strs -/
inductive Reads (h : Heap) : Value → PyData → List Addr → Prop where
  | none : Reads h .none .none []
  | bool (b) : Reads h (.bool b) (.bool b) []
  | int (i t) : Reads h (.int i t) (.int i) []
  | str (x t) : Reads h (.str x t) (.str x) []
  | list {a o vs n xs as} : h.get? a = some o → o.cls = .type "list" → o.data = .seq vs n → ReadsAll h vs.toList xs as → Reads h (.ref a) (.list xs) (a :: as)
  | tuple {a o vs n xs as} : h.get? a = some o → o.cls = .type "tuple" → o.data = .seq vs n → ReadsAll h vs.toList xs as → Reads h (.ref a) (.tuple xs) as
  | dict {a es n kvs} : h.get? a = some ⟨.type "dict", Option.none, .dict es n, #[]⟩ → (a == sysModules) = false → KvsAre es.toList kvs → (kvs.map (·.1)).Nodup → Reads h (.ref a) (.dict kvs) [a]
inductive ReadsAll (h : Heap) : List Value → List PyData → List Addr → Prop where
  | nil : ReadsAll h [] [] []
  | cons {v vs d ds as bs} : Reads h v d as → ReadsAll h vs ds bs → ReadsAll h (v :: vs) (d :: ds) (as ++ bs)
end

theorem flat_reads {h : Heap} {v : Value} {d : PyData} (f : PyProof.V.Flat v d) : Reads h v d [] := by
  have r := f ⟨#[], {}⟩
  cases r with
  | none => exact .none
  | bool b => exact .bool b
  | int i t => exact .int i t
  | str x t => exact .str x t
  | tuple e _ _ _ => simp [Heap.get?] at e
theorem kvsAre_flat : ∀ {es : List DictEntry} {kvs : List (PyData × PyData)}, KvsAre es kvs → ∀ h : Heap, (PySem.ReadsAll h (es.map (·.key)) (kvs.map (·.1)) [] ∧ PySem.ReadsAll h (es.map (·.val)) (kvs.map (·.2)) [])
  | _, _, .nil, _ => ⟨.nil, .nil⟩
  | _, _, .cons f r, h => ⟨.cons (as := []) (bs := []) (.str ..) (kvsAre_flat r h).1, .cons (as := []) (bs := []) (f h) (kvsAre_flat r h).2⟩
theorem Reads.py {h : Heap} {v : Value} {d : PyData} {as : List Addr} (r : Reads h v d as) : PySem.Reads h v d as :=
  Reads.rec (motive_1 := fun v d as _ => PySem.Reads h v d as) (motive_2 := fun vs ds as _ => PySem.ReadsAll h vs ds as) .none .bool .int .str (fun e hc hd _ i => .list e hc hd i) (fun e hc hd _ i => .tuple e hc hd i)
    (fun e _ h2 _ => .dict (as := []) (bs := []) e rfl rfl (kvsAre_flat h2 h).1 (kvsAre_flat h2 h).2) .nil (fun _ _ i j => .cons i j) r

/-- the static things -/
structure St where
  prog : Program
  w : World
  B : Heap
  mg : Str → Option Value
  mb : Str → Option Value
  cA : Addr
  cU : Addr

noncomputable abbrev St.M (S : St) : Model := model S.prog S.w

inductive Out (α : Type) where
  | ok (a : α)
  | exc (u : Bool) (t : Str)

inductive Mut where
  | list (ds : List PyData)
  | inst (C : Addr) (es : List (Str × PyData))

noncomputable def solid (o : Obj) : Prop := ∀ vs, o.data ≠ .fields vs
noncomputable def tupled (o : Obj) : Prop := o.cls = .type "tuple" ∧ ∃ vs n, o.data = .seq vs n

/-- what an evaluation leaves as it was: Fs the frames, X the things that may be turned -/
structure Sim (B : Heap) (Fs X : List Addr) (h h' : Heap) : Prop where
  ex : ∀ a o, h.get? a = some o → a ∉ Fs → a ∉ X → h'.get? a = some o
  fr : ∀ a o, h.get? a = some o → (a ∉ X ∨ tupled o) → ∃ sl, h'.get? a = some { o with slots := sl }
  on : ∀ a o, h.get? a = some o → ∃ o', h'.get? a = some o' ∧ (solid o → solid o')
  st : B.StaysIn h → B.StaysIn h'

theorem Sim.refl (B : Heap) (Fs X : List Addr) (h : Heap) : Sim B Fs X h h :=
  ⟨fun _ _ e _ _ => e, fun _ o e _ => ⟨o.slots, e⟩, fun _ o e => ⟨o, e, id⟩, id⟩

theorem Sim.at {B : Heap} {Fs X : List Addr} {h h' : Heap} (x : Sim B Fs X h h') {a : Addr} {o : Obj} (e : h.get? a = some o) (hn : a ∉ X) : ∃ sl, h'.get? a = some { o with slots := sl } :=
  x.fr a o e (.inl hn)

theorem Sim.trans {B : Heap} {Fs X X' : List Addr} {h h₁ h₂ : Heap} (x : Sim B Fs X h h₁) (y : Sim B Fs X' h₁ h₂) (hx : ∀ a ∈ X', a ∈ X ∨ h.get? a = none) : Sim B Fs X h h₂ := by
  have out : ∀ a o, h.get? a = some o → a ∉ X → a ∉ X' := fun a o e hn hm => by
    rcases hx a hm with q | q
    · exact hn q
    · rw [q] at e; cases e
  refine ⟨fun a o e hf hc => ?_, fun a o e hn => ?_, fun a o e => ?_, fun s => y.st (x.st s)⟩
  · exact y.ex a o (x.ex a o e hf hc) hf (out a o e hc)
  · obtain ⟨sl, e₁⟩ := x.fr a o e hn
    obtain ⟨sl₂, e₂⟩ := y.fr a _ e₁ (hn.imp (out a o e) id)
    exact ⟨sl₂, e₂⟩
  · obtain ⟨o₁, e₁, k₁⟩ := x.on a o e
    obtain ⟨o₂, e₂, k₂⟩ := y.on a o₁ e₁
    exact ⟨o₂, e₂, fun q => k₂ (k₁ q)⟩

theorem Sim.mono {B : Heap} {Fs X X' : List Addr} {h h' : Heap} (x : Sim B Fs X h h') (hx : ∀ a ∈ X, a ∈ X') : Sim B Fs X' h h' :=
  ⟨fun a o e hf hc => x.ex a o e hf fun q => hc (hx a q), fun a o e hn => x.fr a o e (hn.imp (fun q hm => q (hx a hm)) id), x.on, x.st⟩

/-- frames that did not stand at the start may be dropped -/
theorem Sim.unframe {B : Heap} {Fs Fs' X : List Addr} {h h' : Heap} (x : Sim B Fs X h h') (hf : ∀ a ∈ Fs, a ∈ Fs' ∨ h.get? a = none) : Sim B Fs' X h h' := by
  refine ⟨fun a o e hn hc => x.ex a o e (fun hm => ?_) hc, x.fr, x.on, x.st⟩
  rcases hf a hm with q | q
  · exact hn q
  · rw [q] at e; cases e

theorem Sim.of_keeps {B : Heap} {Fs X : List Addr} {h h' : Heap} (k : ∀ b o, h.get? b = some o → h'.get? b = some o) : Sim B Fs X h h' :=
  ⟨fun a o e _ _ => k a o e, fun a o e _ => ⟨o.slots, k a o e⟩, fun a o e => ⟨o, k a o e, id⟩, fun s b o e => k b o (s b o e)⟩

theorem Sim.fresh {B : Heap} {Fs X : List Addr} {h h' : Heap} (x : Sim B Fs X h h') {a : Addr} (e : h'.get? a = none) : h.get? a = none := by
  cases q : h.get? a with
  | none => rfl
  | some o => obtain ⟨o', e', _⟩ := x.on a o q; rw [e] at e'; cases e'

/-- only what is in X was changed in place -/
theorem Sim.of_but {B : Heap} {Fs X : List Addr} {h h' : Heap} (k : ∀ b o, b ∉ X → h.get? b = some o → h'.get? b = some o) (k₂ : ∀ b ∈ X, ∀ o, h.get? b = some o → ∃ o', h'.get? b = some o' ∧ (solid o → solid o'))
    (ht : ∀ b ∈ X, ∀ o, h.get? b = some o → ¬ tupled o) (hb : ∀ b ∈ X, B.get? b = none) : Sim B Fs X h h' := by
  refine ⟨fun a o e _ hc => k a o hc e, fun a o e hc => ?_, fun a o e => ?_, fun s b o e => ?_⟩
  · by_cases hm : a ∈ X
    · rcases hc with hc | hc
      · exact absurd hm hc
      · exact absurd hc (ht a hm o e)
    · exact ⟨o.slots, k a o hm e⟩
  · by_cases hm : a ∈ X
    · exact k₂ a hm o e
    · exact ⟨o, k a o hm e, id⟩
  · by_cases hm : b ∈ X
    · rw [hb b hm] at e; cases e
    · exact k b o hm (s b o e)

/-! data that the heap bears, its lists away from Y -/
noncomputable def DataIn (Y : List Addr) (h : Heap) (v : Value) (d : PyData) : Prop := ∃ as, Reads h v d as ∧ ∀ a ∈ as, a ∉ Y

theorem reads_sim {B : Heap} {Fs X : List Addr} {h h' : Heap} (x : Sim B Fs X h h') {v : Value} {d : PyData} {as : List Addr} (r : Reads h v d as) : (∀ a ∈ as, a ∉ X ∧ a ∉ Fs) → Reads h' v d as :=
  Reads.rec (motive_1 := fun v d as _ => (∀ a ∈ as, a ∉ X ∧ a ∉ Fs) → Reads h' v d as) (motive_2 := fun vs ds as _ => (∀ a ∈ as, a ∉ X ∧ a ∉ Fs) → ReadsAll h' vs ds as) (fun _ => .none) (fun b _ => .bool b) (fun i t _ => .int i t) (fun y t _ => .str y t)
    (fun e hc hd _ i ha => let ⟨_, e'⟩ := x.at e (ha _ (.head _)).1; .list e' hc hd (i fun a hm => ha a (.tail _ hm)))
    (fun e hc hd _ i ha => let ⟨_, e'⟩ := x.fr _ _ e (.inr ⟨hc, _, _, hd⟩); .tuple e' hc hd (i ha))
    (fun e h1 h2 h3 ha => .dict (x.ex _ _ e (ha _ (.head _)).2 (ha _ (.head _)).1) h1 h2 h3) (fun _ => .nil)
    (fun _ _ i j ha => .cons (i fun a hm => ha a (List.mem_append.mpr (.inl hm))) (j fun a hm => ha a (List.mem_append.mpr (.inr hm)))) r

theorem reads_alloc {h : Heap} {v : Value} {d : PyData} {as : List Addr} (r : Reads h v d as) : ∀ a ∈ as, ∃ o, h.get? a = some o :=
  Reads.rec (motive_1 := fun v d as _ => ∀ a ∈ as, ∃ o, h.get? a = some o) (motive_2 := fun vs ds as _ => ∀ a ∈ as, ∃ o, h.get? a = some o) (fun _ hm => nomatch hm) (fun _ _ hm => nomatch hm) (fun _ _ _ hm => nomatch hm) (fun _ _ _ hm => nomatch hm)
    (fun e _ _ _ i a hm => (List.mem_cons.mp hm).elim (fun q => ⟨_, q ▸ e⟩) (i a)) (fun _ _ _ _ i => i) (fun e _ _ _ a hm => ⟨_, List.mem_singleton.mp hm ▸ e⟩) (fun _ hm => nomatch hm)
    (fun _ _ i j a hm => (List.mem_append.mp hm).elim (i a) (j a)) r
theorem DataIn.sim {B : Heap} {Fs X Y : List Addr} {h h' : Heap} {v : Value} {d : PyData} (D : DataIn Y h v d) (x : Sim B Fs X h h') (hx : ∀ a ∈ X, a ∈ Y ∨ h.get? a = none) (hf : ∀ a ∈ Fs, a ∈ Y ∨ h.get? a = none := by first | exact fun _ q => (List.not_mem_nil q).elim | assumption | exact fun a q => .inl (Pre.fsY (by assumption) a q) | exact fun a q => .inl (Pre.fsY (PreS.pre (by assumption)) a q) | exact fun a q => .inl (.tail _ (Pre.fsY (by assumption) a q)) | exact fun a q => .inl (.tail _ (.tail _ (Pre.fsY (by assumption) a q)))) : DataIn Y h' v d := by
  obtain ⟨as, r, ha⟩ := D
  have al : ∀ a ∈ as, ∃ o, h.get? a = some o := reads_alloc r
  have out : ∀ {Z : List Addr}, (∀ a ∈ Z, a ∈ Y ∨ h.get? a = none) → ∀ a ∈ as, a ∉ Z := fun hz a hm hZ => by
    rcases hz a hZ with q | q
    · exact ha a hm q
    · obtain ⟨o, e⟩ := al a hm; rw [q] at e; cases e
  exact ⟨as, reads_sim x r fun a hm => ⟨out hx a hm, out hf a hm⟩, ha⟩
theorem DataIn.grow {Y Y' : List Addr} {h : Heap} {v : Value} {d : PyData} (D : DataIn Y h v d) (hy : ∀ a ∈ Y', a ∈ Y ∨ h.get? a = none) : DataIn Y' h v d := by
  obtain ⟨as, r, ha⟩ := D
  have al : ∀ a ∈ as, ∃ o, h.get? a = some o := reads_alloc r
  refine ⟨as, r, fun a hm hY => ?_⟩
  rcases hy a hY with q | q
  · exact ha a hm q
  · obtain ⟨o, e⟩ := al a hm; rw [q] at e; cases e
theorem DataIn.less {Y Y' : List Addr} {h : Heap} {v : Value} {d : PyData} (D : DataIn Y h v d) (hy : ∀ a ∈ Y', a ∈ Y) : DataIn Y' h v d := D.grow fun a hm => .inl (hy a hm)

noncomputable def DatasIn (Y : List Addr) (h : Heap) : List Value → List PyData → Prop
  | [], [] => True
  | v :: vs, d :: ds => DataIn Y h v d ∧ DatasIn Y h vs ds
  | _, _ => False
theorem DatasIn.imp {Y Y' : List Addr} {h h' : Heap} (f : ∀ v d, DataIn Y h v d → DataIn Y' h' v d) : ∀ {vs : List Value} {ds : List PyData}, DatasIn Y h vs ds → DatasIn Y' h' vs ds
  | [], [], _ => trivial
  | _ :: _, _ :: _, ⟨a, r⟩ => ⟨f _ _ a, DatasIn.imp f r⟩
  | [], _ :: _, x => x.elim
  | _ :: _, [], x => x.elim
theorem DatasIn.reads {Y : List Addr} {h : Heap} : ∀ {vs : List Value} {ds : List PyData}, DatasIn Y h vs ds → ∃ as, ReadsAll h vs ds as ∧ ∀ a ∈ as, a ∉ Y
  | [], [], _ => ⟨[], .nil, fun _ h => nomatch h⟩
  | _ :: _, _ :: _, ⟨⟨as, r, ha⟩, q⟩ => by
    obtain ⟨bs, rs, hb⟩ := DatasIn.reads q
    exact ⟨as ++ bs, .cons r rs, fun a hm => (List.mem_append.mp hm).elim (ha a) (hb a)⟩
theorem DatasIn.of_reads {Y : List Addr} {h : Heap} : ∀ {vs : List Value} {ds : List PyData} {as : List Addr}, ReadsAll h vs ds as → (∀ a ∈ as, a ∉ Y) → DatasIn Y h vs ds
  | _, _, _, .nil, _ => trivial
  | _, _, _, .cons r rs, ha => ⟨⟨_, r, fun a hm => ha a (List.mem_append.mpr (.inl hm))⟩, DatasIn.of_reads rs fun a hm => ha a (List.mem_append.mpr (.inr hm))⟩
theorem DatasIn.length {Y : List Addr} {h : Heap} : ∀ {vs : List Value} {ds : List PyData}, DatasIn Y h vs ds → vs.length = ds.length
  | [], [], _ => rfl
  | _ :: _, _ :: _, ⟨_, q⟩ => congrArg (· + 1) (DatasIn.length q)
  | [], _ :: _, x => x.elim
  | _ :: _, [], x => x.elim
theorem DatasIn.get {Y : List Addr} {h : Heap} : ∀ {vs : List Value} {ds : List PyData}, DatasIn Y h vs ds → ∀ {i : Nat} {d : PyData}, ds[i]? = some d → ∃ v, vs[i]? = some v ∧ DataIn Y h v d
  | [], [], _, _, _, e => by simp at e
  | v :: _, _ :: _, ⟨q, _⟩, 0, d, e => by
    have e : some _ = some d := e
    cases e
    exact ⟨v, rfl, q⟩
  | _ :: _, _ :: _, ⟨_, q⟩, i + 1, d, e => by
    obtain ⟨v, h1, h2⟩ := DatasIn.get q (i := i) (d := d) (by simpa using e)
    exact ⟨v, by simpa using h1, h2⟩
theorem DatasIn.append {Y : List Addr} {h : Heap} : ∀ {vs ws : List Value} {ds es : List PyData}, DatasIn Y h vs ds → DatasIn Y h ws es → DatasIn Y h (vs ++ ws) (ds ++ es)
  | [], _, [], _, _, q => q
  | _ :: _, _, _ :: _, _, ⟨a, r⟩, q => ⟨a, DatasIn.append r q⟩
  | [], _, _ :: _, _, x, _ => x.elim
  | _ :: _, _, [], _, x, _ => x.elim

/-! names -/
noncomputable def Holds (h : Heap) (env : Env) (x : Str) (v : Value) : Prop :=
  (env.kindOf x = some .local ∧ ∃ m, h.Ns env.locals m ∧ m x = some v) ∨ (env.kindOf x = some .cell ∧ ∃ c, env.cells.lookup x = some c ∧ h.IsCell c (some v))
structure Loc (Y : List Addr) (env : Env) (h : Heap) (δ : List (Str × PyData)) : Prop where
  ns : ∃ m, h.Ns env.locals m
  dat : ∀ x d, δ.lookup x = some d → ∃ v, Holds h env x v ∧ DataIn Y h v d

noncomputable def EntsAre (Y : List Addr) (h : Heap) : List DictEntry → List (Str × PyData) → Prop
  | [], [] => True
  | e :: r, p :: q => (∃ tk, e.key = .str p.1 tk) ∧ DataIn Y h e.val p.2 ∧ EntsAre Y h r q
  | _, _ => False
theorem EntsAre.imp {Y Y' : List Addr} {h h' : Heap} (f : ∀ v d, DataIn Y h v d → DataIn Y' h' v d) : ∀ {es : List DictEntry} {ps : List (Str × PyData)}, EntsAre Y h es ps → EntsAre Y' h' es ps
  | [], [], _ => trivial
  | _ :: _, _ :: _, ⟨k, a, r⟩ => ⟨k, f _ _ a, EntsAre.imp f r⟩
  | [], _ :: _, x => x.elim
  | _ :: _, [], x => x.elim

noncomputable def HasMut (Y : List Addr) (h : Heap) (v : Value) (xs : List Addr) : Mut → Prop
  | .list ds => ∃ a o vs n, v = .ref a ∧ xs = [a] ∧ h.get? a = some o ∧ o.cls = .type "list" ∧ o.dict = none ∧ o.data = .seq vs n ∧ DatasIn Y h vs.toList ds
  | .inst C es => ∃ x dx o od ents n, v = .ref x ∧ xs = [dx, x] ∧ h.get? x = some o ∧ o.cls = .ref C ∧ o.dict = some dx ∧ o.data = .plain ∧ h.get? dx = some od ∧ od.cls = .type "dict" ∧ od.dict = none ∧ od.data = .dict ents n ∧ EntsAre Y h ents.toList es

noncomputable def Muts (Y : List Addr) (env : Env) (h : Heap) : List (Str × Mut) → List (List Addr) → Prop
  | [], [] => True
  | (x, m) :: r, xs :: R => (∃ v, Holds h env x v ∧ HasMut Y h v xs m) ∧ Muts Y env h r R
  | _, _ => False

/-- names that an evaluation may not turn -/
noncomputable def apart (X : List Addr) (env : Env) : Prop := env.locals ∉ X ∧ ∀ x c, env.cells.lookup x = some c → c ∉ X
theorem Ns.sim {B : Heap} {Fs X : List Addr} {h h' : Heap} (x : Sim B Fs X h h') {a : Addr} {m : Str → Option Value} (N : h.Ns a m) (hn : a ∉ X) : h'.Ns a m := by
  refine byC fun hnC1 => ?_
  obtain ⟨o, es, ep, ho, hd, r⟩ := N
  obtain ⟨sl, e⟩ := x.at ho hn
  refine hnC1 ?_
  exact ⟨_, es, ep, e, hd, r⟩
theorem Ns.same {h : Heap} {a : Addr} {m m' : Str → Option Value} (N : h.Ns a m) (N' : h.Ns a m') : m = m' := by
  refine byC fun hnC2 => ?_
  obtain ⟨o, es, ep, ho, hd, _, r⟩ := N
  obtain ⟨o', es', ep', ho', hd', _, r'⟩ := N'
  refine hnC2 ?_
  rw [ho] at ho'; cases ho'
  rw [hd] at hd'; cases hd'
  funext x
  rw [← r x, ← r' x]
theorem Holds.sim {B : Heap} {Fs X : List Addr} {h h' : Heap} (x : Sim B Fs X h h') {env : Env} (ap : apart X env) {n : Str} {v : Value} (H : Holds h env n v) : Holds h' env n v := by
  rcases H with ⟨hk, m, N, hm⟩ | ⟨hk, c, hc, o, ho, hd⟩
  · exact .inl ⟨hk, m, Ns.sim x N ap.1, hm⟩
  · obtain ⟨sl, e⟩ := x.at ho (ap.2 _ _ hc)
    exact .inr ⟨hk, c, hc, _, e, hd⟩
theorem Loc.sim {B : Heap} {Fs X Y : List Addr} {h h' : Heap} (x : Sim B Fs X h h') {env : Env} (ap : apart X env) (hx : ∀ a ∈ X, a ∈ Y ∨ h.get? a = none) {δ : List (Str × PyData)} (H : Loc Y env h δ) (hf : ∀ a ∈ Fs, a ∈ Y ∨ h.get? a = none := by first | exact fun _ q => (List.not_mem_nil q).elim | assumption | exact fun a q => .inl (Pre.fsY (by assumption) a q) | exact fun a q => .inl (Pre.fsY (PreS.pre (by assumption)) a q) | exact fun a q => .inl (.tail _ (Pre.fsY (by assumption) a q)) | exact fun a q => .inl (.tail _ (.tail _ (Pre.fsY (by assumption) a q)))) : Loc Y env h' δ :=
  ⟨let ⟨m, N⟩ := H.ns; ⟨m, Ns.sim x N ap.1⟩, fun n d e => let ⟨v, a, b⟩ := H.dat n d e; ⟨v, a.sim x ap, b.sim x hx hf⟩⟩
theorem HasMut.sim {B : Heap} {Fs X Y : List Addr} {h h' : Heap} (x : Sim B Fs X h h') (hx : ∀ a ∈ X, a ∈ Y ∨ h.get? a = none) {v : Value} {xs : List Addr} (hn : ∀ a ∈ xs, a ∉ X) {m : Mut} (H : HasMut Y h v xs m) (hf : ∀ a ∈ Fs, a ∈ Y ∨ h.get? a = none := by first | exact fun _ q => (List.not_mem_nil q).elim | assumption | exact fun a q => .inl (Pre.fsY (by assumption) a q) | exact fun a q => .inl (Pre.fsY (PreS.pre (by assumption)) a q) | exact fun a q => .inl (.tail _ (Pre.fsY (by assumption) a q)) | exact fun a q => .inl (.tail _ (.tail _ (Pre.fsY (by assumption) a q)))) : HasMut Y h' v xs m := by
  cases m with
  | list ds =>
    refine byC fun hnC3 => ?_
    obtain ⟨a, o, vs, n, hv, hxs, ho, hc, hdi, hd, hD⟩ := H
    refine hnC3 ?_
    subst hxs
    obtain ⟨sl, e⟩ := x.at ho (hn a (.head _))
    exact ⟨a, _, vs, n, hv, rfl, e, hc, hdi, hd, hD.imp fun v d q => q.sim x hx hf⟩
  | inst C es =>
    refine byC fun hnC4 => ?_
    obtain ⟨a, dx, o, od, ents, n, hv, hxs, ho, hc, hdx, hd, hod, hcd, hdd, hdn, hE⟩ := H
    refine hnC4 ?_
    subst hxs
    refine byC fun hnC5 => ?_
    obtain ⟨sl, e⟩ := x.at ho (hn a (.tail _ (.head _)))
    obtain ⟨sl', e'⟩ := x.at hod (hn dx (.head _))
    refine hnC5 ?_
    exact ⟨a, dx, _, _, ents, n, hv, rfl, e, hc, hdx, hd, e', hcd, hdd, hdn, hE.imp fun v d q => q.sim x hx hf⟩
theorem muts_sim {B : Heap} {Fs X Y : List Addr} {h h' : Heap} (x : Sim B Fs X h h') {env : Env} (ap : apart X env) (hx : ∀ a ∈ X, a ∈ Y ∨ h.get? a = none) (hf : ∀ a ∈ Fs, a ∈ Y ∨ h.get? a = none) : ∀ {μ : List (Str × Mut)} {Xs : List (List Addr)}, (∀ a ∈ Xs.flatten, a ∉ X) → Muts Y env h μ Xs → Muts Y env h' μ Xs
  | [], [], _, _ => trivial
  | _ :: _, _ :: _, hn, ⟨⟨v, a, b⟩, r⟩ => ⟨⟨v, a.sim x ap, b.sim x hx (fun c hc => hn c (List.mem_append.mpr (.inl hc))) hf⟩, muts_sim x ap hx hf (fun c hc => hn c (List.mem_append.mpr (.inr hc))) r⟩
  | [], _ :: _, _, q => q.elim
  | _ :: _, [], _, q => q.elim
theorem Muts.sim {B : Heap} {Fs X Y : List Addr} {h h' : Heap} (x : Sim B Fs X h h') {env : Env} (ap : apart X env) (hx : ∀ a ∈ X, a ∈ Y ∨ h.get? a = none) {μ : List (Str × Mut)} {Xs : List (List Addr)} (hn : ∀ a ∈ Xs.flatten, a ∉ X) (M : Muts Y env h μ Xs) (hf : ∀ a ∈ Fs, a ∈ Y ∨ h.get? a = none := by first | exact fun _ q => (List.not_mem_nil q).elim | assumption | exact fun a q => .inl (Pre.fsY (by assumption) a q) | exact fun a q => .inl (Pre.fsY (PreS.pre (by assumption)) a q) | exact fun a q => .inl (.tail _ (Pre.fsY (by assumption) a q)) | exact fun a q => .inl (.tail _ (.tail _ (Pre.fsY (by assumption) a q)))) : Muts Y env h' μ Xs := muts_sim x ap hx hf hn M

/-- an own exception: h₀ is the heap at a start; st: none: no entry yet, some f: an entry, its mark f -/
noncomputable def ExcW (S : St) (h₀ h : Heap) (e : Addr) (u : Bool) (t : Str) (st : Option Value) : Prop :=
  ∃ o vs dx od ents n, h.get? e = some o ∧ o.cls = .ref (if u then S.cU else S.cA) ∧ o.data = .fields vs ∧ 4 < vs.size ∧ o.dict = some dx ∧ h₀.get? e = none ∧ h₀.get? dx = none ∧
    h.get? dx = some od ∧ od.cls = .type "dict" ∧ od.data = .dict ents n ∧ EntsAre [] h ents.toList [("row", .int 0), ("text", .str t)] ∧
    match st with
    | none => vs[1]? = some .none
    | some f => ∃ T oT ts, vs[1]? = some (.ref T) ∧ h₀.get? T = none ∧ T ≠ e ∧ h.get? T = some oT ∧ oT.data = .fields ts ∧ ts[3]? = some f
/-- an own exception in flight, in the frame fr -/
noncomputable def ExcSt (S : St) (fr : Option Addr) (h₀ h : Heap) (e : Addr) (u : Bool) (t : Str) : Prop :=
  ExcW S h₀ h e u t none ∨ ExcW S h₀ h e u t (some .none) ∨ ∃ L, fr = some L ∧ ExcW S h₀ h e u t (some (rawInt L))

noncomputable def isComp (sc : Scope) : Bool := (sc.names.lookup (".0" : Str)).isSome
/-- the cell of a name stands -/
noncomputable def CellAt (h : Heap) (env : Env) (n : Str) : Prop := ∃ c v, env.cells.lookup n = some c ∧ h.IsCell c v
theorem CellAt.sim {B : Heap} {Fs X : List Addr} {h h' : Heap} (x : Sim B Fs X h h') {env : Env} {n : Str} (ap : apart X env) (H : CellAt h env n) : CellAt h' env n := by
  refine byC fun hnC6 => ?_
  obtain ⟨c, v, e, o, ho, hd⟩ := H
  obtain ⟨sl, e'⟩ := x.at ho (ap.2 n c e)
  refine hnC6 ?_
  exact ⟨c, v, e, _, e', hd⟩
theorem CellAt.keeps {h h' : Heap} (k : ∀ b o, h.get? b = some o → h'.get? b = some o) {env : Env} {n : Str} (H : CellAt h env n) : CellAt h' env n :=
  let ⟨c, v, e, o, ho, hd⟩ := H; ⟨c, v, e, o, k c o ho, hd⟩
theorem CellAt.loc {B : Heap} {Fs : List Addr} {h h' : Heap} {env : Env} (x : Sim B Fs [env.locals] h h') (N : ∃ m, h.Ns env.locals m) {n : Str} (H : CellAt h env n) : CellAt h' env n := by
  obtain ⟨c, v, e, o, ho, hd⟩ := H
  obtain ⟨m, o', es, ep, ho', hd', _⟩ := N
  obtain ⟨sl, e'⟩ := x.at ho fun q => by
    rw [List.mem_singleton.mp q, ho'] at ho; cases ho; rw [hd] at hd'; cases hd'
  exact ⟨c, v, e, _, e', hd⟩
structure Pre (S : St) (b : Nat) (sc : Scope) (A : Around) (env : Env) (Fs : List Addr) (h₀ : Heap) (Xr Y : List Addr) (Xs : List (List Addr)) (δ : List (Str × PyData)) (μ : List (Str × Mut)) (s : Shared) : Prop where
  depth : A.depth + b < recursionLimit
  units : A.units + 30 * b + 100 < cLine
  handled : A.handled = none
  sco : env.scope = sc
  kind : sc.kind = .function
  globals : env.globals = mainGlobals
  builtins : env.builtins = builtinsNs
  stack : ∃ fenv outer L, A.frames = some (fenv :: outer) ∧ fenv.frame = some L ∧ env.frame = some L ∧ Fs = (fenv :: outer).filterMap (·.frame) ∧ s.heap.FunFrames S.B (fenv :: outer) ∧ h₀.get? L = none
  base : S.B.StaysIn h₀
  stat : S.B.StaysIn s.heap
  hist : Sim S.B Fs Xr h₀ s.heap
  loc : Loc Y env s.heap δ
  locY : env.locals ∈ Y ∧ h₀.get? env.locals = none
  cellY : ∀ x c, env.cells.lookup x = some c → c ∈ Y ∧ h₀.get? c = none
  cellI : ∀ n m c, env.cells.lookup n = some c → env.cells.lookup m = some c → n = m
  cellE : isComp sc = false → ∀ n, env.kindOf n = some .cell → CellAt s.heap env n
  muts : Muts Y env s.heap μ Xs
  nodup : Xs.flatten.Nodup
  sepY : ∀ a ∈ Xs.flatten, a ∈ Y
  sepF : ∀ a ∈ Xs.flatten, a ∉ Fs
  yB : ∀ a ∈ Y, S.B.get? a = none
  fsY : ∀ a ∈ Fs, a ∈ Y
  sepN : apart Xs.flatten env
  sepH : ∀ a ∈ Xs.flatten, a ∈ Xr ∨ h₀.get? a = none
  alloc : ∀ a ∈ Y, ∃ o, s.heap.get? a = some o

theorem funFrames_sim {B : Heap} {Fs X : List Addr} {h h' : Heap} (x : Sim B Fs X h h') : ∀ {l : List Env}, (h.FunFrames B l) → h'.FunFrames B l
  | [], _ => trivial
  | _ :: _, ⟨hk, ⟨L, o, hf, hn, ho, hd⟩, r⟩ => by
    obtain ⟨o', e', k⟩ := x.on L o ho
    exact ⟨hk, ⟨L, o', hf, hn, e', k hd⟩, funFrames_sim x r⟩

theorem Pre.next {S : St} {b : Nat} {sc : Scope} {A : Around} {env : Env} {Fs : List Addr} {h₀ : Heap} {Xr Y : List Addr} {Xs : List (List Addr)} {δ : List (Str × PyData)} {μ μ' : List (Str × Mut)} {s : Shared}
    (P : Pre S b sc A env Fs h₀ Xr Y Xs δ μ s) {h' : Heap} {tk : Nat} (x : Sim S.B Fs Xs.flatten s.heap h') (m : Muts Y env h' μ' Xs) : Pre S b sc A env Fs h₀ Xr Y Xs δ μ' { s with heap := h', toks := tk } where
  depth := P.depth
  units := P.units
  handled := P.handled
  sco := P.sco
  kind := P.kind
  globals := P.globals
  builtins := P.builtins
  stack := let ⟨f, o, L, a, b, c, d, e, g⟩ := P.stack; ⟨f, o, L, a, b, c, d, funFrames_sim x e, g⟩
  base := P.base
  stat := x.st P.stat
  hist := P.hist.trans x P.sepH
  loc := P.loc.sim x P.sepN fun a h => .inl (P.sepY a h)
  locY := P.locY
  cellY := P.cellY
  cellI := P.cellI
  cellE := fun q n h => (P.cellE q n h).sim x P.sepN
  muts := m
  nodup := P.nodup
  sepY := P.sepY
  sepF := P.sepF
  yB := P.yB
  fsY := P.fsY
  sepN := P.sepN
  sepH := P.sepH
  alloc := fun a h => let ⟨o, e⟩ := P.alloc a h; let ⟨o', e', _⟩ := x.on a o e; ⟨o', e'⟩

/-- what an evaluation hands on -/
noncomputable def Kn {α β : Type} (S : St) (Fs Y : List Addr) (env : Env) (Xs : List (List Addr)) (μ' : List (Str × Mut)) (P : List Addr → Heap → α → β → Prop) (s : Shared) (out : Out β) (R : α → Shared → Prop) (E : Value → Shared → Prop) : Prop := match out with
  | .ok d => ∀ v h' tk, Sim S.B Fs Xs.flatten s.heap h' → Muts Y env h' μ' Xs → P Y h' v d → R v { s with heap := h', toks := tk }
  | .exc u t => ∀ e h' tk, Sim S.B Fs Xs.flatten s.heap h' → ExcSt S env.frame s.heap h' e u t → E (.ref e) { s with heap := h', toks := tk }

noncomputable abbrev isB {β : Type} : List Addr → Heap → β → β → Prop := fun _ _ a b => a = b

@[irreducible] def EvE (S : St) (b : Nat) (sc : Scope) (δ : List (Str × PyData)) (μ : List (Str × Mut)) (e : Expr) (out : Out PyData) (μ' : List (Str × Mut)) : Prop :=
  ∀ A env Fs h₀ Xr Y Xs s R E, Pre S b sc A env Fs h₀ Xr Y Xs δ μ s → Kn S Fs Y env Xs μ' DataIn s out R E → wpAny S.M A (eval e env) R E s
@[irreducible] def EvT (S : St) (b : Nat) (sc : Scope) (δ : List (Str × PyData)) (μ : List (Str × Mut)) (e : Expr) (out : Out Bool) (μ' : List (Str × Mut)) : Prop :=
  ∀ A env Fs h₀ Xr Y Xs s R E, Pre S b sc A env Fs h₀ Xr Y Xs δ μ s → Kn S Fs Y env Xs μ' isB s out R E → wpAny S.M A (isTrue e env (eval e env)) R E s

noncomputable def WEs (M : Model) (A : Around) (env : Env) : List Expr → (List Value → Shared → Prop) → (Value → Shared → Prop) → Shared → Prop
  | [], Q, _, s => Q [] s
  | e :: r, Q, E, s => wpAny M A (eval e env) (fun v s₁ => WEs M A env r (fun vs s₂ => Q (v :: vs) s₂) E s₁) E s
@[irreducible] def EvEs (S : St) (b : Nat) (sc : Scope) (δ : List (Str × PyData)) (μ : List (Str × Mut)) (es : List Expr) (out : Out (List PyData)) (μ' : List (Str × Mut)) : Prop :=
  ∀ A env Fs h₀ Xr Y Xs s R E, Pre S b sc A env Fs h₀ Xr Y Xs δ μ s → Kn S Fs Y env Xs μ' DatasIn s out R E → WEs S.M A env es R E s

section
variable {S : St} {b : Nat} {sc : Scope} {δ : List (Str × PyData)} {μ μ₁ μ' : List (Str × Mut)} {e : Expr} {es : List Expr}

theorem ExcW.older {h₀ h₁ h : Heap} {x : Addr} {u : Bool} {t : Str} {st : Option Value} (X : ExcW S h₁ h x u t st) (k : ∀ a, h₁.get? a = none → h₀.get? a = none) : ExcW S h₀ h x u t st := by
  refine byC fun hnC7 => ?_
  obtain ⟨o, vs, dx, od, ents, n, h1, h2, h3, h4, h5, h6, h7, h8, h9, h10, h11, h12⟩ := X
  refine hnC7 ?_
  refine ⟨o, vs, dx, od, ents, n, h1, h2, h3, h4, h5, k _ h6, k _ h7, h8, h9, h10, h11, ?_⟩
  cases st with
  | none => exact h12
  | some f => obtain ⟨T, oT, ts, a1, a2, a3⟩ := h12; exact ⟨T, oT, ts, a1, k _ a2, a3⟩
theorem ExcSt.older {fr : Option Addr} {h₀ h₁ h : Heap} {x : Addr} {u : Bool} {t : Str} (X : ExcSt S fr h₁ h x u t) (k : ∀ a, h₁.get? a = none → h₀.get? a = none) : ExcSt S fr h₀ h x u t :=
  X.imp (·.older k) (·.imp (·.older k) fun ⟨L, e, q⟩ => ⟨L, e, q.older k⟩)

theorem EvEs.nil : EvEs S b sc δ μ [] (.ok []) μ := by
 with_unfolding_all exact fun _ _ _ _ _ _ _ s _ _ P K => K [] s.heap s.toks (.refl ..) P.muts trivial
theorem EvEs.cons {d : PyData} {out : Out (List PyData)} (h : EvE S b sc δ μ e (.ok d) μ₁) (r : EvEs S b sc δ μ₁ es out μ') :
    EvEs S b sc δ μ (e :: es) (match out with | .ok ds => .ok (d :: ds) | .exc u t => .exc u t) μ' := by
  with_unfolding_all
  intro A env Fs h₀ Xr Y Xs s R E P K
  refine h A env Fs h₀ Xr Y Xs s _ E P fun v h' tk x m D => ?_
  have P' := P.next (tk := tk) x m
  refine r A env Fs h₀ Xr Y Xs _ _ E P' ?_
  have hY : ∀ a ∈ Xs.flatten, a ∈ Y ∨ h'.get? a = none := fun a q => .inl (P.sepY a q)
  cases out with
  | ok ds => exact fun vs h'' tk' x' m' Ds => K (v :: vs) h'' tk' (x.trans x' fun a q => .inl q) m' ⟨D.sim x' hY, Ds⟩
  | exc u t => exact fun e h'' tk' x' X => K e h'' tk' (x.trans x' fun a q => .inl q) (X.older fun a q => x.fresh q)
theorem EvEs.here {u : Bool} {t : Str} (h : EvE S b sc δ μ e (.exc u t) μ') : EvEs S b sc δ μ (e :: es) (.exc u t) μ' := by
 with_unfolding_all exact
  fun A env Fs h₀ Xr Y Xs s _ E P K => h A env Fs h₀ Xr Y Xs s _ E P K
end
end
section
variable [Pm]

/-- an operation that only makes things: data in, a datum out -/
@[irreducible] def Prim (S : St) (tree : List Value → Sem Value) (ds : List PyData) (d : PyData) : Prop :=
  ∀ (A : Around) (Y : List Addr) (vs : List Value) (R E : Value → Shared → Prop) (s : Shared), A.handled = none → A.units + 100 < cLine → S.B.StaysIn s.heap → (∀ a ∈ Y, ∃ o, s.heap.get? a = some o) → DatasIn Y s.heap vs ds →
    (∀ v h' tk, (∀ b o, s.heap.get? b = some o → h'.get? b = some o) → DataIn Y h' v d → R v { s with heap := h', toks := tk }) → wpAny S.M A (tree vs) R E s

noncomputable def two (f : Value → Value → Sem Value) : List Value → Sem Value
  | [a, b] => f a b
  | _ => .unsupported "two"
noncomputable def one (f : Value → Sem Value) : List Value → Sem Value
  | [a] => f a
  | _ => .unsupported "one"

theorem Kn.keeps {α β : Type} {S : St} {Fs Y : List Addr} {env : Env} {Xs : List (List Addr)} {μ : List (Str × Mut)} {P : List Addr → Heap → α → β → Prop} {s : Shared} {d : β} {R : α → Shared → Prop} {E : Value → Shared → Prop}
    (K : Kn S Fs Y env Xs μ P s (.ok d) R E) {b : Nat} {sc : Scope} {A : Around} {h₀ : Heap} {Xr : List Addr} {δ : List (Str × PyData)} (Q : Pre S b sc A env Fs h₀ Xr Y Xs δ μ s)
    {h' : Heap} (k : ∀ b o, s.heap.get? b = some o → h'.get? b = some o) {v : α} {tk : Nat} (D : P Y h' v d) : R v { s with heap := h', toks := tk } :=
  K v h' tk (.of_keeps k) (Q.muts.sim (X := []) (Fs := Fs) (B := S.B) (.of_keeps k) ⟨(fun h => nomatch h), (fun _ _ _ h => nomatch h)⟩ (fun _ h => nomatch h) (fun _ _ h => nomatch h)) D

section
variable {S : St} {b : Nat} {sc : Scope} {δ : List (Str × PyData)} {μ μ₁ μ' : List (Str × Mut)} {e l r : Expr} {es : List Expr} {pos : Pos} {d x y z : PyData} {u : Bool} {t : Str}

theorem dataNone {Y : List Addr} {h : Heap} : DataIn Y h .none .none := ⟨[], .none, fun _ h => nomatch h⟩
theorem dataBool {Y : List Addr} {h : Heap} {b : Bool} : DataIn Y h (.bool b) (.bool b) := ⟨[], .bool b, fun _ h => nomatch h⟩
theorem dataInt {Y : List Addr} {h : Heap} {i : Int} {t : Tok} : DataIn Y h (.int i t) (.int i) := ⟨[], .int i t, fun _ h => nomatch h⟩
theorem dataStr {Y : List Addr} {h : Heap} {x : Str} {t : Tok} : DataIn Y h (.str x t) (.str x) := ⟨[], .str x t, fun _ h => nomatch h⟩
theorem DataIn.int {Y : List Addr} {h : Heap} {v : Value} {i : Int} (D : DataIn Y h v (.int i)) : ∃ t, v = .int i t := by
  obtain ⟨as, r, _⟩ := D; cases r; exact ⟨_, rfl⟩
theorem DataIn.str {Y : List Addr} {h : Heap} {v : Value} {x : Str} (D : DataIn Y h v (.str x)) : ∃ t, v = .str x t := by
  obtain ⟨as, r, _⟩ := D; cases r; exact ⟨_, rfl⟩
theorem DataIn.bool {Y : List Addr} {h : Heap} {v : Value} {x : Bool} (D : DataIn Y h v (.bool x)) : v = .bool x := by
  obtain ⟨as, r, _⟩ := D; cases r; rfl
theorem DataIn.none {Y : List Addr} {h : Heap} {v : Value} (D : DataIn Y h v .none) : v = .none := by
  obtain ⟨as, r, _⟩ := D; cases r; rfl

theorem keepsSame {s : Shared} : ∀ b o, s.heap.get? b = some o → s.heap.get? b = some o := fun _ _ e => e

theorem EvE.cInt {i : Int} {k : Nat} : EvE S b sc δ μ (.Constant (.int i) k pos) (.ok (.int i)) μ := by
 with_unfolding_all exact fun _ _ _ _ _ _ _ _ _ _ P K => wpAny_Constant_int (K.keeps P keepsSame dataInt)
theorem EvE.cStr {x : Str} {k : Nat} : EvE S b sc δ μ (.Constant (.str x) k pos) (.ok (.str x)) μ := by
 with_unfolding_all exact fun _ _ _ _ _ _ _ _ _ _ P K => wpAny_Constant_str (K.keeps P keepsSame dataStr)
theorem EvE.cNone {k : Nat} : EvE S b sc δ μ (.Constant .none k pos) (.ok .none) μ := by
 with_unfolding_all exact fun _ _ _ _ _ _ _ _ _ _ P K => wpAny_Constant_none (K.keeps P keepsSame dataNone)
theorem EvE.cBool {x : Bool} {k : Nat} : EvE S b sc δ μ (.Constant (.bool x) k pos) (.ok (.bool x)) μ := by
 with_unfolding_all exact fun _ _ _ _ _ _ _ _ _ _ P K => wpAny_Constant_bool (K.keeps P keepsSame dataBool)

theorem load_holds {M : Model} {A : Around} {E : Value → Shared → Prop} {s : Shared} {env : Env} {n : Str} {v : Value} {Q : Value → Shared → Prop} (hk : env.scope.kind = .function) (H : Holds s.heap env n v) (h : Q v s) : wpAny M A (loadName env n) Q E s := by
  rcases H with ⟨hl, m, N, hm⟩ | ⟨hl, c, hc, hC⟩
  · exact wpAny_loadName_local hk hl N hm h
  · exact wpAny_loadName_cell hk hl hc hC h
theorem Pre.sk {A : Around} {env : Env} {Fs : List Addr} {h₀ : Heap} {Xr Y : List Addr} {Xs : List (List Addr)} {s : Shared} (P : Pre S b sc A env Fs h₀ Xr Y Xs δ μ s) : env.scope.kind = .function := P.sco ▸ P.kind

theorem EvE.name {n : Str} (h : δ.lookup n = some d) (hd : (n == ("__debug__" : Str)) = false := by decide) : EvE S b sc δ μ (.Name n pos) (.ok d) μ := by
  with_unfolding_all
  intro A env Fs h₀ Xr Y Xs s R E P K
  obtain ⟨v, H, D⟩ := P.loc.dat n d h
  exact wpAny_Name (load_holds P.sk H (K.keeps P keepsSame D)) hd

theorem Kn.seq {α β : Type} {env : Env} {Fs : List Addr} {Y : List Addr} {Xs : List (List Addr)} {s : Shared} {Pr : List Addr → Heap → α → β → Prop} {out : Out β} {R : α → Shared → Prop} {E : Value → Shared → Prop}
    (K : Kn S Fs Y env Xs μ' Pr s out R E) {h' : Heap} {tk : Nat} (x : Sim S.B Fs Xs.flatten s.heap h') : Kn S Fs Y env Xs μ' Pr { s with heap := h', toks := tk } out R E := by
  cases out with
  | ok d => exact fun v h'' tk' x' m' D' => K v h'' tk' (x.trans x' fun a q => .inl q) m' D'
  | exc u t => exact fun e h'' tk' x' X => K e h'' tk' (x.trans x' fun a q => .inl q) (X.older fun a q => x.fresh q)

theorem prim_use {tree : List Value → Sem Value} {ds : List PyData} {env : Env} {A : Around} {Fs : List Addr} {h₀ : Heap} {Xr Y : List Addr} {Xs : List (List Addr)} {s : Shared} {R E : Value → Shared → Prop}
    (p : Prim S tree ds d) (P : Pre S b sc A env Fs h₀ Xr Y Xs δ μ s) (K : Kn S Fs Y env Xs μ' DataIn s (.ok d) R E) {vs : List Value} {h' : Heap} {tk : Nat} (x : Sim S.B Fs Xs.flatten s.heap h') (m : Muts Y env h' μ' Xs) (D : DatasIn Y h' vs ds) :
    wpAny S.M A (tree vs) R E { s with heap := h', toks := tk } := by
  with_unfolding_all
  have P' := P.next (tk := tk) x m
  refine p A Y vs R E _ P.handled (by have := P.units; omega) P'.stat P'.alloc D fun v h'' tk' k D' => ?_
  exact (K.seq (tk := tk) x).keeps P' k D'

theorem EvE.bin {op : Operator} (h : EvEs S b sc δ μ [l, r] (.ok [x, y]) μ') (p : Prim S (two (binaryOp op)) [x, y] d) : EvE S b sc δ μ (.BinOp l op r pos) (.ok d) μ' := by
  with_unfolding_all
  intro A env Fs h₀ Xr Y Xs s R E P K
  exact wpAny_BinOp (h A env Fs h₀ Xr Y Xs s (fun vs s' => wpAny S.M A (two (binaryOp op) vs) R E s') E P fun vs h' tk x m D => prim_use p P K x m D)
theorem EvE.un {op : UnaryOp} (h : EvE S b sc δ μ e (.ok x) μ') (p : Prim S (one (unaryOp op)) [x] d) : EvE S b sc δ μ (.UnaryOp op e pos) (.ok d) μ' := by
  with_unfolding_all
  intro A env Fs h₀ Xr Y Xs s R E P K
  exact wpAny_UnaryOp (h A env Fs h₀ Xr Y Xs s _ E P fun v h' tk x m D => prim_use (vs := [v]) p P K x m ⟨D, trivial⟩)
theorem EvE.cmp {op : CmpOp} (h : EvEs S b sc δ μ [l, r] (.ok [x, y]) μ') (p : Prim S (two (compareOp op)) [x, y] d) (hm : behindInMarks op r = false := by with_unfolding_all rfl) : EvE S b sc δ μ (.Compare l [op] [r] pos) (.ok d) μ' := by
  with_unfolding_all
  intro A env Fs h₀ Xr Y Xs s R E P K
  exact wpAny_Compare1 (h A env Fs h₀ Xr Y Xs s (fun vs s' => wpAny S.M A (two (compareOp op) vs) R E s') E P fun vs h' tk x m D => prim_use p P K x m D) hm
theorem EvT.cmp {op : CmpOp} {c : Bool} (h : EvEs S b sc δ μ [l, r] (.ok [x, y]) μ') (p : Prim S (two (compareOp op)) [x, y] (.bool c)) (hm : behindInMarks op r = false := by with_unfolding_all rfl) : EvT S b sc δ μ (.Compare l [op] [r] pos) (.ok c) μ' := by
  with_unfolding_all
  intro A env Fs h₀ Xr Y Xs s R E P K
  refine wpAny_isTrue_Compare1 (h A env Fs h₀ Xr Y Xs s (fun vs s' => wpAny S.M A (two (compareOp op) vs) (fun c s₃ => wpAny S.M A (truthy c) R E s₃) E s') E P fun vs h' tk x m D =>
    prim_use (μ' := μ') p P (fun v h'' tk' x' m' D' => ?_) x m D) hm
  rw [D'.bool]
  exact wpAny_truthy_bool (K _ _ _ x' m' rfl)

theorem EvT.val {c : Bool} (h : EvE S b sc δ μ e (.ok (.bool c)) μ') (he : ∀ env whole, isTrue e env whole = (do let v ← whole; standAt e.pos; holding [v] (truthy v)) := by intro _ _; rfl) : EvT S b sc δ μ e (.ok c) μ' := by
  with_unfolding_all
  intro A env Fs h₀ Xr Y Xs s R E P K
  refine isTrue_plain (h A env Fs h₀ Xr Y Xs s _ E P fun v h' tk x m D => ?_) (he _ _)
  rw [D.bool]
  exact wpAny_truthy_bool (K _ _ _ x m rfl)
theorem EvT.not {c : Bool} (h : EvT S b sc δ μ e (.ok c) μ') : EvT S b sc δ μ (.UnaryOp .Not e pos) (.ok (!c)) μ' := by
  with_unfolding_all
  intro A env Fs h₀ Xr Y Xs s R E P K
  exact wpAny_isTrue_Not (h A env Fs h₀ Xr Y Xs s _ E P fun v h' tk x m D => by subst D; exact K _ _ _ x m rfl)

theorem EvT.andNil : EvT S b sc δ μ (.BoolOp .And [] pos) (.ok true) μ := by
 with_unfolding_all exact fun _ _ _ _ _ _ _ s _ _ P K => isTrue_and_nil (K.keeps P (tk := s.toks) keepsSame rfl)
theorem EvT.orNil : EvT S b sc δ μ (.BoolOp .Or [] pos) (.ok false) μ := by
 with_unfolding_all exact fun _ _ _ _ _ _ _ s _ _ P K => isTrue_or_nil (K.keeps P (tk := s.toks) keepsSame rfl)
theorem EvT.and {c : Bool} {out : Out Bool} (h : EvT S b sc δ μ e (.ok c) μ₁) (r : if c then EvT S b sc δ μ₁ (.BoolOp .And es pos) out μ' else out = .ok false ∧ μ' = μ₁) : EvT S b sc δ μ (.BoolOp .And (e :: es) pos) out μ' := by
  with_unfolding_all
  intro A env Fs h₀ Xr Y Xs s R E P K
  refine isTrue_and (h A env Fs h₀ Xr Y Xs s _ E P fun v h' tk x m D => ?_)
  subst D
  cases v with
  | true => exact r A env Fs h₀ Xr Y Xs _ R E (P.next x m) (K.seq (tk := tk) x)
  | false => obtain ⟨rfl, rfl⟩ := r; exact K _ _ _ x m rfl
theorem EvT.or {c : Bool} {out : Out Bool} (h : EvT S b sc δ μ e (.ok c) μ₁) (r : if c then out = .ok true ∧ μ' = μ₁ else EvT S b sc δ μ₁ (.BoolOp .Or es pos) out μ') : EvT S b sc δ μ (.BoolOp .Or (e :: es) pos) out μ' := by
  with_unfolding_all
  intro A env Fs h₀ Xr Y Xs s R E P K
  refine isTrue_or (h A env Fs h₀ Xr Y Xs s _ E P fun v h' tk x m D => ?_)
  subst D
  cases v with
  | false => exact r A env Fs h₀ Xr Y Xs _ R E (P.next x m) (K.seq (tk := tk) x)
  | true => obtain ⟨rfl, rfl⟩ := r; exact K _ _ _ x m rfl

theorem EvE.ite {test body orelse : Expr} {c : Bool} {out : Out PyData} (h : EvT S b sc δ μ test (.ok c) μ₁) (r : if c then EvE S b sc δ μ₁ body out μ' else EvE S b sc δ μ₁ orelse out μ') : EvE S b sc δ μ (.IfExp test body orelse pos) out μ' := by
  with_unfolding_all
  intro A env Fs h₀ Xr Y Xs s R E P K
  refine wpAny_IfExp (h A env Fs h₀ Xr Y Xs s _ E P fun v h' tk x m D => ?_)
  subst D
  cases v with
  | false => exact r A env Fs h₀ Xr Y Xs _ R E (P.next x m) (K.seq (tk := tk) x)
  | true => exact r A env Fs h₀ Xr Y Xs _ R E (P.next x m) (K.seq (tk := tk) x)

/-! and, or as values (of bools) -/
theorem boolOp_one {M : Model} {A : Around} {env : Env} {op : BoolOp} {Q E : Value → Shared → Prop} {s : Shared} (h : wpAny M A (eval e env) Q E s) : wpAny M A (eval (.BoolOp op [e] pos) env) Q E s := h
theorem boolOp_more {M : Model} {A : Around} {env : Env} {op : BoolOp} {e₂ : Expr} {Q E : Value → Shared → Prop} {s : Shared}
    (h : wpAny M A (eval e env) (fun v s₁ => wpAny M A (truthy v) (fun t s₂ => match op, t with | .And, false | .Or, true => Q v s₂ | _, _ => wpAny M A (eval (.BoolOp op (e₂ :: es) pos) env) Q E s₂) E s₁) E s) :
    wpAny M A (eval (.BoolOp op (e :: e₂ :: es) pos) env) Q E s := by
  show wpAny M A (do
    let v ← eval e env
    standAt pos
    let t ← holding [v] (truthy v)
    match op, t with
    | .And, false | .Or, true => pure v
    | _, _ => eval (.BoolOp op (e₂ :: es) pos) env) Q E s
  refine wpAny_bind (wpAny_mono h (fun v s₁ h₁ => wpAny_bind (wpAny_standAt (wpAny_bind (wpAny_holding (wpAny_mono h₁ (fun t s₂ h₂ => ?_) fun _ _ x => x))))) fun _ _ x => x)
  cases op <;> cases t <;> first | exact wpAny_pure h₂ | exact h₂
theorem EvE.bool1 {op : BoolOp} {out : Out PyData} (h : EvE S b sc δ μ e out μ') : EvE S b sc δ μ (.BoolOp op [e] pos) out μ' := by
 with_unfolding_all exact fun A env Fs h₀ Xr Y Xs s R E P K => boolOp_one (h A env Fs h₀ Xr Y Xs s R E P K)
theorem EvE.or {c : Bool} {e₂ : Expr} {out : Out PyData} (h : EvE S b sc δ μ e (.ok (.bool c)) μ₁) (r : if c then out = .ok (.bool true) ∧ μ' = μ₁ else EvE S b sc δ μ₁ (.BoolOp .Or (e₂ :: es) pos) out μ') : EvE S b sc δ μ (.BoolOp .Or (e :: e₂ :: es) pos) out μ' := by
  with_unfolding_all
  intro A env Fs h₀ Xr Y Xs s R E P K
  refine boolOp_more (h A env Fs h₀ Xr Y Xs s _ E P fun v h' tk x m D => ?_)
  have e := D.bool
  subst e
  refine wpAny_truthy_bool ?_
  cases c with
  | false => exact r A env Fs h₀ Xr Y Xs _ R E (P.next x m) (K.seq (tk := tk) x)
  | true => obtain ⟨rfl, rfl⟩ := r; exact K _ _ _ x m D
theorem EvE.and {c : Bool} {e₂ : Expr} {out : Out PyData} (h : EvE S b sc δ μ e (.ok (.bool c)) μ₁) (r : if c then EvE S b sc δ μ₁ (.BoolOp .And (e₂ :: es) pos) out μ' else out = .ok (.bool false) ∧ μ' = μ₁) : EvE S b sc δ μ (.BoolOp .And (e :: e₂ :: es) pos) out μ' := by
  with_unfolding_all
  intro A env Fs h₀ Xr Y Xs s R E P K
  refine boolOp_more (h A env Fs h₀ Xr Y Xs s _ E P fun v h' tk x m D => ?_)
  have e := D.bool
  subst e
  refine wpAny_truthy_bool ?_
  cases c with
  | true => exact r A env Fs h₀ Xr Y Xs _ R E (P.next x m) (K.seq (tk := tk) x)
  | false => obtain ⟨rfl, rfl⟩ := r; exact K _ _ _ x m D
end
end
section
variable [Pm]

theorem datasC {Y : List Addr} {h : Heap} {vs : List Value} {x : PyData} {xs : List PyData} (D : DatasIn Y h vs (x :: xs)) : ∃ a r, vs = a :: r ∧ DataIn Y h a x ∧ DatasIn Y h r xs := by
  cases vs with
  | nil => exact D.elim
  | cons a r => exact ⟨a, r, rfl, D.1, D.2⟩
theorem datas0 {Y : List Addr} {h : Heap} {vs : List Value} (D : DatasIn Y h vs []) : vs = [] := by
  cases vs with
  | nil => rfl
  | cons a r => exact D.elim
theorem datas1 {Y : List Addr} {h : Heap} {vs : List Value} {x : PyData} (D : DatasIn Y h vs [x]) : ∃ a, vs = [a] ∧ DataIn Y h a x :=
  let ⟨a, _, e, p, D⟩ := datasC D
  ⟨a, datas0 D ▸ e, p⟩
theorem datas2 {Y : List Addr} {h : Heap} {vs : List Value} {x y : PyData} (D : DatasIn Y h vs [x, y]) : ∃ a b, vs = [a, b] ∧ DataIn Y h a x ∧ DataIn Y h b y :=
  let ⟨a, _, e, p, D⟩ := datasC D
  let ⟨b, e', q⟩ := datas1 D
  ⟨a, b, e' ▸ e, p, q⟩
theorem DataIn.tup {Y : List Addr} {h : Heap} {v : Value} {ds : List PyData} (D : DataIn Y h v (.tuple ds)) : ∃ a items, v = .ref a ∧ IsTup h a items ∧ DatasIn Y h items.toList ds := by
  obtain ⟨as, r, ha⟩ := D
  cases r with
  | tuple e hc hd rs => exact ⟨_, _, rfl, ⟨_, e, hc, _, hd⟩, DatasIn.of_reads rs ha⟩
theorem DataIn.lst {Y : List Addr} {h : Heap} {v : Value} {ds : List PyData} (D : DataIn Y h v (.list ds)) : ∃ a items, v = .ref a ∧ h.IsList a items ∧ DatasIn Y h items.toList ds ∧ a ∉ Y := by
  obtain ⟨as, r, ha⟩ := D
  cases r with
  | list e hc hd rs => exact ⟨_, _, rfl, ⟨_, e, hc, _, hd⟩, DatasIn.of_reads rs fun a hm => ha a (.tail _ hm), ha _ (.head _)⟩
theorem DataIn.list {Y : List Addr} {h : Heap} {a : Addr} {items : Array Value} {ds : List PyData} (hl : h.IsList a items) (D : DatasIn Y h items.toList ds) (hn : a ∉ Y) : DataIn Y h (.ref a) (.list ds) := by
  refine byC fun hnC1 => ?_
  obtain ⟨o, e, hc, n, hd⟩ := hl
  obtain ⟨as, rs, ha⟩ := D.reads
  refine hnC1 ?_
  exact ⟨_, .list e hc hd rs, fun b hb => (List.mem_cons.mp hb).elim (fun q => q ▸ hn) (ha b)⟩
theorem DataIn.tuple {Y : List Addr} {h : Heap} {a : Addr} {items : Array Value} {ds : List PyData} (hl : IsTup h a items) (D : DatasIn Y h items.toList ds) : DataIn Y h (.ref a) (.tuple ds) := by
  refine byC fun hnC2 => ?_
  obtain ⟨o, e, hc, n, hd⟩ := hl
  obtain ⟨as, rs, ha⟩ := D.reads
  refine hnC2 ?_
  exact ⟨_, .tuple e hc hd rs, ha⟩
theorem DatasIn.strs {Y : List Addr} {h : Heap} : ∀ {vs : List Value} {ss : List Str}, DatasIn Y h vs (ss.map .str) → StrsAre vs ss
  | [], [], _ => .nil
  | _ :: _, _ :: _, ⟨a, r⟩ => by
    obtain ⟨t, rfl⟩ := a.str
    exact .cons _ _ (DatasIn.strs r)
  | [], _ :: _, x => x.elim
  | _ :: _, [], x => x.elim
theorem fresh_not {Y : List Addr} {h : Heap} (hY : ∀ a ∈ Y, ∃ o, h.get? a = some o) : h.objs.size ∉ Y := fun q => by
  obtain ⟨o, e⟩ := hY _ q
  exact absurd (Heap.lt_size e) (Nat.lt_irrefl _)
theorem DataIn.push {Y : List Addr} {h h' : Heap} {v : Value} {d : PyData} (D : DataIn Y h v d) (k : ∀ b o, h.get? b = some o → h'.get? b = some o) : DataIn Y h' v d :=
  D.sim (B := h) (Fs := []) (X := []) (.of_keeps k) fun _ q => nomatch q
theorem DatasIn.push {Y : List Addr} {h h' : Heap} {vs : List Value} {ds : List PyData} (D : DatasIn Y h vs ds) (k : ∀ b o, h.get? b = some o → h'.get? b = some o) : DatasIn Y h' vs ds := D.imp fun _ _ q => q.push k

theorem list_add_any {prog : Program} {w : World} {A : Around} {R E : Value → Shared → Prop} {s : Shared} {l m : Addr} {its its2 : Array Value} (hl : s.heap.IsList l its) (hm : s.heap.IsList m its2) (hsz : its.size + its2.size ≤ sizeLine)
    (k : R (.ref s.heap.objs.size) { s with heap := s.heap.push { cls := .type "list", data := .seq (its ++ its2) } }) : wpAny (model prog w) A (binaryOp .Add (.ref l) (.ref m)) R E s := by
  refine byC fun hnC3 => ?_
  obtain ⟨⟨c₁, d₁, b₁, s₁⟩, ho₁, hc₁, n₁, hd₁⟩ := hl
  obtain ⟨⟨c₂, d₂, b₂, s₂⟩, ho₂, hc₂, n₂, hd₂⟩ := hm
  refine hnC3 ?_
  simp only at hc₁ hd₁ hc₂ hd₂
  subst hc₁ hd₁ hc₂ hd₂
  exact concat_meets ⟨_, ho₁, rfl⟩ ⟨_, ho₂, rfl⟩ noFill_list_add seq_list_add PySem.F.slot_list_add PySem.F.entry_list_add (PySem.F.args_list_add_2 _ _) (list_addW l m its its2 n₁ n₂ d₁ d₂ s₁ s₂ hsz) ⟨ho₁, ho₂, k⟩

section
variable {S : St} {x y : PyData} {i j : Int} {a c : Str} {ds es : List PyData} {ss : List Str}

theorem prim_eq (hx : SeqAt.shaped x = true) (hy : SeqAt.shaped y = true) : Prim S (two (compareOp .Eq)) [x, y] (.bool (PyData.eqv x y)) := by
  with_unfolding_all
  intro A Y vs R E s hh hu hs hY D k
  refine byC fun hnC4 => ?_
  obtain ⟨v, w, rfl, ⟨as, p, _⟩, ⟨bs, q, _⟩⟩ := datas2 D
  refine hnC4 ?_
  exact eq_dataH p.py q.py hx hy (by omega) (k _ s.heap s.toks keepsSame dataBool)
theorem prim_ne (hx : SeqAt.shaped x = true) (hy : SeqAt.shaped y = true) : Prim S (two (compareOp .NotEq)) [x, y] (.bool (!PyData.eqv x y)) := by
  with_unfolding_all
  intro A Y vs R E s hh hu hs hY D k
  refine byC fun hnC5 => ?_
  obtain ⟨v, w, rfl, ⟨as, p, _⟩, ⟨bs, q, _⟩⟩ := datas2 D
  refine hnC5 ?_
  exact ne_dataH p.py q.py hx hy (by omega) (k _ s.heap s.toks keepsSame dataBool)
theorem prim_lt : Prim S (two (compareOp .Lt)) [.int i, .int j] (.bool (decide (i < j))) := by
  with_unfolding_all
  intro A Y vs R E s hh hu hs hY D k
  refine byC fun hnC6 => ?_
  obtain ⟨v, w, rfl, p, q⟩ := datas2 D
  obtain ⟨t, rfl⟩ := p.int; obtain ⟨t', rfl⟩ := q.int
  refine hnC6 ?_
  exact lt_int (k _ s.heap s.toks keepsSame dataBool)
theorem prim_le : Prim S (two (compareOp .LtE)) [.int i, .int j] (.bool (decide (i ≤ j))) := by
  with_unfolding_all
  intro A Y vs R E s hh hu hs hY D k
  refine byC fun hnC7 => ?_
  obtain ⟨v, w, rfl, p, q⟩ := datas2 D
  obtain ⟨t, rfl⟩ := p.int; obtain ⟨t', rfl⟩ := q.int
  refine hnC7 ?_
  exact le_int (k _ s.heap s.toks keepsSame dataBool)
theorem prim_gt : Prim S (two (compareOp .Gt)) [.int i, .int j] (.bool (decide (j < i))) := by
  with_unfolding_all
  intro A Y vs R E s hh hu hs hY D k
  refine byC fun hnC8 => ?_
  obtain ⟨v, w, rfl, p, q⟩ := datas2 D
  obtain ⟨t, rfl⟩ := p.int; obtain ⟨t', rfl⟩ := q.int
  refine hnC8 ?_
  exact gt_int (k _ s.heap s.toks keepsSame dataBool)
theorem prim_ge : Prim S (two (compareOp .GtE)) [.int i, .int j] (.bool (decide (j ≤ i))) := by
  with_unfolding_all
  intro A Y vs R E s hh hu hs hY D k
  refine byC fun hnC9 => ?_
  obtain ⟨v, w, rfl, p, q⟩ := datas2 D
  obtain ⟨t, rfl⟩ := p.int; obtain ⟨t', rfl⟩ := q.int
  refine hnC9 ?_
  exact ge_int (k _ s.heap s.toks keepsSame dataBool)
theorem prim_strle : Prim S (two (compareOp .LtE)) [.str a, .str c] (.bool (!(c.cps.toList < a.cps.toList))) := by
  with_unfolding_all
  intro A Y vs R E s hh hu hs hY D k
  refine byC fun hnC10 => ?_
  obtain ⟨v, w, rfl, p, q⟩ := datas2 D
  obtain ⟨t, rfl⟩ := p.str; obtain ⟨t', rfl⟩ := q.str
  refine hnC10 ?_
  exact PySem.P.le_str (k _ s.heap s.toks keepsSame dataBool)
theorem prim_instr : Prim S (two (compareOp .In)) [.str a, .str c] (.bool (Txt.contains c a)) := by
  with_unfolding_all
  intro A Y vs R E s hh hu hs hY D k
  refine byC fun hnC11 => ?_
  obtain ⟨v, w, rfl, p, q⟩ := datas2 D
  obtain ⟨t, rfl⟩ := p.str; obtain ⟨t', rfl⟩ := q.str
  refine hnC11 ?_
  exact PySem.SB.contains (k _ s.heap s.toks keepsSame dataBool)
theorem prim_intup : Prim S (two (compareOp .In)) [.str a, .tuple (ss.map .str)] (.bool (ss.any (· == a))) := by
  with_unfolding_all
  intro A Y vs R E s hh hu hs hY D k
  refine byC fun hnC12 => ?_
  obtain ⟨v, w, rfl, p, q⟩ := datas2 D
  obtain ⟨t, rfl⟩ := p.str; obtain ⟨l, items, rfl, hl, hi⟩ := q.tup
  refine hnC12 ?_
  exact in_tuple_strs hl hi.strs (k _ s.heap s.toks keepsSame dataBool)
theorem prim_nintup : Prim S (two (compareOp .NotIn)) [.str a, .tuple (ss.map .str)] (.bool (!(ss.any (· == a)))) := by
  with_unfolding_all
  intro A Y vs R E s hh hu hs hY D k
  refine byC fun hnC13 => ?_
  obtain ⟨v, w, rfl, p, q⟩ := datas2 D
  obtain ⟨t, rfl⟩ := p.str; obtain ⟨l, items, rfl, hl, hi⟩ := q.tup
  refine hnC13 ?_
  exact notin_tuple_strs hl hi.strs (k _ s.heap s.toks keepsSame dataBool)
noncomputable def isNone : PyData → Bool
  | .none => true
  | _ => false
theorem isNone_of {Y : List Addr} {h : Heap} {v : Value} (D : DataIn Y h v x) : (v == .none) = isNone x := by
  obtain ⟨as, r, _⟩ := D
  cases r <;> rfl
theorem prim_is : Prim S (two (compareOp .Is)) [x, .none] (.bool (isNone x)) := by
  with_unfolding_all
  intro A Y vs R E s hh hu hs hY D k
  refine byC fun hnC14 => ?_
  obtain ⟨v, w, rfl, p, q⟩ := datas2 D
  refine hnC14 ?_
  rw [q.none]
  exact PySem.is_none (isNone_of p ▸ k _ s.heap s.toks keepsSame dataBool)
theorem prim_isnt : Prim S (two (compareOp .IsNot)) [x, .none] (.bool (!isNone x)) := by
  with_unfolding_all
  intro A Y vs R E s hh hu hs hY D k
  refine byC fun hnC15 => ?_
  obtain ⟨v, w, rfl, p, q⟩ := datas2 D
  refine hnC15 ?_
  rw [q.none]
  exact PySem.isNot_none (isNone_of p ▸ k _ s.heap s.toks keepsSame dataBool)

theorem prim_add : Prim S (two (binaryOp .Add)) [.int i, .int j] (.int (i + j)) := by
  with_unfolding_all
  intro A Y vs R E s hh hu hs hY D k
  refine byC fun hnC16 => ?_
  obtain ⟨v, w, rfl, p, q⟩ := datas2 D
  obtain ⟨t, rfl⟩ := p.int; obtain ⟨t', rfl⟩ := q.int
  refine hnC16 ?_
  exact add_int (k _ s.heap _ keepsSame dataInt)
theorem prim_sub : Prim S (two (binaryOp .Sub)) [.int i, .int j] (.int (i - j)) := by
  with_unfolding_all
  intro A Y vs R E s hh hu hs hY D k
  refine byC fun hnC17 => ?_
  obtain ⟨v, w, rfl, p, q⟩ := datas2 D
  obtain ⟨t, rfl⟩ := p.int; obtain ⟨t', rfl⟩ := q.int
  refine hnC17 ?_
  exact sub_int (k _ s.heap _ keepsSame dataInt)
theorem prim_mul (h : IntMulOk i j) : Prim S (two (binaryOp .Mult)) [.int i, .int j] (.int (i * j)) := by
  with_unfolding_all
  intro A Y vs R E s hh hu hs hY D k
  refine byC fun hnC18 => ?_
  obtain ⟨v, w, rfl, p, q⟩ := datas2 D
  obtain ⟨t, rfl⟩ := p.int; obtain ⟨t', rfl⟩ := q.int
  refine hnC18 ?_
  exact mul_int (k _ s.heap _ keepsSame dataInt) h
theorem prim_mod (h : j ≠ 0) : Prim S (two (binaryOp .Mod)) [.int i, .int j] (.int (i.fmod j)) := by
  with_unfolding_all
  intro A Y vs R E s hh hu hs hY D k
  refine byC fun hnC19 => ?_
  obtain ⟨v, w, rfl, p, q⟩ := datas2 D
  obtain ⟨t, rfl⟩ := p.int; obtain ⟨t', rfl⟩ := q.int
  refine hnC19 ?_
  exact mod_int' h (k _ s.heap _ keepsSame dataInt)
theorem prim_div (h : j ≠ 0) (hp : Builtin.divisionGoesByPylong i j = false) : Prim S (two (binaryOp .FloorDiv)) [.int i, .int j] (.int (i.fdiv j)) := by
  with_unfolding_all
  intro A Y vs R E s hh hu hs hY D k
  refine byC fun hnC20 => ?_
  obtain ⟨v, w, rfl, p, q⟩ := datas2 D
  obtain ⟨t, rfl⟩ := p.int; obtain ⟨t', rfl⟩ := q.int
  refine hnC20 ?_
  exact floordiv_int h (k _ s.heap _ keepsSame dataInt) (.inl hp)
theorem prim_neg : Prim S (one (unaryOp .USub)) [.int i] (.int (-i)) := by
  with_unfolding_all
  intro A Y vs R E s hh hu hs hY D k
  refine byC fun hnC21 => ?_
  obtain ⟨v, rfl, p⟩ := datas1 D
  obtain ⟨t, rfl⟩ := p.int
  refine hnC21 ?_
  exact neg_int (k _ s.heap _ keepsSame dataInt)
theorem prim_cat (h : a.length + c.length ≤ sizeLine) : Prim S (two (binaryOp .Add)) [.str a, .str c] (.str (a ++ c)) := by
  with_unfolding_all
  intro A Y vs R E s hh hu hs hY D k
  refine byC fun hnC22 => ?_
  obtain ⟨v, w, rfl, p, q⟩ := datas2 D
  obtain ⟨t, rfl⟩ := p.str; obtain ⟨t', rfl⟩ := q.str
  refine hnC22 ?_
  exact PyProof.Rows.add_str (fun t' tk => k _ s.heap _ keepsSame dataStr) h
theorem prim_rep (h : MulOk a i) : Prim S (two (binaryOp .Mult)) [.str a, .int i] (.str (Txt.mul a i)) := by
  with_unfolding_all
  intro A Y vs R E s hh hu hs hY D k
  refine byC fun hnC23 => ?_
  obtain ⟨v, w, rfl, p, q⟩ := datas2 D
  obtain ⟨t, rfl⟩ := p.str; obtain ⟨t', rfl⟩ := q.int
  refine hnC23 ?_
  exact SB.mul h (fun t' tk => k _ s.heap _ keepsSame dataStr)
theorem prim_lists (h : ds.length + es.length ≤ sizeLine) : Prim S (two (binaryOp .Add)) [.list ds, .list es] (.list (ds ++ es)) := by
  with_unfolding_all
  intro A Y vs R E s hh hu hs hY D k
  refine byC fun hnC24 => ?_
  obtain ⟨v, w, rfl, p, q⟩ := datas2 D
  obtain ⟨l, its, rfl, hl, hd, _⟩ := p.lst
  obtain ⟨m, its2, rfl, hm, he, _⟩ := q.lst
  refine hnC24 ?_
  have z := hd.length
  have z2 := he.length
  have pu : ∀ o, ∀ b o', s.heap.get? b = some o' → (s.heap.push o).get? b = some o' := fun o b o' e => Heap.get?_push_of_some o e
  refine list_add_any hl hm ?_ ?_
  · rw [Array.length_toList] at z z2; omega
  · refine k _ _ s.toks (pu _) (.list ⟨_, Heap.get?_push_size _ rfl, rfl, _, rfl⟩ ?_ (fresh_not hY))
    simp only [Array.toList_append]
    exact (hd.append he).push (pu _)
end
end
section
variable [Pm]

noncomputable def noStar (es : List Expr) : Prop := ∀ env, starEach es env = es.map fun e => (false, eval e env)
theorem spliced_WEs {M : Model} {A : Around} {env : Env} {pos : Pos} {E : Value → Shared → Prop} : ∀ {es : List Expr} {Q : List Value → Shared → Prop} {s : Shared}, WEs M A env es Q E s →
    wpAny M A (spliced (backTo pos (es.map fun e => (false, eval e env)))) Q E s
  | [], _, _, h => wpAny_pure h
  | e :: r, Q, s, h => by
    show wpAny M A (do
      let v ← eval e env
      let here ← (pure [v] : Sem (List Value))
      return here ++ (← holding here (spliced (backTo pos (r.map fun e => (false, eval e env)))))) Q E s
    refine wpAny_bind (wpAny_mono h (fun v s₁ h₁ => ?_) fun _ _ x => x)
    refine wpAny_bind (wpAny_pure (wpAny_bind (wpAny_holding (wpAny_mono (spliced_WEs h₁) (fun vs s₂ h₂ => wpAny_pure h₂) fun _ _ x => x))))

section
variable {S : St} {b : Nat} {sc : Scope} {δ : List (Str × PyData)} {μ μ₁ μ' : List (Str × Mut)} {e l r value slice : Expr} {es : List Expr} {pos p : Pos} {d x y z : PyData} {u : Bool} {t : Str} {ds : List PyData} {i j : Int} {a c : Str}

theorem EvE.tup {k : Nat} (h : EvEs S b sc δ μ es (.ok ds) μ') (hs : noStar es := by intro _; rfl) (hz : ds.length ≤ sizeLine := by decide) : EvE S b sc δ μ (.Tuple es k pos) (.ok (.tuple ds)) μ' := by
  with_unfolding_all
  intro A env Fs h₀ Xr Y Xs s R E P K
  refine wpAny_Tuple ?_
  rw [hs env]
  refine spliced_WEs (h A env Fs h₀ Xr Y Xs s _ E P fun vs h' tk x m D => ?_)
  have pu : ∀ b o', h'.get? b = some o' → (h'.push { cls := .type "tuple", data := .seq vs.toArray }).get? b = some o' := fun b o' e => Heap.get?_push_of_some _ e
  refine ⟨by rw [D.length]; exact hz, ?_⟩
  have P' := P.next (tk := tk) x m
  refine (K.seq (tk := tk) x).keeps P' pu (.tuple ⟨_, Heap.get?_push_size _ rfl, rfl, _, rfl⟩ ?_)
  exact D.push pu
theorem EvE.tupX {k : Nat} (h : EvEs S b sc δ μ es (.exc u t) μ') (hs : noStar es := by intro _; rfl) : EvE S b sc δ μ (.Tuple es k pos) (.exc u t) μ' := by
  with_unfolding_all
  intro A env Fs h₀ Xr Y Xs s R E P K
  refine wpAny_Tuple ?_
  rw [hs env]
  exact spliced_WEs (h A env Fs h₀ Xr Y Xs s _ E P K)
theorem EvE.lst (h : EvEs S b sc δ μ es (.ok ds) μ') (hs : noStar es := by intro _; rfl) (hz : ds.length ≤ sizeLine := by decide) : EvE S b sc δ μ (.List es pos) (.ok (.list ds)) μ' := by
  with_unfolding_all
  intro A env Fs h₀ Xr Y Xs s R E P K
  refine wpAny_List ?_
  rw [hs env]
  refine spliced_WEs (h A env Fs h₀ Xr Y Xs s _ E P fun vs h' tk x m D => ?_)
  have pu : ∀ b o', h'.get? b = some o' → (h'.push { cls := .type "list", data := .seq vs.toArray }).get? b = some o' := fun b o' e => Heap.get?_push_of_some _ e
  refine ⟨by rw [D.length]; exact hz, ?_⟩
  have P' := P.next (tk := tk) x m
  refine (K.seq (tk := tk) x).keeps P' pu (.list ⟨_, Heap.get?_push_size _ rfl, rfl, _, rfl⟩ ?_ (fresh_not P'.alloc))
  exact D.push pu

/-! items -/
noncomputable def plainSlice (slice : Expr) : Prop := ∀ o i, subscripted slice false o i = operate [o, i] (getItem o i)
theorem EvE.sub (h : EvEs S b sc δ μ [value, slice] (.ok [x, y]) μ') (p : Prim S (two (subscriptTail value slice)) [x, y] d) : EvE S b sc δ μ (.Subscript value slice pos) (.ok d) μ' := by
  with_unfolding_all
  intro A env Fs h₀ Xr Y Xs s R E P K
  exact Subscript_ (h A env Fs h₀ Xr Y Xs s (fun vs s' => wpAny S.M A (two (subscriptTail value slice) vs) R E s') E P fun vs h' tk x m D => prim_use p P K x m D)
theorem prim_strAt (h0 : 0 ≤ i) (h1 : i < (a.length : Int)) (hf : i < 2 ^ 62) (hs : plainSlice slice := by intro _ _; rfl) : Prim S (two (subscriptTail value slice)) [.str a, .int i] (.str (Txt.item a i)) := by
  with_unfolding_all
  intro A Y vs R E s hh hu hst hY D k
  refine byC fun hnC1 => ?_
  obtain ⟨v, w, rfl, p, q⟩ := datas2 D
  obtain ⟨t, rfl⟩ := p.str; obtain ⟨t', rfl⟩ := q.int
  obtain ⟨T, id, hl, hT, hg⟩ := SB.item (prog := S.prog) (w := S.w) (A := A) (E := E) (s := s) (t := t) (u := t') (x := a) (i := i) (Q := R) (by simp [fitsSsize]; omega) (charAt_isSome (by omega) h1) (k _ s.heap _ keepsSame dataStr)
  refine hnC1 ?_
  exact tail_any hT hl hg (hs _ _)
theorem prim_tupAt {n : Nat} (h : ds[n]? = some d) (hi : i = n) (hf : n < 2 ^ 62) (hs : plainSlice slice := by intro _ _; rfl) : Prim S (two (subscriptTail value slice)) [.tuple ds, .int i] d := by
  with_unfolding_all
  intro A Y vs R E s hh hu hst hY D k
  refine byC fun hnC2 => ?_
  obtain ⟨v, w, rfl, p, q⟩ := datas2 D
  obtain ⟨a, items, rfl, hl, hd⟩ := p.tup; obtain ⟨t', rfl⟩ := q.int
  obtain ⟨x, hx, hX⟩ := hd.get h
  refine hnC2 ?_
  subst hi
  have hlen := (List.getElem?_eq_some_iff.mp hx).1
  rw [Array.length_toList] at hlen
  have hT : s.TypeIs (.ref a) "tuple" := by obtain ⟨o, e, hc, _⟩ := hl; exact ⟨o, e, hc⟩
  refine tail_any hT PySem.F.slot_tuple_getitem.lookup (getItem_tuple (j := n) hl (by omega) (by omega) ?_ (by rw [← Array.getElem?_toList]; exact hx) (k _ s.heap s.toks keepsSame hX)) (hs _ _)
  unfold seqIndex?
  simp only []
  have : ¬ ((n : Int) < 0) := by omega
  simp [this, hlen]
theorem prim_lstAt {n : Nat} (h : ds[n]? = some d) (hi : i = n) (hf : n < 2 ^ 62) (hs : plainSlice slice := by intro _ _; rfl) : Prim S (two (subscriptTail value slice)) [.list ds, .int i] d := by
  with_unfolding_all
  intro A Y vs R E s hh hu hst hY D k
  refine byC fun hnC3 => ?_
  obtain ⟨v, w, rfl, p, q⟩ := datas2 D
  obtain ⟨a, items, rfl, hl, hd, _⟩ := p.lst; obtain ⟨t', rfl⟩ := q.int
  obtain ⟨x, hx, hX⟩ := hd.get h
  refine hnC3 ?_
  subst hi
  exact tail_any hl.typeIs list_getitem_lookup (wpAny_getItem_list hl (by omega) (by omega) (by rw [← Array.getElem?_toList]; simpa using hx) (k _ s.heap s.toks keepsSame hX)) (hs _ _)

/-! slices -/
noncomputable def plainBase (value : Expr) : Prop := ∀ o r, letTemporaryGo value o r = pure ()
theorem EvE.strNS (h : EvEs S b sc δ μ [value, r] (.ok [.str a, .int j]) μ') (hz : a.length ≤ sizeLine) (ht : plainBase value := by intro _ _; rfl) :
    EvE S b sc δ μ (.Subscript value (.Slice none (some r) none p) pos) (.ok (.str (Txt.slice a none (some j)))) μ' := by
  with_unfolding_all
  intro A env Fs h₀ Xr Y Xs s R E P K
  have q := h A env Fs h₀ Xr Y Xs s (fun vs s₃ => ∃ o vu, vs = [o, vu] ∧ ∃ x t l u, o = .str x t ∧ Value.none = partValue l ∧ vu = partValue u ∧ (sliceMade x t l u none).post R { s₃ with heap := s₃.heap.push { cls := .type "slice", data := .fields #[.none, vu, .none] } }) E P fun vs h' tk x m D => ?_
  · refine wpAny_Subscript_str_slice (wpAny_mono q (fun o s₁ h₁ => wpAny_pure (wpAny_mono h₁ (fun vu s₃ h₃ => ?_) fun _ _ x => x)) fun _ _ x => x) ht
    refine byC fun hnC4 => ?_
    obtain ⟨o', vu', e, w⟩ := h₃
    refine hnC4 ?_
    cases e
    refine byC fun hnC5 => ?_
    obtain ⟨x, t, l, u, e1, e2, e3, w⟩ := w
    refine hnC5 ?_
    exact ⟨x, t, l, u, e1, e2, e3, w⟩
  · obtain ⟨v, w, rfl, p, q⟩ := datas2 D
    obtain ⟨t, rfl⟩ := p.str; obtain ⟨t', rfl⟩ := q.int
    have P' := P.next (tk := tk) x m
    exact ⟨_, _, rfl, a, t, none, some (j, t'), rfl, rfl, rfl, post_val_or_str ⟨Nat.le_trans (Txt.slice_le a _ _) hz, fun t'' k => (K.seq (tk := tk) x).keeps P' (fun b o' e => Heap.get?_push_of_some _ e) dataStr⟩⟩
theorem EvE.strSN (h : EvEs S b sc δ μ [value, l] (.ok [.str a, .int i]) μ') (hz : a.length ≤ sizeLine) (ht : plainBase value := by intro _ _; rfl) :
    EvE S b sc δ μ (.Subscript value (.Slice (some l) none none p) pos) (.ok (.str (Txt.slice a (some i) none))) μ' := by
  with_unfolding_all
  intro A env Fs h₀ Xr Y Xs s R E P K
  have q := h A env Fs h₀ Xr Y Xs s (fun vs s₃ => ∃ o vu, vs = [o, vu] ∧ ∃ x t l u, o = .str x t ∧ vu = partValue l ∧ Value.none = partValue u ∧ (sliceMade x t l u none).post R { s₃ with heap := s₃.heap.push { cls := .type "slice", data := .fields #[vu, .none, .none] } }) E P fun vs h' tk x m D => ?_
  · refine wpAny_Subscript_str_slice (wpAny_mono q (fun o s₁ h₁ => wpAny_mono h₁ (fun vu s₃ h₃ => wpAny_pure ?_) fun _ _ x => x) fun _ _ x => x) ht
    refine byC fun hnC6 => ?_
    obtain ⟨o', vu', e, w⟩ := h₃
    refine hnC6 ?_
    cases e
    refine byC fun hnC7 => ?_
    obtain ⟨x, t, l, u, e1, e2, e3, w⟩ := w
    refine hnC7 ?_
    exact ⟨x, t, l, u, e1, e2, e3, w⟩
  · obtain ⟨v, w, rfl, p, q⟩ := datas2 D
    obtain ⟨t, rfl⟩ := p.str; obtain ⟨t', rfl⟩ := q.int
    have P' := P.next (tk := tk) x m
    exact ⟨_, _, rfl, a, t, some (i, t'), none, rfl, rfl, rfl, post_val_or_str ⟨Nat.le_trans (Txt.slice_le a _ _) hz, fun t'' k => (K.seq (tk := tk) x).keeps P' (fun b o' e => Heap.get?_push_of_some _ e) dataStr⟩⟩
theorem datas3 {Y : List Addr} {h : Heap} {vs : List Value} {x y z : PyData} (D : DatasIn Y h vs [x, y, z]) : ∃ a b c, vs = [a, b, c] ∧ DataIn Y h a x ∧ DataIn Y h b y ∧ DataIn Y h c z :=
  let ⟨a, _, e, p, D⟩ := datasC D
  let ⟨b, c, e', q, r⟩ := datas2 D
  ⟨a, b, c, e' ▸ e, p, q, r⟩
theorem EvE.strSS (h : EvEs S b sc δ μ [value, l, r] (.ok [.str a, .int i, .int j]) μ') (hz : a.length ≤ sizeLine) (ht : plainBase value := by intro _ _; rfl) :
    EvE S b sc δ μ (.Subscript value (.Slice (some l) (some r) none p) pos) (.ok (.str (Txt.slice a (some i) (some j)))) μ' := by
  with_unfolding_all
  intro A env Fs h₀ Xr Y Xs s R E P K
  have q := h A env Fs h₀ Xr Y Xs s (fun vs s₃ => ∃ o vl vu, vs = [o, vl, vu] ∧ ∃ x t l u, o = .str x t ∧ vl = partValue l ∧ vu = partValue u ∧ (sliceMade x t l u none).post R { s₃ with heap := s₃.heap.push { cls := .type "slice", data := .fields #[vl, vu, .none] } }) E P fun vs h' tk x m D => ?_
  · refine wpAny_Subscript_str_slice (wpAny_mono q (fun o s₁ h₁ => wpAny_mono h₁ (fun vl s₂ h₂ => wpAny_mono h₂ (fun vu s₃ h₃ => ?_) fun _ _ x => x) fun _ _ x => x) fun _ _ x => x) ht
    refine byC fun hnC8 => ?_
    obtain ⟨o', vl', vu', e, w⟩ := h₃
    refine hnC8 ?_
    cases e
    refine byC fun hnC9 => ?_
    obtain ⟨x, t, l, u, e1, e2, e3, w⟩ := w
    refine hnC9 ?_
    exact ⟨x, t, l, u, e1, e2, e3, w⟩
  · obtain ⟨v, w, w', rfl, p, q, q'⟩ := datas3 D
    obtain ⟨t, rfl⟩ := p.str; obtain ⟨t', rfl⟩ := q.int; obtain ⟨t₂, rfl⟩ := q'.int
    have P' := P.next (tk := tk) x m
    exact ⟨_, _, _, rfl, a, t, some (i, t'), some (j, t₂), rfl, rfl, rfl, post_val_or_str ⟨Nat.le_trans (Txt.slice_le a _ _) hz, fun t'' k => (K.seq (tk := tk) x).keeps P' (fun b o' e => Heap.get?_push_of_some _ e) dataStr⟩⟩

noncomputable def pick (ds : List PyData) (lo hi : Option Int) : List PyData := (sliceRange (sliceBounds lo hi none ds.length).1 (sliceBounds lo hi none ds.length).2.1 (sliceBounds lo hi none ds.length).2.2).filterMap (ds[·]?)
theorem DatasIn.pick {Y : List Addr} {h : Heap} {vs : List Value} {ds : List PyData} (D : DatasIn Y h vs ds) : ∀ ix : List Nat, DatasIn Y h (ix.filterMap (vs[·]?)) (ix.filterMap (ds[·]?))
  | [] => trivial
  | n :: ix => by
    have ih := DatasIn.pick D ix
    cases e : ds[n]? with
    | none =>
      have e' : vs[n]? = none := by rw [List.getElem?_eq_none_iff] at e ⊢; rw [D.length]; exact e
      simpa [List.filterMap_cons, e, e'] using ih
    | some d =>
      obtain ⟨v, hv, hD⟩ := D.get e
      simp only [List.filterMap_cons, e, hv]
      exact ⟨hD, ih⟩
theorem slice_data {Y : List Addr} {h : Heap} {items : Array Value} (D : DatasIn Y h items.toList ds) (lo hi : Option Int) : DatasIn Y h (slicePick items lo hi none).toList (pick ds lo hi) := by
  have z := D.length
  rw [Array.length_toList] at z
  have q := D.pick (sliceRange (sliceBounds lo hi none ds.length).1 (sliceBounds lo hi none ds.length).2.1 (sliceBounds lo hi none ds.length).2.2)
  unfold slicePick Mine.pick
  rw [z]
  simpa [Array.getElem?_toList] using q
theorem slice_list {A : Around} {env : Env} {Fs : List Addr} {h₀ : Heap} {Xr Y : List Addr} {Xs : List (List Addr)} {s₃ : Shared} {R E : Value → Shared → Prop} {vl vu : Value} {lo hi : Option Int} {v : Value} (P' : Pre S b sc A env Fs h₀ Xr Y Xs δ μ' s₃) (K : Kn S Fs Y env Xs μ' DataIn s₃ (.ok (.list (pick ds lo hi))) R E)
    (D : DataIn Y s₃.heap v (.list ds)) (hz : ds.length ≤ sizeLine) (pl : IsPart vl lo) (pu : IsPart vu hi) :
    ∃ l items lo hi, v = .ref l ∧ s₃.heap.IsList l items ∧ items.size ≤ sizeLine ∧ IsPart vl lo ∧ IsPart vu hi ∧
        R (.ref (s₃.heap.objs.size + 1)) { s₃ with heap := (s₃.heap.push { cls := .type "slice", data := .fields #[vl, vu, .none] }).push { cls := .type "list", data := .seq (slicePick items lo hi none) } } := by
  refine byC fun hnC10 => ?_
  obtain ⟨l, items, rfl, hl, hd, _⟩ := D.lst
  refine hnC10 ?_
  have z := hd.length
  rw [Array.length_toList] at z
  refine ⟨l, items, lo, hi, rfl, hl, by omega, pl, pu, ?_⟩
  have k1 : ∀ b o', s₃.heap.get? b = some o' → (s₃.heap.push { cls := .type "slice", data := .fields #[vl, vu, .none] }).get? b = some o' := fun b o' e => Heap.get?_push_of_some _ e
  have k2 : ∀ b o', s₃.heap.get? b = some o' → ((s₃.heap.push { cls := .type "slice", data := .fields #[vl, vu, .none] }).push { cls := .type "list", data := .seq (slicePick items lo hi none) }).get? b = some o' := fun b o' e => Heap.get?_push_of_some _ (k1 b o' e)
  have al : ∀ a ∈ Y, ∃ o, (s₃.heap.push { cls := .type "slice", data := .fields #[vl, vu, .none] }).get? a = some o := fun a q => let ⟨o, e⟩ := P'.alloc a q; ⟨o, k1 _ _ e⟩
  have sz : (s₃.heap.push { cls := .type "slice", data := .fields #[vl, vu, .none] }).objs.size = s₃.heap.objs.size + 1 := Heap.size_push _ _
  have e := Heap.get?_push_size (s₃.heap.push { cls := .type "slice", data := .fields #[vl, vu, .none] }) (o := { cls := .type "list", data := .seq (slicePick items lo hi none) }) rfl
  have f := fresh_not al
  rw [sz] at e f
  exact K.keeps P' (tk := s₃.toks) k2 (.list ⟨_, e, rfl, _, rfl⟩ ((slice_data hd lo hi).push k2) f)
theorem EvE.lstNS (h : EvEs S b sc δ μ [value, r] (.ok [.list ds, .int j]) μ') (hz : ds.length ≤ sizeLine) (ht : plainBase value := by intro _ _; rfl) :
    EvE S b sc δ μ (.Subscript value (.Slice none (some r) none p) pos) (.ok (.list (pick ds none (some j)))) μ' := by
  with_unfolding_all
  intro A env Fs h₀ Xr Y Xs s R E P K
  have q := h A env Fs h₀ Xr Y Xs s (fun vs s₃ => ∃ o vu, vs = [o, vu] ∧ ∃ l items lo hi, o = .ref l ∧ s₃.heap.IsList l items ∧ items.size ≤ sizeLine ∧ IsPart .none lo ∧ IsPart vu hi ∧
        R (.ref (s₃.heap.objs.size + 1)) { s₃ with heap := (s₃.heap.push { cls := .type "slice", data := .fields #[.none, vu, .none] }).push { cls := .type "list", data := .seq (slicePick items lo hi none) } }) E P fun vs h' tk x m D => ?_
  · refine wpAny_Subscript_list_slice (wpAny_mono q (fun o s₁ h₁ => wpAny_pure (wpAny_mono h₁ (fun vu s₃ h₃ => ?_) fun _ _ x => x)) fun _ _ x => x) ht
    refine byC fun hnC11 => ?_
    obtain ⟨o', vu', e, w⟩ := h₃
    refine hnC11 ?_
    cases e
    exact w
  · obtain ⟨v, w, rfl, p, q⟩ := datas2 D
    obtain ⟨t', rfl⟩ := q.int
    exact ⟨_, _, rfl, slice_list (P.next (tk := tk) x m) (K.seq (tk := tk) x) p hz .none (.int _ _)⟩
theorem EvE.lstSN (h : EvEs S b sc δ μ [value, l] (.ok [.list ds, .int i]) μ') (hz : ds.length ≤ sizeLine) (ht : plainBase value := by intro _ _; rfl) :
    EvE S b sc δ μ (.Subscript value (.Slice (some l) none none p) pos) (.ok (.list (pick ds (some i) none))) μ' := by
  with_unfolding_all
  intro A env Fs h₀ Xr Y Xs s R E P K
  have q := h A env Fs h₀ Xr Y Xs s (fun vs s₃ => ∃ o vu, vs = [o, vu] ∧ ∃ l items lo hi, o = .ref l ∧ s₃.heap.IsList l items ∧ items.size ≤ sizeLine ∧ IsPart vu lo ∧ IsPart .none hi ∧
        R (.ref (s₃.heap.objs.size + 1)) { s₃ with heap := (s₃.heap.push { cls := .type "slice", data := .fields #[vu, .none, .none] }).push { cls := .type "list", data := .seq (slicePick items lo hi none) } }) E P fun vs h' tk x m D => ?_
  · refine wpAny_Subscript_list_slice (wpAny_mono q (fun o s₁ h₁ => wpAny_mono h₁ (fun vu s₃ h₃ => wpAny_pure ?_) fun _ _ x => x) fun _ _ x => x) ht
    refine byC fun hnC12 => ?_
    obtain ⟨o', vu', e, w⟩ := h₃
    refine hnC12 ?_
    cases e
    exact w
  · obtain ⟨v, w, rfl, p, q⟩ := datas2 D
    obtain ⟨t', rfl⟩ := q.int
    exact ⟨_, _, rfl, slice_list (P.next (tk := tk) x m) (K.seq (tk := tk) x) p hz (.int _ _) .none⟩
theorem EvE.lstSS (h : EvEs S b sc δ μ [value, l, r] (.ok [.list ds, .int i, .int j]) μ') (hz : ds.length ≤ sizeLine) (ht : plainBase value := by intro _ _; rfl) :
    EvE S b sc δ μ (.Subscript value (.Slice (some l) (some r) none p) pos) (.ok (.list (pick ds (some i) (some j)))) μ' := by
  with_unfolding_all
  intro A env Fs h₀ Xr Y Xs s R E P K
  have q := h A env Fs h₀ Xr Y Xs s (fun vs s₃ => ∃ o vl vu, vs = [o, vl, vu] ∧ ∃ l items lo hi, o = .ref l ∧ s₃.heap.IsList l items ∧ items.size ≤ sizeLine ∧ IsPart vl lo ∧ IsPart vu hi ∧
        R (.ref (s₃.heap.objs.size + 1)) { s₃ with heap := (s₃.heap.push { cls := .type "slice", data := .fields #[vl, vu, .none] }).push { cls := .type "list", data := .seq (slicePick items lo hi none) } }) E P fun vs h' tk x m D => ?_
  · refine wpAny_Subscript_list_slice (wpAny_mono q (fun o s₁ h₁ => wpAny_mono h₁ (fun vl s₂ h₂ => wpAny_mono h₂ (fun vu s₃ h₃ => ?_) fun _ _ x => x) fun _ _ x => x) fun _ _ x => x) ht
    refine byC fun hnC13 => ?_
    obtain ⟨o', vl', vu', e, w⟩ := h₃
    refine hnC13 ?_
    cases e
    exact w
  · obtain ⟨v, w, w', rfl, p, q, q'⟩ := datas3 D
    obtain ⟨t', rfl⟩ := q.int; obtain ⟨t₂, rfl⟩ := q'.int
    exact ⟨_, _, _, rfl, slice_list (P.next (tk := tk) x m) (K.seq (tk := tk) x) p hz (.int _ _) (.int _ _)⟩
end
end
section
variable [Pm]

structure St.Ok (S : St) : Prop where
  g : S.B.Ns mainGlobals S.mg
  b : S.B.Ns builtinsNs S.mb
  nolimit : S.B.NoLimit
  hp : S.w.params = Pm.p
  sm : ∃ o, S.B.get? sysModules = some o

section
variable {S : St} {b : Nat} {sc : Scope} {δ : List (Str × PyData)} {μ μ₁ μ' : List (Str × Mut)} {e l r o value slice : Expr} {es : List Expr} {pos p np apos : Pos} {d x y z : PyData} {u : Bool} {t : Str} {ds : List PyData} {i j : Int} {a c n name : Str} {id T : String} {xs : List Int} {ss : List Str}

theorem St.Ok.builtin (O : S.Ok) {A : Around} {env : Env} {Fs : List Addr} {h₀ : Heap} {Xr Y : List Addr} {Xs : List (List Addr)} {s : Shared} (P : Pre S b sc A env Fs h₀ Xr Y Xs δ μ s) {Q E : Value → Shared → Prop} {v : Value}
    (hn : S.mg n = none) (hb : S.mb n = some v) (hk : sc.names.lookup n = some .globalImplicit) (h : Q v s) (hd : (n == ("__debug__" : Str)) = false := by decide) : wpAny S.M A (eval (.Name n np) env) Q E s := by
  refine Name_function_global P.sk (by unfold Env.kindOf; rw [P.sco]; exact hk) (loadGlobal_builtin (mg := S.mg) (mb := S.mb) ?_ hn ?_ hb h) hd
  · rw [P.globals]; exact O.g.keeps P.stat
  · rw [P.builtins]; exact O.b.keeps P.stat
theorem St.Ok.global (O : S.Ok) {A : Around} {env : Env} {Fs : List Addr} {h₀ : Heap} {Xr Y : List Addr} {Xs : List (List Addr)} {s : Shared} (P : Pre S b sc A env Fs h₀ Xr Y Xs δ μ s) {Q E : Value → Shared → Prop} {v : Value}
    (hn : S.mg n = some v) (hk : sc.names.lookup n = some .globalImplicit) (h : Q v s) (hd : (n == ("__debug__" : Str)) = false := by decide) : wpAny S.M A (eval (.Name n np) env) Q E s := by
  refine Name_function_global P.sk (by unfold Env.kindOf; rw [P.sco]; exact hk) (loadGlobal_global (mg := S.mg) ?_ hn h) hd
  rw [P.globals]; exact O.g.keeps P.stat

/-- a datum of the top's -/
noncomputable def St.D (S : St) (n : Str) (d : PyData) : Prop := ∃ v as, S.mg n = some v ∧ Reads S.B v d as
theorem EvE.glob (O : S.Ok) (h : S.D n d) (hk : sc.names.lookup n = some .globalImplicit) (hd : (n == ("__debug__" : Str)) = false := by decide) : EvE S b sc δ μ (.Name n np) (.ok d) μ := by
  with_unfolding_all
  intro A env Fs h₀ Xr Y Xs s R E P K
  refine byC fun hnC1 => ?_
  obtain ⟨v, as, hn, r⟩ := h
  refine hnC1 ?_
  have r' : Reads s.heap v d as := reads_sim (B := S.B) (Fs := []) (X := []) (.of_keeps P.stat) r fun _ _ => ⟨List.not_mem_nil, List.not_mem_nil⟩
  refine O.global P hn hk (K.keeps P (tk := s.toks) keepsSame ⟨as, r', fun a hm hY => ?_⟩) hd
  obtain ⟨o, ho⟩ := reads_alloc r a hm
  rw [P.yB a hY] at ho
  cases ho

theorem noStar_head {e : Expr} {es : List Expr} (hs : noStar (e :: es)) (env : Env) : starEach (e :: es) env = (false, eval e env) :: starEach es env := by
  have q := hs env
  cases e <;> first | rfl | exact absurd (congrArg (fun l => l.head?.map (·.1)) q) (by simp [starEach])
theorem noStar_plain {e : Expr} {es : List Expr} (hs : noStar (e :: es)) (env : Env) : (backTo pos (starEach es env)).any (·.1) = false := by
  rw [(List.cons.inj ((noStar_head hs env).symm.trans (hs env))).2]
  unfold backTo
  rw [List.map_map, List.any_map]
  exact List.any_eq_false.mpr fun _ _ => Bool.false_ne_true
/-! built-in functions and types -/
theorem EvE.callB (O : S.Ok) (hn : S.mg n = none) (hb : S.mb n = some (.builtin id)) (hk : sc.names.lookup n = some .globalImplicit) (h : EvEs S b sc δ μ (e :: es) (.ok ds) μ') (p : Prim S (fun vs => call (.builtin id) vs) ds d)
    (hs : noStar (e :: es) := by intro _; rfl) (hd : (n == ("__debug__" : Str)) = false := by decide) : EvE S b sc δ μ (.Call (.Name n np) (e :: es) [] pos) (.ok d) μ' := by
  with_unfolding_all
  intro A env Fs h₀ Xr Y Xs s R E P K
  refine wpAny_Call_Name_kw (O.builtin P hn hb hk ?_ hd)
  have hs' := hs env
  refine callWith_builtin1 ?_ (noStar_head hs env) (noStar_plain hs env)
  rw [hs']
  exact spliced_WEs (h A env Fs h₀ Xr Y Xs s (fun vs s' => wpAny S.M A (call (.builtin id) vs) R E s') E P fun vs h' tk x m D => prim_use p P K x m D)
theorem EvE.callT (O : S.Ok) (hn : S.mg n = none) (hb : S.mb n = some (.type T)) (hk : sc.names.lookup n = some .globalImplicit) (h : EvEs S b sc δ μ (e :: es) (.ok ds) μ') (p : Prim S (fun vs => call (.type T) vs) ds d)
    (hs : noStar (e :: es) := by intro _; rfl) (hd : (n == ("__debug__" : Str)) = false := by decide) : EvE S b sc δ μ (.Call (.Name n np) (e :: es) [] pos) (.ok d) μ' := by
  with_unfolding_all
  intro A env Fs h₀ Xr Y Xs s R E P K
  refine wpAny_Call_Name_kw (O.builtin P hn hb hk ?_ hd)
  have hs' := hs env
  refine callWith_type1 ?_ (noStar_head hs env) (noStar_plain hs env)
  rw [hs']
  exact spliced_WEs (h A env Fs h₀ Xr Y Xs s (fun vs s' => wpAny S.M A (call (.type T) vs) R E s') E P fun vs h' tk x m D => prim_use p P K x m D)

theorem prim_lenS (h : a.length < 2 ^ 62) : Prim S (fun vs => call (.builtin "len") vs) [.str a] (.int a.length) := by
  with_unfolding_all
  intro A Y vs R E s hh hu hst hY D k
  refine byC fun hnC2 => ?_
  obtain ⟨v, rfl, p⟩ := datas1 D
  obtain ⟨t, rfl⟩ := p.str
  refine hnC2 ?_
  exact PySem.P.len_str (by omega) (k _ s.heap _ keepsSame dataInt)
theorem prim_lenL (h : ds.length < 2 ^ 62) : Prim S (fun vs => call (.builtin "len") vs) [.list ds] (.int ds.length) := by
  with_unfolding_all
  intro A Y vs R E s hh hu hst hY D k
  refine byC fun hnC3 => ?_
  obtain ⟨v, rfl, p⟩ := datas1 D
  obtain ⟨l, items, rfl, hl, hd, _⟩ := p.lst
  refine hnC3 ?_
  have z := hd.length
  rw [Array.length_toList] at z
  exact len_list hl (by omega) (k _ s.heap _ keepsSame (by rw [← z]; exact dataInt))
theorem prim_lenT (h : ds.length < 2 ^ 62) : Prim S (fun vs => call (.builtin "len") vs) [.tuple ds] (.int ds.length) := by
  with_unfolding_all
  intro A Y vs R E s hh hu hst hY D k
  refine byC fun hnC4 => ?_
  obtain ⟨v, rfl, p⟩ := datas1 D
  obtain ⟨l, items, rfl, hl, hd⟩ := p.tup
  refine hnC4 ?_
  have z := hd.length
  rw [Array.length_toList] at z
  exact PyProof.Rows.len_tuple hl (by omega) (k _ s.heap _ keepsSame (by rw [← z]; exact dataInt))
theorem prim_chr (h0 : 0 ≤ i) (h1 : i ≤ 0x10FFFF) : Prim S (fun vs => call (.builtin "chr") vs) [.int i] (.str ⟨#[i.toNat]⟩) := by
  with_unfolding_all
  intro A Y vs R E s hh hu hst hY D k
  refine byC fun hnC5 => ?_
  obtain ⟨v, rfl, p⟩ := datas1 D
  obtain ⟨t, rfl⟩ := p.int
  refine hnC5 ?_
  exact PySem.P.chr_of_int (by simp; omega) (k _ s.heap _ keepsSame dataStr)
theorem prim_ord (h : a.length = 1) : Prim S (fun vs => call (.builtin "ord") vs) [.str a] (.int (a.cps.getD 0 0 : Nat)) := by
  with_unfolding_all
  intro A Y vs R E s hh hu hst hY D k
  refine byC fun hnC6 => ?_
  obtain ⟨v, rfl, p⟩ := datas1 D
  obtain ⟨t, rfl⟩ := p.str
  refine hnC6 ?_
  exact ord_of_one h (k _ s.heap _ keepsSame dataInt)
theorem prim_abs : Prim S (fun vs => call (.builtin "abs") vs) [.int i] (.int (if i < 0 then -i else i)) := by
  with_unfolding_all
  intro A Y vs R E s hh hu hst hY D k
  refine byC fun hnC7 => ?_
  obtain ⟨v, rfl, p⟩ := datas1 D
  obtain ⟨t, rfl⟩ := p.int
  refine hnC7 ?_
  exact call_abs_int fun u tk => k _ s.heap _ keepsSame dataInt
theorem prim_str (h : i.natAbs.log2 < 1920) : Prim S (fun vs => call (.type "str") vs) [.int i] (.str (toString i : String)) := by
  with_unfolding_all
  intro A Y vs R E s hh hu hst hY D k
  refine byC fun hnC8 => ?_
  obtain ⟨v, rfl, p⟩ := datas1 D
  obtain ⟨t, rfl⟩ := p.int
  refine hnC8 ?_
  exact PySem.P.str_of_int h (k _ s.heap _ keepsSame dataStr)
theorem ints_items {Y : List Addr} {h : Heap} : ∀ {vs : List Value} {xs : List Int}, DatasIn Y h vs (xs.map .int) → ∃ ps : List (Int × Tok), vs = ps.map (fun p => .int p.1 p.2) ∧ ps.map (·.1) = xs
  | [], [], _ => ⟨[], rfl, rfl⟩
  | _ :: _, _ :: _, ⟨a, r⟩ => by
    refine byC fun hnC9 => ?_
    obtain ⟨t, rfl⟩ := a.int
    obtain ⟨ps, e1, e2⟩ := ints_items r
    refine hnC9 ?_
    exact ⟨(_, t) :: ps, by rw [e1]; rfl, by rw [List.map_cons, e2]⟩
  | [], _ :: _, x => x.elim
  | _ :: _, [], x => x.elim
theorem prim_sum : Prim S (fun vs => call (.builtin "sum") vs) [.list (xs.map .int)] (.int xs.sum) := by
  with_unfolding_all
  intro A Y vs R E s hh hu hst hY D k
  refine byC fun hnC10 => ?_
  obtain ⟨v, rfl, p⟩ := datas1 D
  obtain ⟨l, items, rfl, hl, hd, _⟩ := p.lst
  obtain ⟨ps, e1, e2⟩ := ints_items hd
  refine hnC10 ?_
  have e : items = intItems ps.toArray := by
    apply Array.ext'
    rw [e1]
    simp [intItems]
  rw [e] at hl
  refine sum_intListG hh hl fun h' tk t' hk => k _ h' tk hk ?_
  rw [preSum_eq]
  simp only [List.size_toArray, e2]
  rw [List.take_of_length_le (by rw [← e2]; simp)]
  exact dataInt

/-! methods of strs -/
theorem EvE.meth1 {pl : Env → Sem Bool} (ho : EvE S b sc δ μ o (.ok (.str a)) μ₁) (h : EvE S b sc δ μ₁ e (.ok y) μ') (p : Prim S (fun vs => call (.builtin id) vs) [.str a, y] d)
    (hg : ∀ (A : Around) (t : Tok) (pl : Sem Bool) (E : Value → Shared → Prop) (Q : Value × List Value → Shared → Prop) (s : Shared), Q (.builtin id, [.str a t]) s → wpAny S.M A (getMethod (.str a t) name pl) Q E s)
    (he : ∀ env, eval (.Call (.Attribute o name apos) [e] [] pos) env = (do
      let ov ← eval o env
      standAt apos.atName
      let (f, first) ← holding [ov] (getMethod ov name (pl env))
      callWith pos f first (backTo pos (starEach [e] env)) []) := by intro _; rfl)
    (hs : noStar [e] := by intro _; rfl) : EvE S b sc δ μ (.Call (.Attribute o name apos) [e] [] pos) (.ok d) μ' := by
  with_unfolding_all
  intro A env Fs h₀ Xr Y Xs s R E P K
  refine MethodCall_ (ho A env Fs h₀ Xr Y Xs s _ E P fun ov h₁ tk x m D => ?_) (he env)
  obtain ⟨t, rfl⟩ := D.str
  refine hg _ _ _ _ _ _ ?_
  have P₁ := P.next (tk := tk) x m
  have hst : starEach [e] env = (false, eval e env) :: starEach [] env := hs env
  refine callWith_method1 ?_ hst
  rw [hst]
  refine spliced_WEs (es := [e]) (h A env Fs h₀ Xr Y Xs _ _ E P₁ fun v h₂ tk₂ x₂ m₂ D₂ => ?_)
  exact prim_use (vs := [.str a t, v]) p P₁ (K.seq (tk := tk) x) x₂ m₂ ⟨dataStr, D₂, trivial⟩

theorem gm_find (S : St) (a : Str) : ∀ (A : Around) (t : Tok) (pl : Sem Bool) (E : Value → Shared → Prop) (Q : Value × List Value → Shared → Prop) (s : Shared), Q (.builtin "str.find", [.str a t]) s → wpAny S.M A (getMethod (.str a t) "find" pl) Q E s :=
  fun _ _ _ _ _ _ h => PySem.GM.find h
theorem gm_join (S : St) (a : Str) : ∀ (A : Around) (t : Tok) (pl : Sem Bool) (E : Value → Shared → Prop) (Q : Value × List Value → Shared → Prop) (s : Shared), Q (.builtin "str.join", [.str a t]) s → wpAny S.M A (getMethod (.str a t) "join" pl) Q E s :=
  fun _ _ _ _ _ _ h => PySem.GM.join h
theorem prim_find : Prim S (fun vs => call (.builtin "str.find") vs) [.str a, .str c] (.int (Txt.find a c)) := by
  with_unfolding_all
  intro A Y vs R E s hh hu hst hY D k
  refine byC fun hnC11 => ?_
  obtain ⟨v, w, rfl, p, q⟩ := datas2 D
  obtain ⟨t, rfl⟩ := p.str; obtain ⟨t', rfl⟩ := q.str
  refine hnC11 ?_
  exact PySem.SC.find (k _ s.heap _ keepsSame dataInt)
theorem prim_join (h : (ss.map (·.length)).sum + ss.length * a.length ≤ 16777216) : Prim S (fun vs => call (.builtin "str.join") vs) [.str a, .list (ss.map .str)] (.str (Txt.join a ss)) := by
  with_unfolding_all
  intro A Y vs R E s hh hu hst hY D k
  refine byC fun hnC12 => ?_
  obtain ⟨v, w, rfl, p, q⟩ := datas2 D
  obtain ⟨t, rfl⟩ := p.str
  obtain ⟨l, items, rfl, hl, hd, _⟩ := q.lst
  refine hnC12 ?_
  exact join_list hl hd.strs h fun t' tk => k _ s.heap _ keepsSame dataStr
end
end
section
variable [Pm]

/-- records that did not stand at the start are turned -/
noncomputable def Stir (B : Heap) (Fs : List Addr) (h₀ h h' : Heap) : Prop := ∃ ys : List Addr, (∀ y ∈ ys, h₀.get? y = none ∧ ∃ o vs, h.get? y = some o ∧ o.data = .fields vs) ∧ Sim B Fs ys h h'
theorem Stir.sim {B : Heap} {Fs X : List Addr} {h₀ h h' : Heap} (y : Stir B Fs h₀ h h') (x : Sim B Fs X h₀ h) : Sim B Fs X h₀ h' := by
  obtain ⟨ys, hy, q⟩ := y
  exact x.trans q fun a hm => .inr (hy a hm).1
theorem Stir.trans {B : Heap} {Fs : List Addr} {h₀ h h₁ h₂ : Heap} (x : Stir B Fs h₀ h h₁) (y : Stir B Fs h₀ h₁ h₂) (hk : ∀ a o vs, h₁.get? a = some o → o.data = .fields vs → h.get? a = none ∨ ∃ o vs, h.get? a = some o ∧ o.data = .fields vs) : Stir B Fs h₀ h h₂ := by
  refine byC fun hnC1 => ?_
  obtain ⟨xs, hx, p⟩ := x
  obtain ⟨ys, hy, q⟩ := y
  refine hnC1 ?_
  refine ⟨xs ++ ys.filter (fun a => (h.get? a).isSome), fun a hm => ?_, ?_⟩
  · rcases List.mem_append.mp hm with hm | hm
    · exact hx a hm
    · obtain ⟨hm, hs⟩ := List.mem_filter.mp hm
      refine byC fun hnC2 => ?_
      obtain ⟨n, o, vs, e, hd⟩ := hy a hm
      refine hnC2 ?_
      rcases hk a o vs e hd with z | z
      · rw [z] at hs; cases hs
      · exact ⟨n, z⟩
  · refine (p.mono fun a h => List.mem_append.mpr (.inl h)).trans q fun a hm => ?_
    cases z : h.get? a with
    | none => exact .inr rfl
    | some o => exact .inl (List.mem_append.mpr (.inr (List.mem_filter.mpr ⟨hm, by rw [z]; rfl⟩)))

theorem sim_slots {B : Heap} {Fs : List Addr} {h h' : Heap} (x : Heap.SlotsOnly Fs h h') (hb : ∀ a ∈ Fs, B.get? a = none) : Sim B Fs [] h h' := by
  refine ⟨fun a o e hf _ => (x.2.1 a hf).trans e, fun a o e _ => x.2.2 a o e, fun a o e => ?_, fun s b o e => ?_⟩
  · obtain ⟨sl, e'⟩ := x.2.2 a o e
    exact ⟨_, e', id⟩
  · by_cases hm : b ∈ Fs
    · rw [hb b hm] at e; cases e
    · exact (x.2.1 b hm).trans (s b o e)
theorem funFrames_base {B h : Heap} : ∀ {l : List Env}, h.FunFrames B l → ∀ a ∈ l.filterMap (·.frame), B.get? a = none
  | [], _, a, hm => nomatch hm
  | env :: r, ⟨hk, ⟨L, o, hf, hn, ho, hd⟩, q⟩, a, hm => by
    rw [List.filterMap_cons, hf] at hm
    rcases List.mem_cons.mp hm with rfl | hm
    · exact hn
    · exact funFrames_base q a hm
theorem sim_push {B : Heap} {Fs X : List Addr} {h : Heap} (o : Obj) : Sim B Fs X h (h.push o) := .of_keeps fun _ _ e => Heap.get?_push_of_some o e
theorem sim_update {B : Heap} {Fs : List Addr} {h : Heap} {a : Addr} {o : Obj} {f : Obj → Obj} (ho : h.get? a = some o) (hf : (f o).isFreed = false) (hs : solid o → solid (f o)) (ht : ¬ tupled o) (hb : B.get? a = none) : Sim B Fs [a] h (h.update a f) := by
  refine .of_but (fun b o' hm e => ?_) (fun b hm o' e => ?_) (fun b hm o' e => ?_) fun b hm => ?_
  · exact (Heap.get?_update_other _ _ fun q => hm (by rw [q]; exact .head _)).trans e
  · cases List.mem_singleton.mp hm
    rw [ho] at e; cases e
    exact ⟨_, Heap.get?_update_self f ho hf, hs⟩
  · cases List.mem_singleton.mp hm
    rw [ho] at e; cases e
    exact ht
  · cases List.mem_singleton.mp hm
    exact hb

section
variable {S : St} {A : Around} {E : Value → Shared → Prop} {s : Shared} {env fenv : Env} {outer : List Env} {L e : Addr} {h₀ : Heap} {u : Bool} {t : Str} {Fs : List Addr}

noncomputable def flatD : PyData → Prop
  | .int _ => True
  | .str _ => True
  | _ => False
theorem DataIn.flat {Y Y' : List Addr} {h h' : Heap} {v : Value} : ∀ {d : PyData}, flatD d → DataIn Y h v d → DataIn Y' h' v d
  | .int _, _, D => by obtain ⟨t, e⟩ := D.int; rw [e]; exact dataInt
  | .str _, _, D => by obtain ⟨t, e⟩ := D.str; rw [e]; exact dataStr
theorem EntsAre.flat {Y Y' : List Addr} {h h' : Heap} : ∀ {es : List DictEntry} {ps : List (Str × PyData)}, (∀ p ∈ ps, flatD p.2) → EntsAre Y h es ps → EntsAre Y' h' es ps
  | [], [], _, _ => trivial
  | _ :: _, _ :: _, f, ⟨k, a, r⟩ => ⟨k, a.flat (f _ (.head _)), EntsAre.flat (fun p q => f p (.tail _ q)) r⟩
  | [], _ :: _, _, q => q.elim
  | _ :: _, [], _, q => q.elim
theorem ents_rt {h h' : Heap} {es : List DictEntry} (x : EntsAre [] h es [("row", .int 0), ("text", .str t)]) : EntsAre [] h' es [("row", .int 0), ("text", .str t)] := by
  refine x.flat fun p q => ?_
  rcases List.mem_cons.mp q with rfl | q
  · trivial
  · cases List.mem_singleton.mp q; trivial
theorem ExcW.upd {h h' : Heap} {st st' : Option Value} (X : ExcW S h₀ h e u t st) {o o' : Obj} {vs vs' : Array Value} (he : h.get? e = some o) (hd : o.data = .fields vs) (he' : h'.get? e = some o') (hc : o'.cls = o.cls) (hdi : o'.dict = o.dict) (hd' : o'.data = .fields vs') (hz : 4 < vs.size → 4 < vs'.size)
    (hk : ∀ dx od es n, o.dict = some dx → h.get? dx = some od → od.data = .dict es n → ∃ sl, h'.get? dx = some { od with slots := sl })
    (hs : match st' with | none => vs'[1]? = some .none | some f => ∃ T oT ts, vs'[1]? = some (.ref T) ∧ h₀.get? T = none ∧ T ≠ e ∧ h'.get? T = some oT ∧ oT.data = .fields ts ∧ ts[3]? = some f) : ExcW S h₀ h' e u t st' := by
  refine byC fun hnC3 => ?_
  obtain ⟨o₁, vs₁, dx, od, ents, n, h1, h2, h3, h4, h5, h6, h7, h8, h9, h10, h11, h12⟩ := X
  refine hnC3 ?_
  rw [he] at h1; cases h1
  rw [hd] at h3; cases h3
  obtain ⟨sl, e8⟩ := hk dx od ents n h5 h8 h10
  exact ⟨o', vs', dx, _, ents, n, he', hc.trans h2, hd', hz h4, hdi.trans h5, h6, h7, e8, h9, h10, ents_rt h11, hs⟩

theorem none_base {B : Heap} (hb : B.StaysIn h₀) {a : Addr} (e : h₀.get? a = none) : B.get? a = none := by
  cases q : B.get? a with
  | none => rfl
  | some o => rw [hb a o q] at e; cases e

/-- the entry's mark is set -/
theorem exc_flight {f : Value} (fr : Option Addr) (X : ExcW S h₀ s.heap e u t (some f)) (hb : S.B.StaysIn h₀) {Q : Unit → Shared → Prop}
    (h : ∀ h', Stir S.B Fs h₀ s.heap h' → ExcW S h₀ h' e u t (some (fr.elim .none fun f => rawInt f)) → Q () { s with heap := h' }) : wpAny S.M A (setFlight (.ref e) fr) Q E s := by
  have X' := X
  refine byC fun hnC6 => ?_
  obtain ⟨o, vs, dx, od, ents, n, h1, h2, h3, h4, h5, h6, h7, h8, h9, h10, h11, T, oT, ts, a1, a2, a3, a4, a5, a6⟩ := X
  refine hnC6 ?_
  unfold setFlight
  refine wpAny_bind (wpAny_field h1 h3 a1 ?_)
  rw [if_pos (show (Value.ref T != Value.none) = true from by simp)]
  have h3' : 3 < ts.size := (Array.getElem?_eq_some_iff.mp a6).1
  refine wpAny_setField a4 a5 h3' (h _ ⟨[T], ?_, ?_⟩ ?_)
  · intro y hy
    cases List.mem_singleton.mp hy
    exact ⟨a2, _, _, a4, a5⟩
  · refine sim_update a4 (Obj.isFreed_of_fields (Obj.data_mapFields a5 _)) (fun q => absurd a5 (q _)) (fun q => ?_) (none_base hb a2)
    refine byC fun hnC7 => ?_
    obtain ⟨_, v, k, q⟩ := q
    refine hnC7 ?_
    rw [a5] at q; cases q
  · have hne : dx ≠ T := fun q => by rw [q, a4] at h8; cases h8; rw [a5] at h10; cases h10
    have other : ∀ b, b ≠ T → (s.heap.update T (Obj.mapFields (·.setIfInBounds 3 (fr.elim .none fun f => rawInt f)))).get? b = s.heap.get? b := fun b hb => Heap.get?_update_other _ _ (Ne.symm hb)
    refine X'.upd h1 h3 ((other e (Ne.symm a3)).trans h1) rfl rfl h3 id (fun dx' od' es k q1 q2 q3 => ?_) ?_
    · rw [h5] at q1; cases q1
      exact ⟨od'.slots, (other dx hne).trans q2⟩
    · exact ⟨T, _, _, a1, a2, a3, Heap.get?_update_self _ a4 (Obj.isFreed_of_fields (Obj.data_mapFields a5 _)), Obj.data_mapFields a5 _, by simp [h3']⟩

/-- a new entry -/
theorem exc_entry {st : Option Value} {head : Value} {hadNext : Bool} (hfr : A.frames = some (fenv :: outer)) (hl : s.heap.FunFrames S.B (fenv :: outer)) (hf : fenv.frame = some L) (hF : Fs = (fenv :: outer).filterMap (·.frame)) (X : ExcW S h₀ s.heap e u t st) (hb : S.B.StaysIn h₀)
    {Q : Unit → Shared → Prop} (hk : ∀ a, s.heap.get? a = none → h₀.get? a = none)
    (h : ∀ h', Stir S.B Fs h₀ s.heap h' → ExcW S h₀ h' e u t (some (rawInt L)) → Q () { s with heap := h' }) :
    wpAny S.M A (do let a ← frameOf fenv; let pl ← entryPlaceOf L hadNext; let b ← EntryCells.newEntry head a .none (rawInt L) .none pl; setField (.ref e) 1 b) Q E s := by
  subst hF
  have X' := X
  refine byC fun hnC8 => ?_
  obtain ⟨o, vs, dx, od, ents, n, h1, h2, h3, h4, h5, h6, h7, h8, h9, h10, h11, h12⟩ := X
  refine hnC8 ?_
  have hene : e ∉ (fenv :: outer).filterMap (·.frame) := fun hm => by
    refine byC fun hnC9 => ?_
    obtain ⟨_, o', ho, hnf⟩ := hl.mem hm
    refine hnC9 ?_
    rw [h1] at ho; cases ho; exact hnf vs h3
  refine wpAny_bind (wpAny_frameOf_fun hfr hl hf fun h₁ hs₁ => ?_)
  refine wpAny_bind (wpAny_entryPlaceOf fun pl hpl => ?_)
  unfold EntryCells.newEntry newFields
  refine wpAny_bind (wpAny_newObj_type ?_ (hpl.sizeOk5 _ _ _ _ _))
  have he₁ : h₁.get? e = some o := (hs₁.2.1 e hene).trans h1
  have he₂ := Heap.get?_push_of_some (h := h₁) { cls := .type "traceback", dict := none, data := .fields ([head, .ref L, .none, rawInt L, .none] ++ (if pl.isEmpty then List.replicate 6 Value.none else pl)).toArray } he₁
  refine wpAny_setField he₂ h3 (by omega) (h _ ⟨[e], ?_, ?_⟩ ?_)
  · intro y hy
    cases List.mem_singleton.mp hy
    exact ⟨h6, _, _, h1, h3⟩
  · refine ((sim_slots (B := S.B) hs₁ (funFrames_base hl)).mono (X' := [e]) fun _ q => nomatch q).trans (X' := [e]) ?_ fun _ q => .inl q
    refine (sim_push (X := [e]) { cls := .type "traceback", dict := none, data := .fields ([head, .ref L, .none, rawInt L, .none] ++ (if pl.isEmpty then List.replicate 6 Value.none else pl)).toArray }).trans (X' := [e]) ?_ fun _ q => .inl q
    refine sim_update he₂ (Obj.isFreed_of_fields (Obj.data_mapFields h3 _)) (fun q => absurd h3 (q _)) (fun q => ?_) (none_base hb h6)
    refine byC fun hnC10 => ?_
    obtain ⟨_, v, k, q⟩ := q
    refine hnC10 ?_
    rw [h3] at q; cases q
  · have hTe : h₁.objs.size ≠ e := Nat.ne_of_gt (Heap.lt_size he₁)
    have hd₃ := Obj.data_mapFields h3 (·.setIfInBounds 1 (Value.ref h₁.objs.size))
    have he₃ := Heap.get?_update_self (Obj.mapFields (·.setIfInBounds 1 (Value.ref h₁.objs.size))) he₂ (Obj.isFreed_of_fields hd₃)
    have hT₃ := (Heap.get?_update_other (h₁.push { cls := .type "traceback", dict := none, data := .fields ([head, .ref L, .none, rawInt L, .none] ++ (if pl.isEmpty then List.replicate 6 Value.none else pl)).toArray })
      (Obj.mapFields (·.setIfInBounds 1 (Value.ref h₁.objs.size))) (Ne.symm hTe)).trans (Heap.get?_push_size h₁ rfl)
    refine X'.upd h1 h3 he₃ ?_ ?_ hd₃ (by simp) (fun dx' od' es k q1 q2 q3 => ?_) ?_
    · exact Obj.cls_mapFields _ _
    · obtain ⟨c, d, dt, sl⟩ := o; simp only at h3; subst h3; rfl
    · rw [h5] at q1; cases q1
      obtain ⟨sl, es'⟩ := hs₁.2.2 dx od' q2
      have hne : dx ≠ e := fun q => by rw [q, h1] at q2; cases q2; rw [h3] at q3; cases q3
      exact ⟨sl, (Heap.get?_update_other _ _ (Ne.symm hne)).trans (Heap.get?_push_of_some _ es')⟩
    · refine ⟨h₁.objs.size, _, _, by simp [show 1 < vs.size by omega], ?_, hTe, hT₃, rfl, by first | (simp; done) | (rcases hpl with rfl | ⟨_, _, _, _, _, _, _, rfl⟩ <;> simp)⟩
      refine hk _ (Heap.get?_none_of_le ?_)
      rw [hs₁.1]
      exact Nat.le_refl _

theorem frameOf_eq (h : env.frame = fenv.frame) : PySem.frameOf env = PySem.frameOf fenv := by unfold PySem.frameOf; rw [h]

theorem stir_fields {B h h' : Heap} {ys : List Addr} (x : Sim B Fs ys h h') (hy : ∀ y ∈ ys, ∃ o vs, h.get? y = some o ∧ o.data = .fields vs) {a : Addr} {o : Obj} {vs : Array Value} (e : h'.get? a = some o) (hd : o.data = .fields vs) : h.get? a = none ∨ ∃ o vs, h.get? a = some o ∧ o.data = .fields vs := by
  cases q : h.get? a with
  | none => exact .inl rfl
  | some o₁ =>
    refine .inr ?_
    by_cases hm : a ∈ ys
    · obtain ⟨o₂, vs₂, e₂, hd₂⟩ := hy a hm
      rw [q] at e₂; cases e₂
      exact ⟨_, _, rfl, hd₂⟩
    · obtain ⟨sl, e'⟩ := x.at q hm
      rw [e] at e'; cases e'
      exact ⟨_, _, rfl, hd⟩

theorem exc_note (hfr : A.frames = some (fenv :: outer)) (hl : s.heap.FunFrames S.B (fenv :: outer)) (hf : fenv.frame = some L) (he : env.frame = some L) (hF : Fs = (fenv :: outer).filterMap (·.frame)) (X : ExcSt S (some L) h₀ s.heap e u t) (hb : S.B.StaysIn h₀)
    {Q : Unit → Shared → Prop} (hk : ∀ a, s.heap.get? a = none → h₀.get? a = none)
    (h : ∀ h', Stir S.B Fs h₀ s.heap h' → ExcW S h₀ h' e u t (some (rawInt L)) → Q () { s with heap := h' }) : wpAny S.M A (noteFrame (.ref e) env) Q E s := by
  unfold noteFrame
  simp only [he]
  rw [frameOf_eq (he.trans hf.symm)]
  rcases X with X | X | ⟨L', q, X⟩
  · have X' := X
    refine byC fun hnC11 => ?_
    obtain ⟨o, vs, dx, od, ents, n, h1, h2, h3, h4, h5, h6, h7, h8, h9, h10, h11, h12⟩ := X
    refine hnC11 ?_
    refine wpAny_bind (wpAny_field h1 h3 h12 ?_)
    rw [if_neg (by decide)]
    exact exc_entry hfr hl hf hF X' hb hk h
  · have X' := X
    refine byC fun hnC12 => ?_
    obtain ⟨o, vs, dx, od, ents, n, h1, h2, h3, h4, h5, h6, h7, h8, h9, h10, h11, T, oT, ts, a1, a2, a3, a4, a5, a6⟩ := X
    refine hnC12 ?_
    refine wpAny_bind (wpAny_field h1 h3 a1 ?_)
    rw [if_pos (show (Value.ref T != Value.none) = true from by simp)]
    refine wpAny_bind (wpAny_field a4 a5 a6 ?_)
    rw [if_neg (show ¬ ((Value.none == rawInt L) = true) from by simp [rawInt])]
    have h3' : 3 < ts.size := (Array.getElem?_eq_some_iff.mp a6).1
    refine wpAny_bind (wpAny_setField a4 a5 h3' ?_)
    have hne : dx ≠ T := fun q => by rw [q, a4] at h8; cases h8; rw [a5] at h10; cases h10
    have other : ∀ b, b ≠ T → (s.heap.update T (Obj.mapFields (·.setIfInBounds 3 .none))).get? b = s.heap.get? b := fun b hb => Heap.get?_update_other _ _ (Ne.symm hb)
    have X₁ : ExcW S h₀ (s.heap.update T (Obj.mapFields (·.setIfInBounds 3 .none))) e u t (some .none) := by
      refine X'.upd h1 h3 ((other e (Ne.symm a3)).trans h1) rfl rfl h3 id (fun dx' od' es k q1 q2 q3 => ?_) ?_
      · rw [h5] at q1; cases q1
        exact ⟨od'.slots, (other dx hne).trans q2⟩
      · exact ⟨T, _, _, a1, a2, a3, Heap.get?_update_self _ a4 (Obj.isFreed_of_fields (Obj.data_mapFields a5 _)), Obj.data_mapFields a5 _, by simp [h3']⟩
    have x₁ : Sim S.B Fs [T] s.heap (s.heap.update T (Obj.mapFields (·.setIfInBounds 3 .none))) := by
      refine sim_update a4 (Obj.isFreed_of_fields (Obj.data_mapFields a5 _)) (fun q => absurd a5 (q _)) (fun q => ?_) (none_base hb a2)
      refine byC fun hnC13 => ?_
      obtain ⟨_, v, k, q⟩ := q
      refine hnC13 ?_
      rw [a5] at q; cases q
    have st₁ : Stir S.B Fs h₀ s.heap (s.heap.update T (Obj.mapFields (·.setIfInBounds 3 .none))) := ⟨[T], fun y hy => by cases List.mem_singleton.mp hy; exact ⟨a2, _, _, a4, a5⟩, x₁⟩
    refine exc_entry (s := { s with heap := s.heap.update T (Obj.mapFields (·.setIfInBounds 3 .none)) }) hfr (funFrames_sim x₁ hl) hf hF X₁ hb (fun a q => hk a (x₁.fresh q)) fun h' st₂ X₂ => h h' (st₁.trans st₂ fun a o vs e hd => ?_) X₂
    exact stir_fields x₁ (fun y hy => by cases List.mem_singleton.mp hy; exact ⟨_, _, a4, a5⟩) e hd
  · cases q
    have X' := X
    refine byC fun hnC14 => ?_
    obtain ⟨o, vs, dx, od, ents, n, h1, h2, h3, h4, h5, h6, h7, h8, h9, h10, h11, T, oT, ts, a1, a2, a3, a4, a5, a6⟩ := X
    refine hnC14 ?_
    refine wpAny_bind (wpAny_field h1 h3 a1 ?_)
    rw [if_pos (show (Value.ref T != Value.none) = true from by simp)]
    refine wpAny_bind (wpAny_field a4 a5 a6 ?_)
    rw [if_pos (show (rawInt L == rawInt L) = true from by simp)]
    exact wpAny_pure (h s.heap ⟨[], (fun _ q => nomatch q), .refl ..⟩ X')

theorem exc_leaves (hfr : A.frames = some (fenv :: outer)) (hl : s.heap.FunFrames S.B (fenv :: outer)) (hf : fenv.frame = some L) (hF : Fs = (fenv :: outer).filterMap (·.frame)) (X : ExcSt S (some L) h₀ s.heap e u t) (hb : S.B.StaysIn h₀)
    {Q : Unit → Shared → Prop} (hk : ∀ a, s.heap.get? a = none → h₀.get? a = none)
    (h : ∀ h', Stir S.B Fs h₀ s.heap h' → ExcW S h₀ h' e u t (some .none) → Q () { s with heap := h' }) : wpAny S.M A (leaving fenv (.ref e)) Q E s := by
  unfold leaving
  refine wpAny_bind (exc_note (env := fenv) hfr hl hf hf hF X hb hk fun h₁ st₁ X₁ => ?_)
  refine exc_flight (s := { s with heap := h₁ }) (Fs := Fs) none X₁ hb fun h₂ st₂ X₂ => h h₂ (st₁.trans st₂ ?_) X₂
  obtain ⟨ys, hy, x⟩ := st₁
  exact fun a o vs e hd => stir_fields x (fun y q => (hy y q).2) e hd
end
end
section
variable [Pm]

/-- functions that turn what they are given -/
noncomputable def byRef (sc : Scope) : Bool := (sc.names.lookup ("self" : Str)).isSome || sc.names.lookup ("cart" : Str) == some NameKind.local
structure PreS (S : St) (b : Nat) (sc : Scope) (A : Around) (env : Env) (Fs : List Addr) (h₀ : Heap) (nr : Nat) (Xr Y₀ Y : List Addr) (Xs : List (List Addr)) (δ : List (Str × PyData)) (μ : List (Str × Mut)) (s : Shared) : Prop where
  pre : Pre S b sc A env Fs h₀ Xr Y Xs δ μ s
  xr : isComp sc = false → Xr = (Xs.take nr).flatten ∧ nr ≤ Xs.length ∧ (nr = 0 ∨ byRef sc = true)
  y0 : ∀ a ∈ Y₀, a ∈ Y ∧ ∃ o, h₀.get? a = some o

inductive SO where
  | next (δ : List (Str × PyData)) (μ : List (Str × Mut))
  | ret (d : PyData) (μ : List (Str × Mut))
  | exc (u : Bool) (t : Str)

noncomputable def KS (S : St) (b : Nat) (sc : Scope) (A : Around) (env : Env) (Fs : List Addr) (h₀ : Heap) (nr : Nat) (Xr Y₀ Y : List Addr) (s : Shared) (out : SO) (R : Flow → Shared → Prop) (E : Value → Shared → Prop) : Prop := match out with
  | .next δ μ => ∀ h' tk Y' Xs, Sim S.B Fs Y s.heap h' → (∀ a ∈ Y', a ∈ Y ∨ s.heap.get? a = none) → PreS S b sc A env Fs h₀ nr Xr Y₀ Y' Xs δ μ { s with heap := h', toks := tk } → R .next { s with heap := h', toks := tk }
  | .ret d μ => ∀ v h' tk δ Y Xs, PreS S b sc A env Fs h₀ nr Xr Y₀ Y Xs δ μ { s with heap := h', toks := tk } → DataIn Y₀ h' v d → R (.ret v) { s with heap := h', toks := tk }
  | .exc u t => ∀ e h' tk, Sim S.B Fs Xr h₀ h' → (∀ l, A.frames = some l → h'.FunFrames S.B l) → S.B.StaysIn h' → ExcSt S env.frame h₀ h' e u t → E (.ref e) { s with heap := h', toks := tk }

@[irreducible] def EvS (S : St) (b : Nat) (sc : Scope) (δ : List (Str × PyData)) (μ : List (Str × Mut)) (st : Stmt) (out : SO) : Prop :=
  ∀ A env Fs h₀ nr Xr Y₀ Y Xs s R E, PreS S b sc A env Fs h₀ nr Xr Y₀ Y Xs δ μ s → KS S b sc A env Fs h₀ nr Xr Y₀ Y s out R E → wpAny S.M A (exec st env) R E s
@[irreducible] def EvSs (S : St) (b : Nat) (sc : Scope) (δ : List (Str × PyData)) (μ : List (Str × Mut)) (st : List Stmt) (out : SO) : Prop :=
  ∀ A env Fs h₀ nr Xr Y₀ Y Xs s R E, PreS S b sc A env Fs h₀ nr Xr Y₀ Y Xs δ μ s → KS S b sc A env Fs h₀ nr Xr Y₀ Y s out R E → wpAny S.M A (execs st env) R E s

section
variable {S : St} {b : Nat} {sc : Scope} {δ δ₁ : List (Str × PyData)} {μ μ₁ μ' : List (Str × Mut)} {e test value : Expr} {es : List Expr} {pos p np : Pos} {d x y : PyData} {u : Bool} {t : Str} {ds : List PyData} {st : Stmt} {rest body orelse : List Stmt} {so : SO} {n : Str}
  {A : Around} {env : Env} {Fs : List Addr} {h₀ : Heap} {nr : Nat} {Xr Y₀ Y : List Addr} {Xs : List (List Addr)} {s : Shared} {R : Flow → Shared → Prop} {E : Value → Shared → Prop}

theorem PreS.next (P : PreS S b sc A env Fs h₀ nr Xr Y₀ Y Xs δ μ s) {h' : Heap} {tk : Nat} (x : Sim S.B Fs Xs.flatten s.heap h') (m : Muts Y env h' μ' Xs) : PreS S b sc A env Fs h₀ nr Xr Y₀ Y Xs δ μ' { s with heap := h', toks := tk } :=
  ⟨P.pre.next x m, P.xr, P.y0⟩
theorem KS.seq (K : KS S b sc A env Fs h₀ nr Xr Y₀ Y s so R E) {h' : Heap} {tk : Nat} {Y' : List Addr} (x : Sim S.B Fs Y s.heap h') (hY : ∀ a ∈ Y', a ∈ Y ∨ s.heap.get? a = none) : KS S b sc A env Fs h₀ nr Xr Y₀ Y' { s with heap := h', toks := tk } so R E := by
  cases so with
  | next δ μ => exact fun h'' tk' Y₂ Xs x' hY' P => K h'' tk' Y₂ Xs (x.trans x' hY) (fun a q => (hY' a q).elim (hY a) fun n => .inr (x.fresh n)) P
  | ret d μ => exact fun v h'' tk' δ Y Xs P => K v h'' tk' δ Y Xs P
  | exc u t => exact fun e h'' tk' => K e h'' tk'
theorem Pre.frames (P : Pre S b sc A env Fs h₀ Xr Y Xs δ μ s) {h' : Heap} {X : List Addr} (x : Sim S.B Fs X s.heap h') : ∀ l, A.frames = some l → h'.FunFrames S.B l := by
  intro l hl
  refine byC fun hnC1 => ?_
  obtain ⟨fenv, outer, L, h1, _, _, _, h5, _⟩ := P.stack
  refine hnC1 ?_
  rw [hl] at h1; cases h1
  exact funFrames_sim x h5
theorem KS.raise {α β : Type} {Pr : List Addr → Heap → α → β → Prop} (K : KS S b sc A env Fs h₀ nr Xr Y₀ Y s (.exc u t) R E) (P : PreS S b sc A env Fs h₀ nr Xr Y₀ Y Xs δ μ s) {Q : α → Shared → Prop} : Kn S Fs Y env Xs μ' Pr s (.exc u t) Q E :=
  fun e h' tk x X => K e h' tk (P.pre.hist.trans x P.pre.sepH) (P.pre.frames x) (x.st P.pre.stat) (X.older fun _ q => P.pre.hist.fresh q)

theorem EvSs.nil : EvSs S b sc δ μ [] (.next δ μ) := by
 with_unfolding_all exact fun A env Fs h₀ nr Xr Y₀ Y Xs s R E P K => wpAny_pure (K s.heap s.toks Y Xs (.refl ..) (fun a q => .inl q) P)
theorem EvSs.cons (h : EvS S b sc δ μ st (.next δ₁ μ₁)) (r : EvSs S b sc δ₁ μ₁ rest so) : EvSs S b sc δ μ (st :: rest) so := by
  with_unfolding_all
  intro A env Fs h₀ nr Xr Y₀ Y Xs s R E P K
  show wpAny S.M A (do
    match ← exec st env with
    | .next => execs rest env
    | f => pure f) R E s
  refine wpAny_bind (h A env Fs h₀ nr Xr Y₀ Y Xs s _ E P ?_)
  exact fun h' tk Y' Xs' x hY P' => r A env Fs h₀ nr Xr Y₀ Y' Xs' _ R E P' (K.seq x hY)
theorem EvSs.ret (h : EvS S b sc δ μ st (.ret d μ₁)) : EvSs S b sc δ μ (st :: rest) (.ret d μ₁) := by
  with_unfolding_all
  intro A env Fs h₀ nr Xr Y₀ Y Xs s R E P K
  show wpAny S.M A (do
    match ← exec st env with
    | .next => execs rest env
    | f => pure f) R E s
  refine wpAny_bind (h A env Fs h₀ nr Xr Y₀ Y Xs s _ E P ?_)
  exact fun v h' tk δ Y' Xs' P' D => wpAny_pure (K v h' tk δ Y' Xs' P' D)
theorem EvSs.exc (h : EvS S b sc δ μ st (.exc u t)) : EvSs S b sc δ μ (st :: rest) (.exc u t) := by
  with_unfolding_all
  intro A env Fs h₀ nr Xr Y₀ Y Xs s R E P K
  show wpAny S.M A (do
    match ← exec st env with
    | .next => execs rest env
    | f => pure f) R E s
  exact wpAny_bind (h A env Fs h₀ nr Xr Y₀ Y Xs s _ E P K)

theorem EvS.ret (h : EvE S b sc δ μ e (.ok d) μ') : EvS S b sc δ μ (.Return (some e) pos) (.ret d μ') := by
  with_unfolding_all
  intro A env Fs h₀ nr Xr Y₀ Y Xs s R E P K
  exact wpAny_Return_some (h A env Fs h₀ Xr Y Xs s _ E P.pre fun v h' tk x m D => K v h' tk δ Y Xs (P.next x m) (D.less fun a q => (P.y0 a q).1))
theorem EvS.retX (h : EvE S b sc δ μ e (.exc u t) μ') : EvS S b sc δ μ (.Return (some e) pos) (.exc u t) := by
  with_unfolding_all
  intro A env Fs h₀ nr Xr Y₀ Y Xs s R E P K
  exact wpAny_Return_some (h A env Fs h₀ Xr Y Xs s _ E P.pre (K.raise P))
theorem EvS.expr (h : EvE S b sc δ μ e (.ok d) μ') (hs : ∀ env, swapsWith e none pos.line env = pure false := by intro _; rfl) : EvS S b sc δ μ (.Expr e pos) (.next δ μ') := by
  with_unfolding_all
  intro A env Fs h₀ nr Xr Y₀ Y Xs s R E P K
  refine wpAny_Expr_any (h A env Fs h₀ Xr Y Xs s _ E P.pre fun v h' tk x m D => K h' tk Y Xs (x.mono P.pre.sepY) (fun a q => .inl q) (P.next x m)) ?_ (hs env)
  unfold interactive
  rw [P.pre.sk]; rfl
theorem EvS.ite {c : Bool} (h : EvT S b sc δ μ test (.ok c) μ₁) (r : if c then EvSs S b sc δ μ₁ body so else EvSs S b sc δ μ₁ orelse so) : EvS S b sc δ μ (.If test body orelse pos) so := by
  with_unfolding_all
  intro A env Fs h₀ nr Xr Y₀ Y Xs s R E P K
  refine wpAny_If (h A env Fs h₀ Xr Y Xs s _ E P.pre fun v h' tk x m D => ?_)
  subst D
  cases v with
  | true => exact r A env Fs h₀ nr Xr Y₀ Y Xs _ R E (P.next x m) (K.seq (x.mono P.pre.sepY) fun a q => .inl q)
  | false => exact r A env Fs h₀ nr Xr Y₀ Y Xs _ R E (P.next x m) (K.seq (x.mono P.pre.sepY) fun a q => .inl q)

/-! a name is bound -/
theorem holds_local {h h' : Heap} {x z : Str} {v w : Value} {m : Str → Option Value} (N : h.Ns env.locals m) (N' : h'.Ns env.locals fun k => if k = x then some v else m k) (hs : Heap.SameBut env.locals h h') (H : Holds h env z w) (hz : z ≠ x) : Holds h' env z w := by
  rcases H with ⟨hk, m', N₂, hm⟩ | ⟨hk, c, hc, o, ho, hd⟩
  · cases Ns.same N N₂
    exact .inl ⟨hk, _, N', by simp only [if_neg hz]; exact hm⟩
  · refine .inr ⟨hk, c, hc, o, (hs.2 c fun q => ?_).trans ho, hd⟩
    refine byC fun hnC2 => ?_
    obtain ⟨o', es, ep, ho', hd', _⟩ := N
    refine hnC2 ?_
    rw [q, ho'] at ho; cases ho; rw [hd'] at hd; cases hd
theorem sim_local {B h h' : Heap} {a : Addr} {m m' : Str → Option Value} (N : h.Ns a m) (N' : h'.Ns a m') (hs : Heap.SameBut a h h') (hb : B.get? a = none) : Sim B Fs [a] h h' := by
  refine byC fun hnC3 => ?_
  obtain ⟨o, es, ep, ho, hd, _⟩ := N
  obtain ⟨o', es', ep', ho', hd', _⟩ := N'
  refine hnC3 ?_
  refine .of_but (fun b o' hm e => (hs.2 b fun q => hm (by rw [q]; exact .head _)).trans e) (fun b hm o₁ e => ?_) (fun b hm o₁ e => ?_) fun b hm => ?_
  · cases List.mem_singleton.mp hm
    exact ⟨o', ho', fun _ vs q => by rw [hd'] at q; cases q⟩
  · cases List.mem_singleton.mp hm
    rw [ho] at e; cases e
    rintro ⟨_, vs, n, q⟩
    rw [hd] at q; cases q
  · cases List.mem_singleton.mp hm
    exact hb
theorem muts_local {h h' : Heap} {x : Str} {v : Value} {m : Str → Option Value} (N : h.Ns env.locals m) (N' : h'.Ns env.locals fun k => if k = x then some v else m k) (hs : Heap.SameBut env.locals h h') (xs : Sim S.B Fs [env.locals] h h') (hY : env.locals ∈ Y) (hf : ∀ a ∈ Fs, a ∈ Y ∨ h.get? a = none := by first | exact fun _ q => (List.not_mem_nil q).elim | assumption | exact fun a q => .inl (Pre.fsY (by assumption) a q) | exact fun a q => .inl (Pre.fsY (PreS.pre (by assumption)) a q) | exact fun a q => .inl (.tail _ (Pre.fsY (by assumption) a q)) | exact fun a q => .inl (.tail _ (.tail _ (Pre.fsY (by assumption) a q)))) :
    ∀ {μ : List (Str × Mut)} {Xs : List (List Addr)}, (∀ p ∈ μ, p.1 ≠ x) → (∀ a ∈ Xs.flatten, a ≠ env.locals) → Muts Y env h μ Xs → Muts Y env h' μ Xs
  | [], [], _, _, _ => trivial
  | p :: _, _ :: _, hn, ha, ⟨⟨w, a, c⟩, r⟩ =>
    ⟨⟨w, holds_local N N' hs a (hn p (.head _)), c.sim xs (fun z q => by cases List.mem_singleton.mp q; exact .inl hY) (fun z q hm => by cases List.mem_singleton.mp hm; exact ha _ (List.mem_append.mpr (.inl q)) rfl) hf⟩,
      muts_local N N' hs xs hY hf (fun p q => hn p (.tail _ q)) (fun z q => ha z (List.mem_append.mpr (.inr q))) r⟩
  | [], _ :: _, _, _, q => q.elim
  | _ :: _, [], _, _, q => q.elim

theorem Pre.bind {v : Value} (P : Pre S b sc A env Fs h₀ Xr Y Xs δ μ s) (hk : sc.names.lookup n = some .local) (hμ : ∀ p ∈ μ, p.1 ≠ n) (D : DataIn Y s.heap v d) {Q : Unit → Shared → Prop}
    (K : ∀ h' tk, Sim S.B Fs [env.locals] s.heap h' → Pre S b sc A env Fs h₀ Xr Y Xs ((n, d) :: δ) μ { s with heap := h', toks := tk } → Q () { s with heap := h', toks := tk }) : wpAny S.M A (storeName env n v) Q E s := by
  obtain ⟨m, N⟩ := P.loc.ns
  have hl : env.kindOf n = some .local := by unfold Env.kindOf; rw [P.sco]; exact hk
  refine wpAny_storeName_local hl N (fun h' N' hs => ?_) (by show (env.scope.kind == .class || (env.scope.kind == .module && env.locals != env.globals)) = false; rw [P.sk]; rfl)
  have x : Sim S.B Fs [env.locals] s.heap h' := sim_local N N' hs (P.yB _ P.locY.1)
  have hx : ∀ a ∈ [env.locals], a ∈ Y ∨ s.heap.get? a = none := fun a q => by cases List.mem_singleton.mp q; exact .inl P.locY.1
  refine K h' _ x ?_
  exact {
    depth := P.depth, units := P.units, handled := P.handled, sco := P.sco, kind := P.kind, globals := P.globals, builtins := P.builtins
    stack := let ⟨f, o, L, a, b, c, d, e, g⟩ := P.stack; ⟨f, o, L, a, b, c, d, funFrames_sim x e, g⟩
    base := P.base
    stat := x.st P.stat
    hist := P.hist.trans x fun a q => by cases List.mem_singleton.mp q; exact .inr P.locY.2
    loc := ⟨⟨_, N'⟩, fun z dz e => by
      by_cases hz : z = n
      · subst hz
        have : dz = d := by rw [List.lookup_cons, beq_self_eq_true] at e; exact (Option.some.inj e).symm
        subst this
        exact ⟨v, .inl ⟨hl, _, N', by simp⟩, D.sim x hx⟩
      · rw [List.lookup_cons, show (z == n) = false from beq_eq_false_iff_ne.mpr hz] at e
        obtain ⟨w, H, Dw⟩ := P.loc.dat z dz e
        exact ⟨w, holds_local N N' hs H hz, Dw.sim x hx⟩⟩
    locY := P.locY
    cellY := P.cellY
    cellI := P.cellI
    cellE := fun q n h => (P.cellE q n h).loc x P.loc.ns
    muts := muts_local N N' hs x P.locY.1 (fun a q => .inl (P.fsY a q)) hμ (fun a q e => P.sepN.1 (e ▸ q)) P.muts
    nodup := P.nodup, sepY := P.sepY, sepF := P.sepF, yB := P.yB, fsY := P.fsY, sepN := P.sepN, sepH := P.sepH
    alloc := fun a h => let ⟨o, e⟩ := P.alloc a h; let ⟨o', e', _⟩ := x.on a o e; ⟨o', e'⟩ }

theorem keys_ne {α : Type} {n : Str} : ∀ {l : List (Str × α)}, l.lookup n = none → ∀ p ∈ l, p.1 ≠ n
  | [], _, _, hm => nomatch hm
  | (k, a) :: l, h, p, hm => by
    rw [List.lookup_cons] at h
    cases z : n == k with
    | true => rw [z] at h; cases h
    | false =>
      rw [z] at h
      rcases List.mem_cons.mp hm with rfl | hm
      · exact fun q => beq_eq_false_iff_ne.mp z q.symm
      · exact keys_ne h p hm
theorem EvS.set (h : EvE S b sc δ μ value (.ok d) μ') (hk : sc.names.lookup n = some .local) (hμ : μ'.lookup n = none := by rfl) (hs : ∀ env, env.scope = sc → swapsWith value (some (.Name n np)) pos.line env = pure false := by intro _ _; rfl) :
    EvS S b sc δ μ (.Assign [.Name n np] value pos) (.next ((n, d) :: δ) μ') := by
  with_unfolding_all
  intro A env Fs h₀ nr Xr Y₀ Y Xs s R E P K
  refine wpAny_Assign_Name (h A env Fs h₀ Xr Y Xs s _ E P.pre fun v h' tk x m D => ?_) (hs env P.pre.sco)
  exact (P.pre.next (tk := tk) x m).bind hk (keys_ne hμ) D fun h'' tk' x' P' => K h'' tk' Y Xs ((x.mono P.pre.sepY).trans x' fun a q => by cases List.mem_singleton.mp q; exact .inl P.pre.locY.1) (fun a q => .inl q) ⟨P', P.xr, P.y0⟩
theorem EvS.setX (h : EvE S b sc δ μ value (.exc u t) μ') (hs : ∀ env, env.scope = sc → swapsWith value (some (.Name n np)) pos.line env = pure false := by intro _ _; rfl) :
    EvS S b sc δ μ (.Assign [.Name n np] value pos) (.exc u t) := by
  with_unfolding_all
  intro A env Fs h₀ nr Xr Y₀ Y Xs s R E P K
  exact wpAny_Assign_Name (h A env Fs h₀ Xr Y Xs s _ E P.pre (K.raise P)) (hs env P.pre.sco)
end
end
section
variable [Pm]

/-- what a call hands on -/
noncomputable def Kc (S : St) (Fs Y : List Addr) (s : Shared) (out : Out PyData) (R : Value → Shared → Prop) (E : Value → Shared → Prop) : Prop := match out with
  | .ok d => ∀ v h' tk, Sim S.B Fs [] s.heap h' → DataIn Y h' v d → R v { s with heap := h', toks := tk }
  | .exc u t => ∀ e h' tk, Sim S.B Fs [] s.heap h' → ExcW S s.heap h' e u t (some .none) → E (.ref e) { s with heap := h', toks := tk }

/-- where a call stands -/
structure At (S : St) (b : Nat) (A : Around) (outer : List Env) (Y : List Addr) (s : Shared) : Prop where
  handled : A.handled = none
  depth : A.depth + b < recursionLimit
  units : A.units + 30 * b + 100 < cLine
  frames : A.frames = some outer
  funs : s.heap.FunFrames S.B outer
  stat : S.B.StaysIn s.heap
  alloc : ∀ a ∈ Y, ∃ o, s.heap.get? a = some o
  yB : ∀ a ∈ Y, S.B.get? a = none
  fsY : ∀ a ∈ outer.filterMap (·.frame), a ∈ Y

/-- the function at fa, called with data -/
@[irreducible] def Cal (S : St) (b : Nat) (fa : Addr) (ds : List PyData) (out : Out PyData) : Prop :=
  ∀ A outer vs Y s R E, At S b A outer Y s → DatasIn Y s.heap vs ds → Kc S (outer.filterMap (·.frame)) Y s out R E → wpAny S.M A (call (.ref fa) vs) R E s

noncomputable def HasFn (S : St) (fa : Addr) (ps : List Str) (body : List Stmt) (sc : Scope) : Prop :=
  ∃ o fd, S.B.get? fa = some o ∧ o.data = .func fd ∧ S.B.CodeRec fd.code fd.qualname ∧ fd.body = .stmts body ∧ fd.scope = sc ∧ fd.globals = mainGlobals ∧ fd.builtins = builtinsNs ∧ fd.closure = [] ∧
    ∀ s vs, vs.length = ps.length → BindsTo s fd ⟨vs, []⟩ (ps.zip vs)
structure ScOk (sc : Scope) (ps : List Str) : Prop where
  kind : sc.kind = .function
  co : sc.isCoroutine = false
  gen : sc.isGenerator = false
  cell : ∀ x ∈ sc.names, x.2 ≠ .cell
  loc : ∀ p ∈ ps, sc.names.lookup p = some .local
  nodup : ps.Nodup

theorem ScOk.of {sc : Scope} {ps : List Str} (h : (sc.kind == .function && !sc.isCoroutine && !sc.isGenerator && sc.names.all (fun x => x.2 != .cell) && ps.all (fun p => sc.names.lookup p == some .local) && decide ps.Nodup) = true) : ScOk sc ps := by
  simp only [Bool.and_eq_true, List.all_eq_true, decide_eq_true_eq, beq_iff_eq, bne_iff_ne, Bool.not_eq_true'] at h
  refine byC fun hnC1 => ?_
  obtain ⟨⟨⟨⟨⟨h1, h2⟩, h3⟩, h4⟩, h5⟩, h6⟩ := h
  refine hnC1 ?_
  exact ⟨h1, h2, h3, h4, h5, h6⟩

theorem zip_lookup {Y : List Addr} {h : Heap} {p : Str} {d : PyData} : ∀ {ps : List Str} {vs : List Value} {ds : List PyData}, DatasIn Y h vs ds → (ps.zip ds).lookup p = some d → ∃ v, (ps.zip vs).lookup p = some v ∧ DataIn Y h v d
  | [], _, _, _, e => by simp at e
  | _ :: _, [], [], _, e => by simp at e
  | q :: ps, v :: vs, x :: ds, ⟨a, r⟩, e => by
    rw [List.zip_cons_cons, List.lookup_cons] at e ⊢
    cases z : p == q with
    | true => rw [z] at e; cases e; exact ⟨v, rfl, a⟩
    | false => rw [z] at e; exact zip_lookup r e
  | _ :: _, [], _ :: _, x, _ => x.elim
  | _ :: _, _ :: _, [], x, _ => x.elim
theorem lookup_reverse {α : Type} {p : Str} : ∀ {l : List (Str × α)}, (l.map (·.1)).Nodup → l.reverse.lookup p = l.lookup p
  | [], _ => rfl
  | (k, a) :: l, hn => by
    rw [List.map_cons, List.nodup_cons] at hn
    rw [List.reverse_cons, List.lookup_append, lookup_reverse hn.2, List.lookup_cons]
    cases z : p == k with
    | true =>
      have : l.lookup p = none := by
        cases q : l.lookup p with
        | none => rfl
        | some b =>
          exfalso
          have hm : p ∈ l.map (·.1) := by
            clear hn
            induction l with
            | nil => simp at q
            | cons y l ih =>
              obtain ⟨y1, y2⟩ := y
              rw [List.lookup_cons] at q
              cases w : p == y1 with
              | true => rw [beq_iff_eq.mp w]; exact .head _
              | false => rw [w] at q; exact .tail _ (ih q)
          exact hn.1 (by rw [← beq_iff_eq.mp z]; exact hm)
      rw [this]
      simp [List.lookup_cons, z]
    | false =>
      have q : ((k, a) :: l).lookup p = l.lookup p := by rw [List.lookup_cons, z]
      cases w : l.lookup p <;> simp [List.lookup_cons, z, w]
theorem zip_keys {α : Type} : ∀ {ps : List Str} {vs : List α}, vs.length = ps.length → (ps.zip vs).map (·.1) = ps
  | [], [], _ => rfl
  | p :: ps, v :: vs, h => by rw [List.zip_cons_cons, List.map_cons, zip_keys (by simpa using h)]
  | [], _ :: _, h => by simp at h
  | _ :: _, [], h => by simp at h

noncomputable def SO.out : SO → Out PyData
  | .next _ _ => .ok .none
  | .ret d _ => .ok d
  | .exc u t => .exc u t

section
variable {S : St} {b b' : Nat} {sc scf : Scope} {δ δ₁ : List (Str × PyData)} {μ μ₁ μ' : List (Str × Mut)} {e : Expr} {es : List Expr} {pos np : Pos} {d : PyData} {u : Bool} {t n : Str} {ds : List PyData} {body : List Stmt} {so : SO} {fa : Addr} {ps : List Str} {out : Out PyData}

theorem Cal.mk (O : S.Ok) (hf : HasFn S fa ps body sc) (so : SO) (ho : out = so.out) (hl : ds.length = ps.length) (ok : ScOk sc ps) (h : EvSs S b sc (ps.zip ds) [] body so) : Cal S (b + 1) fa ds out := by
  with_unfolding_all
  subst ho
  intro A outer vs Y s R E P D K
  refine byC fun hnC2 => ?_
  obtain ⟨o, fd, h1, h2, h3, h4, h5, h6, h7, h8, h9⟩ := hf
  refine hnC2 ?_
  have hvl : vs.length = ps.length := D.length.trans hl
  have keepCode : s.heap.CodeRec fd.code fd.qualname := h3.keeps P.stat
  refine wpAny_call (codeAny_call_def (fd := fd) (body := body) (binds := ps.zip vs) (by have := P.depth; omega) (P.stat _ _ h1) h2 (O.nolimit.keeps P.stat) keepCode h4 (h9 s vs hvl) (by rw [h5]; exact ok.cell) (fun x hx => ?_) (fun h₁ hN hk => ?_) (by rw [h5]; exact ok.co) (by rw [h5]; exact ok.gen) (by rw [h5]; exact ok.kind))
  · rw [h5]
    refine ok.loc _ ?_
    have := List.mem_map_of_mem (f := (·.1)) hx
    rwa [zip_keys hvl] at this
  have hL : s.heap.get? s.heap.objs.size = none := Heap.get?_none_of_le (Nat.le_refl _)
  have hLB : S.B.get? s.heap.objs.size = none := none_base (h₀ := s.heap) P.stat hL
  have envE : callEnv fd s.heap.objs.size fa = { scope := sc, locals := s.heap.objs.size, globals := mainGlobals, cells := [], qual := fd.qualname ++ ".<locals>.", func := some fa, code := fd.code, frame := some s.heap.objs.size, builtins := builtinsNs } := by
    unfold callEnv newEnv
    rw [h5, h6, h7, h8]
  have kY : ∀ a ∈ Y, ∃ o, h₁.get? a = some o := fun a q => let ⟨o, e⟩ := P.alloc a q; ⟨o, hk _ _ e⟩
  have hFun : h₁.FunFrames S.B (callEnv fd s.heap.objs.size fa :: outer) := by
    refine .cons (by rw [envE]; show sc.kind ≠ .module; rw [ok.kind]; decide) (by rw [envE]) hN hLB ?_
    exact funFrames_sim (B := S.B) (Fs := []) (X := []) (.of_keeps hk) P.funs
  have hfr : (A.deeper (callEnv fd s.heap.objs.size fa)).frames = some (callEnv fd s.heap.objs.size fa :: outer) := Around.frames_deeper P.frames
  have hFs : (callEnv fd s.heap.objs.size fa :: outer).filterMap (·.frame) = s.heap.objs.size :: outer.filterMap (·.frame) := by
    rw [List.filterMap_cons, envE]
  have unf : ∀ {h' : Heap}, Sim S.B ((callEnv fd s.heap.objs.size fa :: outer).filterMap (·.frame)) [] s.heap h' → Sim S.B (outer.filterMap (·.frame)) [] s.heap h' := fun x => x.unframe fun a q => by
    rw [hFs] at q
    rcases List.mem_cons.mp q with rfl | q
    · exact .inr hL
    · exact .inl q
  have PS : PreS S b sc (A.deeper (callEnv fd s.heap.objs.size fa)) (callEnv fd s.heap.objs.size fa) ((callEnv fd s.heap.objs.size fa :: outer).filterMap (·.frame)) s.heap 0 [] Y (s.heap.objs.size :: Y) [] (ps.zip ds) [] { s with heap := h₁, toks := s.toks + (ps.zip vs).length } := by
    refine ⟨?_, fun _ => ⟨rfl, Nat.zero_le _, .inl rfl⟩, fun a q => ⟨.tail _ q, P.alloc a q⟩⟩
    exact {
      depth := by have := P.depth; show A.depth + 1 + b < _; omega
      units := by have := P.units; show A.units + 3 + 30 * b + 100 < _; omega
      handled := P.handled
      sco := by rw [envE]
      kind := ok.kind
      globals := by rw [envE]
      builtins := by rw [envE]
      stack := ⟨_, outer, s.heap.objs.size, hfr, by rw [envE], by rw [envE], rfl, hFun, hL⟩
      base := P.stat
      stat := fun a o e => hk _ _ (P.stat _ _ e)
      hist := .of_keeps hk
      loc := ⟨⟨_, by rw [envE]; exact hN⟩, fun x dx ex => by
        obtain ⟨v, hv, Dv⟩ := zip_lookup D ex
        have hx : x ∈ ps := by
          have := zip_keys (vs := ds) hl
          rw [← this]
          clear this Dv hv
          generalize ps.zip ds = l at ex
          induction l with
          | nil => simp at ex
          | cons y l ih =>
            obtain ⟨y1, y2⟩ := y
            rw [List.lookup_cons] at ex
            cases w : x == y1 with
            | true => rw [beq_iff_eq.mp w]; exact .head _
            | false => rw [w] at ex; exact .tail _ (ih ex)
        refine ⟨v, .inl ⟨?_, _, by rw [envE]; exact hN, ?_⟩, (Dv.grow fun a q => ?_).push hk⟩
        · rw [envE]; exact ok.loc x hx
        · show (ps.zip vs).reverse.lookup x = some v
          rw [lookup_reverse (by rw [zip_keys hvl]; exact ok.nodup)]; exact hv
        · rcases List.mem_cons.mp q with rfl | q
          · exact .inr hL
          · exact .inl q⟩
      locY := by rw [envE]; exact ⟨.head _, hL⟩
      cellY := fun x c q => by rw [envE] at q; simp at q
      cellI := fun x y c q => by rw [envE] at q; simp at q
      cellE := fun _ n q => by
        have q : sc.names.lookup n = some .cell := by rw [envE] at q; exact q
        exact absurd rfl (ok.cell _ (mem_of_lookup q))
      muts := trivial
      nodup := List.nodup_nil
      sepY := fun _ q => nomatch q
      sepF := fun _ q => nomatch q
      yB := fun a q => by
        rcases List.mem_cons.mp q with rfl | q
        · exact hLB
        · exact P.yB a q
      fsY := fun a q => by
        rw [hFs] at q
        rcases List.mem_cons.mp q with rfl | q
        · exact .head _
        · exact .tail _ (P.fsY a q)
      sepN := ⟨(fun q => nomatch q), (fun _ _ _ q => nomatch q)⟩
      sepH := fun _ q => nomatch q
      alloc := fun a q => by
        rcases List.mem_cons.mp q with rfl | q
        · obtain ⟨o', _, _, ho', _⟩ := hN; exact ⟨o', ho'⟩
        · exact kY a q }
  refine h _ _ _ _ _ _ _ _ _ _ _ _ PS ?_
  cases so with
  | next δ' μ' =>
    intro h' tk Y' Xs' _ _ P'
    have xr : [] = (Xs'.take 0).flatten := rfl
    exact K .none h' tk (unf P'.pre.hist) dataNone
  | ret d μ' =>
    intro v h' tk δ' Y' Xs' P' D'
    exact K v h' tk (unf P'.pre.hist) D'
  | exc u t =>
    intro e h' tk x hF' hs X
    have L' : (callEnv fd s.heap.objs.size fa).frame = some s.heap.objs.size := by rw [envE]
    rw [L'] at X
    refine exc_leaves (s := { s with heap := h', toks := tk }) hfr (hF' _ hfr) L' rfl X P.stat (fun a q => x.fresh q) fun h₂ st₂ X₂ => ?_
    exact K e h₂ tk (unf (st₂.sim x)) X₂

/-- the function of that name -/
noncomputable def CalN (S : St) (b : Nat) (n : Str) (ds : List PyData) (out : Out PyData) : Prop := ∃ fa o fd, S.mg n = some (.ref fa) ∧ S.B.get? fa = some o ∧ o.data = .func fd ∧ Cal S b fa ds out
noncomputable def FnN (S : St) (n : Str) (ps : List Str) (body : List Stmt) (sc : Scope) : Prop := ∃ fa, S.mg n = some (.ref fa) ∧ HasFn S fa ps body sc
theorem CalN.mk (O : S.Ok) (hf : FnN S n ps body sc) (ok : ScOk sc ps) (so : SO) (h : EvSs S b sc (ps.zip ds) [] body so) (ho : out = so.out := by rfl) (hl : ds.length = ps.length := by rfl) : CalN S (b + 1) n ds out := by
  obtain ⟨fa, hm, hf⟩ := hf
  have c := Cal.mk O hf so ho hl ok h
  refine byC fun hnC3 => ?_
  obtain ⟨o, fd, h1, h2, _⟩ := hf
  refine hnC3 ?_
  exact ⟨fa, o, fd, hm, h1, h2, c⟩
theorem Pre.at {A : Around} {env : Env} {Fs : List Addr} {h₀ : Heap} {Xr Y : List Addr} {Xs : List (List Addr)} {s : Shared} (P : Pre S b sc A env Fs h₀ Xr Y Xs δ μ s) : ∃ outer, At S b A outer Y s ∧ Fs = outer.filterMap (·.frame) := by
  refine byC fun hnC4 => ?_
  obtain ⟨fenv, outer, L, h1, _, _, h4, h5, _⟩ := P.stack
  refine hnC4 ?_
  exact ⟨_, ⟨P.handled, P.depth, P.units, h1, h5, P.stat, P.alloc, P.yB, by rw [← h4]; exact P.fsY⟩, h4⟩
theorem Kn.kc {A : Around} {env : Env} {Fs : List Addr} {h₀ : Heap} {Xr Y : List Addr} {Xs : List (List Addr)} {s : Shared} {R E : Value → Shared → Prop} (P : Pre S b sc A env Fs h₀ Xr Y Xs δ μ s) (K : Kn S Fs Y env Xs μ DataIn s out R E) : Kc S Fs Y s out R E := by
  cases out with
  | ok d => exact fun v h' tk x D => K v h' tk (x.mono fun _ q => nomatch q) (P.muts.sim x ⟨(fun q => nomatch q), (fun _ _ _ q => nomatch q)⟩ (fun _ q => nomatch q) fun _ _ q => nomatch q) D
  | exc u t => exact fun e h' tk x X => K e h' tk (x.mono fun _ q => nomatch q) (.inr (.inl X))

theorem EvE.call (O : S.Ok) (c : CalN S b n ds out) (h : EvEs S b sc δ μ (e :: es) (.ok ds) μ') (hk : sc.names.lookup n = some .globalImplicit) (hs : noStar (e :: es) := by intro _; rfl) (hd : (n == ("__debug__" : Str)) = false := by decide) :
    EvE S b sc δ μ (.Call (.Name n np) (e :: es) [] pos) out μ' := by
  with_unfolding_all
  refine byC fun hnC5 => ?_
  obtain ⟨fa, o, fd, hm, hf, hdat, c⟩ := c
  refine hnC5 ?_
  intro A env Fs h₀ Xr Y Xs s R E P K
  refine wpAny_Call_Name_kw (O.global P hm hk ?_ hd)
  refine callWith_def (o := o) hdat ?_ (noStar_head hs env)
  rw [hs env]
  refine spliced_WEs (h A env Fs h₀ Xr Y Xs s _ E P fun vs h' tk x m D => ?_)
  have P' := P.next (tk := tk) x m
  refine ⟨P'.stat _ _ hf, ?_⟩
  obtain ⟨outer, hat, hF⟩ := P'.at
  subst hF
  exact c A outer vs Y _ R E hat D (Kn.kc P' (K.seq (tk := tk) x))
theorem EvE.callX (O : S.Ok) (hm : ∃ fa o fd, S.mg n = some (.ref fa) ∧ S.B.get? fa = some o ∧ o.data = .func fd) (h : EvEs S b sc δ μ (e :: es) (.exc u t) μ') (hk : sc.names.lookup n = some .globalImplicit) (hs : noStar (e :: es) := by intro _; rfl) (hd : (n == ("__debug__" : Str)) = false := by decide) :
    EvE S b sc δ μ (.Call (.Name n np) (e :: es) [] pos) (.exc u t) μ' := by
  with_unfolding_all
  refine byC fun hnC6 => ?_
  obtain ⟨fa, o, fd, hm, hf, hdat⟩ := hm
  refine hnC6 ?_
  intro A env Fs h₀ Xr Y Xs s R E P K
  refine wpAny_Call_Name_kw (O.global P hm hk ?_ hd)
  refine callWith_def (o := o) hdat ?_ (noStar_head hs env)
  rw [hs env]
  exact spliced_WEs (h A env Fs h₀ Xr Y Xs s _ E P K)
theorem EvE.call0 (O : S.Ok) (c : CalN S b n [] out) (hk : sc.names.lookup n = some .globalImplicit) (hd : (n == ("__debug__" : Str)) = false := by decide) : EvE S b sc δ μ (.Call (.Name n np) [] [] pos) out μ := by
  with_unfolding_all
  refine byC fun hnC7 => ?_
  obtain ⟨fa, o, fd, hm, hf, hdat, c⟩ := c
  refine hnC7 ?_
  intro A env Fs h₀ Xr Y Xs s R E P K
  refine wpAny_Call_Name_kw (O.global P hm hk ?_ hd)
  refine callWith_F0 (first := []) ?_ ?_
  · obtain ⟨oc, od, dt, sl⟩ := o
    simp only at hdat
    subst hdat
    exact ⟨oc, od, fd, sl, P.stat _ _ hf⟩
  · obtain ⟨outer, hat, hF⟩ := P.at
    subst hF
    exact c A outer [] Y _ R E hat trivial (Kn.kc P K)
end
end
section
variable [Pm]

noncomputable def KW (S : St) (b : Nat) (sc : Scope) (A : Around) (env : Env) (Fs : List Addr) (h₀ : Heap) (nr : Nat) (Xr Y₀ Y : List Addr) (s : Shared) (out : SO) (R : Result → Shared → Prop) : Prop := match out with
  | .next δ μ => ∀ h' tk Y' Xs, Sim S.B Fs Y s.heap h' → (∀ a ∈ Y', a ∈ Y ∨ s.heap.get? a = none) → PreS S b sc A env Fs h₀ nr Xr Y₀ Y' Xs δ μ { s with heap := h', toks := tk } → R (.ok .next) { s with heap := h', toks := tk }
  | .ret d μ => ∀ v h' tk δ Y Xs, PreS S b sc A env Fs h₀ nr Xr Y₀ Y Xs δ μ { s with heap := h', toks := tk } → DataIn Y₀ h' v d → R (.ok (.ret v)) { s with heap := h', toks := tk }
  | .exc u t => ∀ e h' tk L, env.frame = some L → Sim S.B Fs Xr h₀ h' → (∀ l, A.frames = some l → h'.FunFrames S.B l) → S.B.StaysIn h' → ExcW S h₀ h' e u t (some (rawInt L)) → R (.error (.ref e)) { s with heap := h', toks := tk }

section
variable {S : St} {b : Nat} {sc : Scope} {δ δ₁ δ₂ : List (Str × PyData)} {μ μ₁ μ₂ μ' : List (Str × Mut)} {e test value target : Expr} {es : List Expr} {pos p np : Pos} {d x y : PyData} {u : Bool} {t : Str} {ds : List PyData} {st : Stmt} {rest body orelse : List Stmt} {so : SO} {n : Str}
  {A : Around} {env : Env} {Fs : List Addr} {h₀ : Heap} {nr : Nat} {Xr Y₀ Y : List Addr} {Xs : List (List Addr)} {s : Shared} {R : Flow → Shared → Prop} {E : Value → Shared → Prop} {Rr : Result → Shared → Prop}

theorem KW.seq (K : KW S b sc A env Fs h₀ nr Xr Y₀ Y s so Rr) {h' : Heap} {tk : Nat} {Y' : List Addr} (x : Sim S.B Fs Y s.heap h') (hY : ∀ a ∈ Y', a ∈ Y ∨ s.heap.get? a = none) : KW S b sc A env Fs h₀ nr Xr Y₀ Y' { s with heap := h', toks := tk } so Rr := by
  cases so with
  | next δ μ => exact fun h'' tk' Y₂ Xs x' hY' P => K h'' tk' Y₂ Xs (x.trans x' hY) (fun a q => (hY' a q).elim (hY a) fun n => .inr (x.fresh n)) P
  | ret d μ => exact fun v h'' tk' δ Y Xs P => K v h'' tk' δ Y Xs P
  | exc u t => exact fun e h'' tk' => K e h'' tk'

/-- an exception passes the loop -/
theorem noted_of (P : PreS S b sc A env Fs h₀ nr Xr Y₀ Y Xs δ μ s) (K : KW S b sc A env Fs h₀ nr Xr Y₀ Y s (.exc u t) Rr) {e : Addr} {h' : Heap} {tk : Nat} (x : Sim S.B Fs Xr h₀ h') (hF : ∀ l, A.frames = some l → h'.FunFrames S.B l) (hs : S.B.StaysIn h') (X : ExcSt S env.frame h₀ h' e u t) :
    notedBy S.M A env (fun e s' => Rr (.error e) s') (.ref e) { s with heap := h', toks := tk } := by
  refine byC fun hnC1 => ?_
  obtain ⟨fenv, outer, L, h1, h2, h3, h4, h5, h6⟩ := P.pre.stack
  refine hnC1 ?_
  rw [h3] at X
  refine exc_note (s := { s with heap := h', toks := tk }) (Fs := Fs) h1 (hF _ h1) h2 h3 h4 X P.pre.base (fun a q => x.fresh q) fun h'' st X' => ?_
  refine K e h'' tk L h3 (st.sim x) (fun l hl => ?_) ?_ X'
  · obtain ⟨ys, _, q⟩ := st
    exact funFrames_sim q (hF l hl)
  · obtain ⟨ys, _, q⟩ := st
    exact q.st hs

theorem while_turn {R : Result → Shared → Prop}
    (h : wpAny S.M A (isTrue test env (eval test env)) (fun b s₂ =>
        if b then wpAny S.M A (execs body env) (fun f s₃ => match f with
            | .next | .cont => codeAny S.M A (.whileLoop test body orelse env) R s₃
            | .brk => R (.ok .next) s₃
            | .ret v => R (.ok (.ret v)) s₃) (notedBy S.M A env fun e s' => R (.error e) s') s₂
        else wpAny S.M A (execs orelse env) (fun f s₃ => R (.ok f) s₃) (notedBy S.M A env fun e s' => R (.error e) s') s₂)
        (notedBy S.M A env fun e s' => R (.error e) s') s) : codeAny S.M A (.whileLoop test body orelse env) R s := by
  refine codeAny_of_tree ?_
  show wpAny S.M A ((whileTurn test body orelse env).onRaise (fun x => do noteFrame x env; theTreesLotGoes x)) _ _ s
  refine wpAny_noted ?_
  simp only [whileTurn]
  refine wpAny_bind (wpAny_mono h (fun b s₂ h₂ => ?_) fun _ _ h' => h')
  cases b with
  | false =>
    simp only [Bool.false_eq_true, if_false] at h₂ ⊢
    exact wpAny_bind (wpAny_mono h₂ (fun f s₃ h₃ => wpAny_pure h₃) fun _ _ h' => h')
  | true =>
    simp only [if_true] at h₂ ⊢
    refine wpAny_bind (wpAny_mono h₂ (fun f s₃ h₃ => ?_) fun _ _ h' => h')
    cases f with
    | next => exact wpAny_pure ⟨rfl, h₃⟩
    | cont => exact wpAny_pure ⟨rfl, h₃⟩
    | brk => exact wpAny_pure h₃
    | ret v => exact wpAny_pure h₃

/-- while, as a whole -/
@[irreducible] def EvW (S : St) (b : Nat) (sc : Scope) (δ : List (Str × PyData)) (μ : List (Str × Mut)) (test : Expr) (body : List Stmt) (out : SO) : Prop :=
  ∀ A env Fs h₀ nr Xr Y₀ Y Xs s R, PreS S b sc A env Fs h₀ nr Xr Y₀ Y Xs δ μ s → KW S b sc A env Fs h₀ nr Xr Y₀ Y s out R → codeAny S.M A (.whileLoop test body [] env) R s

theorem EvW.stop (h : EvT S b sc δ μ test (.ok false) μ') : EvW S b sc δ μ test body (.next δ μ') := by
  with_unfolding_all
  intro A env Fs h₀ nr Xr Y₀ Y Xs s R P K
  refine while_turn (h A env Fs h₀ Xr Y Xs s _ _ P.pre fun v h' tk x m D => ?_)
  subst D
  exact wpAny_pure (K h' tk Y Xs (x.mono P.pre.sepY) (fun a q => .inl q) (P.next x m))
theorem EvW.turn (h : EvT S b sc δ μ test (.ok true) μ₁) (hb : EvSs S b sc δ μ₁ body (.next δ₂ μ₂)) (r : EvW S b sc δ₂ μ₂ test body so) : EvW S b sc δ μ test body so := by
  with_unfolding_all
  intro A env Fs h₀ nr Xr Y₀ Y Xs s R P K
  refine while_turn (h A env Fs h₀ Xr Y Xs s _ _ P.pre fun v h' tk x m D => ?_)
  subst D
  have P' := P.next (tk := tk) x m
  refine hb A env Fs h₀ nr Xr Y₀ Y Xs _ _ _ P' fun h'' tk' Y' Xs' x' hY' P'' => ?_
  exact r A env Fs h₀ nr Xr Y₀ Y' Xs' _ R P'' ((K.seq (tk := tk) (x.mono P.pre.sepY) fun a q => .inl q).seq x' hY')
theorem EvW.ret (h : EvT S b sc δ μ test (.ok true) μ₁) (hb : EvSs S b sc δ μ₁ body (.ret d μ₂)) : EvW S b sc δ μ test body (.ret d μ₂) := by
  with_unfolding_all
  intro A env Fs h₀ nr Xr Y₀ Y Xs s R P K
  refine while_turn (h A env Fs h₀ Xr Y Xs s _ _ P.pre fun v h' tk x m D => ?_)
  subst D
  have P' := P.next (tk := tk) x m
  exact hb A env Fs h₀ nr Xr Y₀ Y Xs _ _ _ P' fun v h'' tk' δ Y' Xs' P'' D => K v h'' tk' δ Y' Xs' P'' D
theorem EvW.exc (h : EvT S b sc δ μ test (.ok true) μ₁) (hb : EvSs S b sc δ μ₁ body (.exc u t)) : EvW S b sc δ μ test body (.exc u t) := by
  with_unfolding_all
  intro A env Fs h₀ nr Xr Y₀ Y Xs s R P K
  refine while_turn (h A env Fs h₀ Xr Y Xs s _ _ P.pre fun v h' tk x m D => ?_)
  subst D
  have P' := P.next (tk := tk) x m
  exact hb A env Fs h₀ nr Xr Y₀ Y Xs _ _ _ P' fun e h'' tk' x' hF hs X => noted_of (s := s) P K x' hF hs X

theorem cameBack_of (P : PreS S b sc A env Fs h₀ nr Xr Y₀ Y Xs δ μ s) (K : KS S b sc A env Fs h₀ nr Xr Y₀ Y s (.exc u t) R E) {e : Addr} {h' : Heap} {tk : Nat} {L : Addr} (hL : env.frame = some L) (x : Sim S.B Fs Xr h₀ h') (hF : ∀ l, A.frames = some l → h'.FunFrames S.B l) (hs : S.B.StaysIn h') (X : ExcW S h₀ h' e u t (some (rawInt L))) :
    cameBackBy S.M A env E (.ref e) { s with heap := h', toks := tk } := by
  have X' := X
  refine byC fun hnC2 => ?_
  obtain ⟨o, vs, dx, od, ents, n, h1, h2, h3, h4, h5, h6, h7, h8, h9, h10, h11, T, oT, ts, a1, a2⟩ := X
  refine hnC2 ?_
  unfold cameBackBy
  refine wpAny_bind (wpAny_field (s := { s with heap := h', toks := tk }) h1 h3 a1 ?_)
  rw [if_neg (by simp)]
  refine exc_flight (s := { s with heap := h', toks := tk }) (Fs := Fs) env.frame X' P.pre.base fun h₂ st X₂ => ?_
  refine K e h₂ tk (st.sim x) (fun l hl => ?_) ?_ (.inr (.inr ⟨L, hL, ?_⟩))
  · obtain ⟨ys, _, q⟩ := st
    exact funFrames_sim q (hF l hl)
  · obtain ⟨ys, _, q⟩ := st
    exact q.st hs
  · rw [hL] at X₂; exact X₂
theorem EvS.while (h : EvW S b sc δ μ test body so) : EvS S b sc δ μ (.While test body [] pos) so := by
  with_unfolding_all
  intro A env Fs h₀ nr Xr Y₀ Y Xs s R E P K
  refine wpAny_While (h A env Fs h₀ nr Xr Y₀ Y Xs s _ P ?_)
  cases so with
  | next δ μ => exact fun h' tk Y' Xs x hY P => K h' tk Y' Xs x hY P
  | ret d μ => exact fun v h' tk δ Y Xs P D => K v h' tk δ Y Xs P D
  | exc u t => exact fun e h' tk L hL x hF hs X => cameBack_of (s := s) P K hL x hF hs X
end
end
section
variable [Pm]

inductive It where
  | dat (d : PyData)
  | lst (ds : List PyData)

theorem HasMut.grow {Y Y' : List Addr} {h : Heap} (hy : ∀ a ∈ Y', a ∈ Y ∨ h.get? a = none) {v : Value} {xs : List Addr} : ∀ {m : Mut}, HasMut Y h v xs m → HasMut Y' h v xs m
  | .list ds, H => H.imp fun a H => H.imp fun o H => H.imp fun vs H => H.imp fun n H => H.imp id fun H => H.imp id fun H => H.imp id fun H => H.imp id fun H => H.imp id fun H => H.imp id fun hD => hD.imp fun v d q => q.grow hy
  | .inst C es, H => H.imp fun a H => H.imp fun dx H => H.imp fun o H => H.imp fun od H => H.imp fun ents H => H.imp fun n H => H.imp id fun H => H.imp id fun H => H.imp id fun H => H.imp id fun H => H.imp id fun H => H.imp id fun H => H.imp id fun H => H.imp id fun H => H.imp id fun H => H.imp id fun hE => hE.imp fun v d q => q.grow hy
theorem Muts.grow {Y Y' : List Addr} {h : Heap} {env : Env} (hy : ∀ a ∈ Y', a ∈ Y ∨ h.get? a = none) : ∀ {μ : List (Str × Mut)} {Xs : List (List Addr)}, Muts Y env h μ Xs → Muts Y' env h μ Xs
  | [], [], _ => trivial
  | _ :: _, _ :: _, ⟨⟨v, a, c⟩, r⟩ => ⟨⟨v, a, c.grow hy⟩, Muts.grow hy r⟩
  | [], _ :: _, q => q.elim
  | _ :: _, [], q => q.elim

section
variable {S : St} {b : Nat} {sc : Scope} {δ δ₁ δ₂ : List (Str × PyData)} {μ μ₁ μ₂ μ' μa μb : List (Str × Mut)} {e test value target : Expr} {es elts : List Expr} {pos p np tpos apos : Pos} {d x y : PyData} {u : Bool} {t : Str} {ds : List PyData} {st : Stmt} {rest body orelse : List Stmt} {so : SO} {n : Str} {its : List It}
  {A : Around} {env : Env} {Fs : List Addr} {h₀ : Heap} {nr : Nat} {Xr Y₀ Y : List Addr} {Xs : List (List Addr)} {s : Shared} {R : Flow → Shared → Prop} {E : Value → Shared → Prop}

theorem Pre.more (P : Pre S b sc A env Fs h₀ Xr Y Xs δ μ s) {h' : Heap} {a : Addr} {tk : Nat} (k : ∀ b o, s.heap.get? b = some o → h'.get? b = some o) (hn : s.heap.get? a = none) (al : ∃ o, h'.get? a = some o) : Pre S b sc A env Fs h₀ Xr (a :: Y) Xs δ μ { s with heap := h', toks := tk } :=
  have hy : ∀ c ∈ a :: Y, c ∈ Y ∨ s.heap.get? c = none := fun c q => by
    rcases List.mem_cons.mp q with rfl | q
    · exact .inr hn
    · exact .inl q
  have x : Sim S.B Fs [] s.heap h' := .of_keeps k
  { P with
    stack := let ⟨f, o, L, a, b, c, d, e, g⟩ := P.stack; ⟨f, o, L, a, b, c, d, funFrames_sim x e, g⟩
    stat := x.st P.stat
    hist := P.hist.trans x fun _ q => nomatch q
    loc := Loc.sim (Y := a :: Y) x ⟨(fun q => nomatch q), (fun _ _ _ q => nomatch q)⟩ (fun _ q => nomatch q) ⟨P.loc.ns, fun z dz e => let ⟨v, H, D⟩ := P.loc.dat z dz e; ⟨v, H, D.grow hy⟩⟩
    locY := ⟨.tail _ P.locY.1, P.locY.2⟩
    cellY := fun z c e => ⟨.tail _ (P.cellY z c e).1, (P.cellY z c e).2⟩
    cellE := fun q n h => (P.cellE q n h).keeps k
    muts := (P.muts.grow hy).sim x ⟨(fun q => nomatch q), (fun _ _ _ q => nomatch q)⟩ (fun _ q => nomatch q) fun _ _ q => nomatch q
    sepY := fun c q => .tail _ (P.sepY c q)
    yB := fun c q => by
      rcases List.mem_cons.mp q with rfl | q
      · exact none_base P.stat hn
      · exact P.yB c q
    fsY := fun c q => .tail _ (P.fsY c q)
    alloc := fun c q => by
      rcases List.mem_cons.mp q with rfl | q
      · exact al
      · let ⟨o, e⟩ := P.alloc c q; exact ⟨o, k _ _ e⟩ }
theorem PreS.more (P : PreS S b sc A env Fs h₀ nr Xr Y₀ Y Xs δ μ s) {h' : Heap} {a : Addr} {tk : Nat} (k : ∀ b o, s.heap.get? b = some o → h'.get? b = some o) (hn : s.heap.get? a = none) (al : ∃ o, h'.get? a = some o) : PreS S b sc A env Fs h₀ nr Xr Y₀ (a :: Y) Xs δ μ { s with heap := h', toks := tk } :=
  ⟨P.pre.more k hn al, P.xr, fun c q => ⟨.tail _ (P.y0 c q).1, (P.y0 c q).2⟩⟩

/-- items: data, and new lists that are to be turned; F their addresses -/
noncomputable def ItsIn (h₀ : Heap) (Y : List Addr) (h : Heap) : List Value → List It → List Addr → Prop
  | [], [], [] => True
  | v :: vs, .dat d :: its, F => DataIn Y h v d ∧ ItsIn h₀ Y h vs its F
  | v :: vs, .lst ds :: its, a :: F => (v = .ref a ∧ a ∈ Y ∧ h₀.get? a = none ∧ ∃ items, PlainL h a items ∧ DatasIn Y h items.toList ds) ∧ ItsIn h₀ Y h vs its F
  | _, _, _ => False
theorem ItsIn.sim {B : Heap} {Fs X : List Addr} {h h' : Heap} (x : Sim B Fs X h h') (hx : ∀ a ∈ X, a ∈ Y ∨ h.get? a = none) (hf : ∀ a ∈ Fs, a ∈ Y ∨ h.get? a = none) : ∀ {vs : List Value} {its : List It} {F : List Addr}, (∀ a ∈ F, a ∉ X) → ItsIn h₀ Y h vs its F → ItsIn h₀ Y h' vs its F
  | [], [], [], _, _ => trivial
  | _ :: _, .dat _ :: _, _, hF, ⟨a, r⟩ => ⟨a.sim x hx, ItsIn.sim x hx hf hF r⟩
  | _ :: _, .lst _ :: _, a :: F, hF, ⟨⟨h1, h2, h4, items, ⟨o, n, ho, hc, hdn, hd⟩, hD⟩, r⟩ => by
    obtain ⟨sl, e⟩ := x.at ho (hF a (.head _))
    exact ⟨⟨h1, h2, h4, items, ⟨_, n, e, hc, hdn, hd⟩, hD.imp fun v d q => q.sim x hx⟩, ItsIn.sim x hx hf (fun c q => hF c (.tail _ q)) r⟩
  | [], _ :: _, _, _, q => by cases q
  | [], [], _ :: _, _, q => by cases q
  | _ :: _, [], _, _, q => by cases q
  | _ :: _, .lst _ :: _, [], _, q => by cases q
@[irreducible] def EvIts (S : St) (b : Nat) (sc : Scope) (δ : List (Str × PyData)) (μ : List (Str × Mut)) (es : List Expr) (its : List It) (μ' : List (Str × Mut)) : Prop :=
  ∀ A env Fs h₀ nr Xr Y₀ Y Xs s R E, PreS S b sc A env Fs h₀ nr Xr Y₀ Y Xs δ μ s →
    (∀ vs h' tk Y' F, PreS S b sc A env Fs h₀ nr Xr Y₀ Y' Xs δ μ' { s with heap := h', toks := tk } → Sim S.B Fs Xs.flatten s.heap h' → (∀ a ∈ Y', a ∈ Y ∨ s.heap.get? a = none) → (∀ a ∈ Y, a ∈ Y') → (∀ a ∈ F, s.heap.get? a = none) → F.Nodup → ItsIn h₀ Y' h' vs its F → R vs { s with heap := h', toks := tk }) → WEs S.M A env es R E s

theorem EvIts.nil : EvIts S b sc δ μ [] [] μ := by
 with_unfolding_all exact fun A env Fs h₀ nr Xr Y₀ Y Xs s R E P K => K [] s.heap s.toks Y [] P (.refl ..) (fun a q => .inl q) (fun a q => q) (fun _ q => nomatch q) List.nodup_nil trivial
theorem EvIts.dat (h : EvE S b sc δ μ e (.ok d) μ₁) (r : EvIts S b sc δ μ₁ es its μ') : EvIts S b sc δ μ (e :: es) (.dat d :: its) μ' := by
  with_unfolding_all
  intro A env Fs h₀ nr Xr Y₀ Y Xs s R E P K
  refine h A env Fs h₀ Xr Y Xs s _ E P.pre fun v h' tk x m D => ?_
  refine r A env Fs h₀ nr Xr Y₀ Y Xs _ _ E (P.next (tk := tk) x m) fun vs h'' tk' Y' F P' x' hY hY' hF hN I => ?_
  refine K (v :: vs) h'' tk' Y' F P' (x.trans x' fun a q => .inl q) (fun a q => (hY a q).imp id fun z => x.fresh z) hY' (fun a q => x.fresh (hF a q)) hN ⟨?_, I⟩
  have D' := D.grow (Y' := Y') hY
  exact D'.sim x' fun a q => .inl (hY' a (P.pre.sepY a q))
theorem EvIts.new (r : EvIts S b sc δ μ es its μ') : EvIts S b sc δ μ (.List [] pos :: es) (.lst [] :: its) μ' := by
  with_unfolding_all
  intro A env Fs h₀ nr Xr Y₀ Y Xs s R E P K
  refine wpAny_List (wpAny_pure ⟨by decide, ?_⟩)
  have k : ∀ b o, s.heap.get? b = some o → (s.heap.push { cls := .type "list", data := .seq ([] : List Value).toArray }).get? b = some o := fun b o e => Heap.get?_push_of_some _ e
  have hn : s.heap.get? s.heap.objs.size = none := Heap.get?_none_of_le (Nat.le_refl _)
  have e := Heap.get?_push_size s.heap (o := { cls := .type "list", data := .seq ([] : List Value).toArray }) rfl
  have x : Sim S.B Fs Xs.flatten s.heap (s.heap.push { cls := .type "list", data := .seq ([] : List Value).toArray }) := .of_keeps k
  refine r A env Fs h₀ nr Xr Y₀ (s.heap.objs.size :: Y) Xs _ _ E (P.more (tk := s.toks) k hn ⟨_, e⟩) fun vs h'' tk' Y' F P' x' hY hY' hF hN I => ?_
  have hk : ∀ a ∈ Y', a ∈ Y ∨ s.heap.get? a = none := fun a q => by
    rcases hY a q with q | q
    · rcases List.mem_cons.mp q with rfl | q
      · exact .inr hn
      · exact .inl q
    · exact .inr (x.fresh q)
  have hX : s.heap.objs.size ∉ Xs.flatten := fun q => by
    obtain ⟨o, z⟩ := P.pre.alloc _ (P.pre.sepY _ q)
    rw [hn] at z; cases z
  obtain ⟨sl, e'⟩ := x'.at e hX
  refine K (.ref s.heap.objs.size :: vs) h'' tk' Y' (s.heap.objs.size :: F) P' (x.trans x' fun a q => .inl q) hk (fun a q => hY' a (.tail _ q)) (fun a q => ?_) (List.nodup_cons.mpr ⟨fun q => ?_, hN⟩) ⟨⟨rfl, hY' _ (.head _), P.pre.hist.fresh hn, _, ⟨_, _, e', rfl, rfl, rfl⟩, trivial⟩, I⟩
  · rcases List.mem_cons.mp q with rfl | q
    · exact hn
    · exact x.fresh (hF a q)
  · have := hF _ q
    rw [e] at this; cases this

/-! the items are bound to names -/
noncomputable def bindIts : List (Str × It) → List (Str × PyData) × List (Str × Mut) → List (Str × PyData) × List (Str × Mut)
  | [], q => q
  | (n, .dat d) :: r, (δ, μ) => bindIts r ((n, d) :: δ, μ)
  | (n, .lst ds) :: r, (δ, μ) => bindIts r (δ, μ ++ [(n, .list ds)])
noncomputable def bindOk (sc : Scope) : List (Str × It) → List (Str × PyData) × List (Str × Mut) → Prop
  | [], _ => True
  | (n, .dat d) :: r, (δ, μ) => sc.names.lookup n = some .local ∧ μ.lookup n = none ∧ bindOk sc r ((n, d) :: δ, μ)
  | (n, .lst ds) :: r, (δ, μ) => sc.names.lookup n = some .local ∧ μ.lookup n = none ∧ δ.lookup n = none ∧ bindOk sc r (δ, μ ++ [(n, .list ds)])

theorem muts_app {h : Heap} {v : Value} {m : Mut} {xs : List Addr} : ∀ {μ : List (Str × Mut)} {Xs : List (List Addr)}, Muts Y env h μ Xs → Holds h env n v → HasMut Y h v xs m → Muts Y env h (μ ++ [(n, m)]) (Xs ++ [xs])
  | [], [], _, H, M => ⟨⟨v, H, M⟩, trivial⟩
  | _ :: _, _ :: _, ⟨q, r⟩, H, M => ⟨q, muts_app r H M⟩
  | [], _ :: _, q, _, _ => q.elim
  | _ :: _, [], q, _, _ => q.elim
theorem Pre.bindMut {a : Addr} {items : Array Value} (P : Pre S b sc A env Fs h₀ Xr Y Xs δ μ s) (hk : sc.names.lookup n = some .local) (hμ : μ.lookup n = none) (hδ : δ.lookup n = none) (haY : a ∈ Y) (haX : a ∉ Xs.flatten) (haF : a ∉ Fs) (haN : a ≠ env.locals) (haC : ∀ x c, env.cells.lookup x = some c → c ≠ a) (ha0 : h₀.get? a = none)
    (hp : PlainL s.heap a items) (D : DatasIn Y s.heap items.toList ds) {Q : Unit → Shared → Prop}
    (K : ∀ h' tk, Sim S.B Fs [env.locals] s.heap h' → Pre S b sc A env Fs h₀ Xr Y (Xs ++ [[a]]) δ (μ ++ [(n, .list ds)]) { s with heap := h', toks := tk } → Q () { s with heap := h', toks := tk }) : wpAny S.M A (storeName env n (.ref a)) Q E s := by
  obtain ⟨m, N⟩ := P.loc.ns
  have hl : env.kindOf n = some .local := by unfold Env.kindOf; rw [P.sco]; exact hk
  refine wpAny_storeName_local hl N (fun h' N' hs => ?_) (by show (env.scope.kind == .class || (env.scope.kind == .module && env.locals != env.globals)) = false; rw [P.sk]; rfl)
  have x : Sim S.B Fs [env.locals] s.heap h' := sim_local N N' hs (P.yB _ P.locY.1)
  have hx : ∀ a ∈ [env.locals], a ∈ Y ∨ s.heap.get? a = none := fun a q => by cases List.mem_singleton.mp q; exact .inl P.locY.1
  refine K h' _ x ?_
  have fl : (Xs ++ [[a]]).flatten = Xs.flatten ++ [a] := by simp
  refine byC fun hnC1 => ?_
  obtain ⟨o, k, ho, hc, hdn, hd⟩ := hp
  obtain ⟨sl, e'⟩ := x.at ho (by simpa using haN)
  refine hnC1 ?_
  exact {
    depth := P.depth, units := P.units, handled := P.handled, sco := P.sco, kind := P.kind, globals := P.globals, builtins := P.builtins
    stack := let ⟨f, o, L, a, b, c, d, e, g⟩ := P.stack; ⟨f, o, L, a, b, c, d, funFrames_sim x e, g⟩
    base := P.base
    stat := x.st P.stat
    hist := P.hist.trans x fun a q => by cases List.mem_singleton.mp q; exact .inr P.locY.2
    loc := ⟨⟨_, N'⟩, fun z dz e => by
      have hz : z ≠ n := fun q => by rw [q, hδ] at e; cases e
      obtain ⟨w, H, Dw⟩ := P.loc.dat z dz e
      exact ⟨w, holds_local N N' hs H hz, Dw.sim x hx⟩⟩
    locY := P.locY
    cellY := P.cellY
    cellI := P.cellI
    cellE := fun q n h => (P.cellE q n h).loc x P.loc.ns
    muts := muts_app (muts_local N N' hs x P.locY.1 (fun a q => .inl (P.fsY a q)) (keys_ne hμ) (fun a q e => P.sepN.1 (e ▸ q)) P.muts) (.inl ⟨hl, _, N', by simp⟩) ⟨a, _, items, k, rfl, rfl, e', hc, hdn, hd, D.imp fun v d q => q.sim x hx⟩
    nodup := by rw [fl]; exact List.nodup_append.mpr ⟨P.nodup, by simp, fun c q c' q' => by cases List.mem_singleton.mp q'; exact fun z => haX (z ▸ q)⟩
    sepY := fun c q => by
      rw [fl] at q
      rcases List.mem_append.mp q with q | q
      · exact P.sepY c q
      · cases List.mem_singleton.mp q; exact haY
    sepF := fun c q => by
      rw [fl] at q
      rcases List.mem_append.mp q with q | q
      · exact P.sepF c q
      · cases List.mem_singleton.mp q; exact haF
    yB := P.yB, fsY := P.fsY
    sepN := by
      rw [fl]
      refine ⟨fun q => ?_, fun z c e q => ?_⟩
      · rcases List.mem_append.mp q with q | q
        · exact P.sepN.1 q
        · exact haN (List.mem_singleton.mp q).symm
      · rcases List.mem_append.mp q with q | q
        · exact P.sepN.2 z c e q
        · exact haC z c e (List.mem_singleton.mp q)
    sepH := fun c q => by
      rw [fl] at q
      rcases List.mem_append.mp q with q | q
      · exact P.sepH c q
      · cases List.mem_singleton.mp q; exact .inr ha0
    alloc := fun a h => let ⟨o, e⟩ := P.alloc a h; let ⟨o', e', _⟩ := x.on a o e; ⟨o', e'⟩ }

theorem store_all : ∀ (ps : List (Str × It)) (vs : List Value) (F : List Addr) (δ : List (Str × PyData)) (μ : List (Str × Mut)) (Xs : List (List Addr)) (s : Shared) (Q : Unit → Shared → Prop) (stores : List (Value → Sem Unit)),
    PreS S b sc A env Fs h₀ nr Xr Y₀ Y Xs δ μ s → ItsIn h₀ Y s.heap vs (ps.map (·.2)) F → F.Nodup → (∀ a ∈ F, a ∉ Xs.flatten ∧ a ∉ Fs ∧ a ≠ env.locals ∧ ∀ x c, env.cells.lookup x = some c → c ≠ a) → bindOk sc ps (δ, μ) → stores.length = ps.length →
    (∀ (i : Nat) f p, stores[i]? = some f → ps[i]? = some p → ∀ (v : Value) (Q : Unit → Shared → Prop) (E : Value → Shared → Prop) (s : Shared), wpAny S.M A (storeName env p.1 v) Q E s → wpAny S.M A (f v) Q E s) →
    (∀ h' tk Xs', Xs' = Xs ++ F.map (fun a => [a]) → Sim S.B Fs [env.locals] s.heap h' → PreS S b sc A env Fs h₀ nr Xr Y₀ Y Xs' (bindIts ps (δ, μ)).1 (bindIts ps (δ, μ)).2 { s with heap := h', toks := tk } → Q () { s with heap := h', toks := tk }) → wpAny S.M A (assignInOrder stores vs) Q E s := by
  intro ps
  induction ps with
  | nil =>
    intro vs F δ μ Xs s Q stores P I _ _ _ hl _ K
    cases stores with
    | cons => simp at hl
    | nil =>
      have hF : F = [] := by
        match vs, F, I with
        | [], [], _ => rfl
      exact wpAny_pure (K s.heap s.toks Xs (by rw [hF]; simp) (.refl ..) P)
  | cons p ps ih =>
    intro vs F δ μ Xs s Q stores P I hN hF ok hl hst K
    obtain ⟨n, it⟩ := p
    cases stores with
    | nil => simp at hl
    | cons f stores =>
      cases vs with
      | nil => cases it <;> simp [ItsIn] at I
      | cons v vs =>
        have hst' : ∀ (i : Nat) f p, stores[i]? = some f → ps[i]? = some p → ∀ (v : Value) (Q : Unit → Shared → Prop) (E : Value → Shared → Prop) (s : Shared), wpAny S.M A (storeName env p.1 v) Q E s → wpAny S.M A (f v) Q E s :=
          fun i f p h1 h2 => hst (i + 1) f p (by simpa using h1) (by simpa using h2)
        show wpAny S.M A (do holding vs (f v); assignInOrder stores vs) Q E s
        cases it with
        | dat d =>
          refine byC fun hnC2 => ?_
          obtain ⟨D, I⟩ := I
          obtain ⟨hk, hμ, ok⟩ := ok
          refine hnC2 ?_
          refine wpAny_bind (wpAny_holding (hst 0 f (n, .dat d) rfl rfl v _ _ _ (P.pre.bind hk (keys_ne hμ) D fun h' tk x P' => ?_)))
          exact ih vs F _ μ Xs _ Q stores ⟨P', P.xr, P.y0⟩ (ItsIn.sim x (fun a q => by cases List.mem_singleton.mp q; exact .inl P.pre.locY.1) (fun a q => .inl (P.pre.fsY a q)) (fun a q hm => (hF a q).2.2.1 (List.mem_singleton.mp hm)) I) hN hF ok (by simpa using hl) hst'
            fun h'' tk' Xs' hX x' P'' => K h'' tk' Xs' (by rw [hX]) (x.trans x' fun a q => .inl q) P''
        | lst ds =>
          cases F with
          | nil => simp [ItsIn] at I
          | cons a F =>
            refine byC fun hnC3 => ?_
            obtain ⟨⟨hv, haY, ha0, items, hp, D⟩, I⟩ := I
            obtain ⟨haF, hN⟩ := List.nodup_cons.mp hN
            obtain ⟨hk, hμ, hδ, ok⟩ := ok
            refine hnC3 ?_
            subst hv
            refine byC fun hnC4 => ?_
            obtain ⟨f1, f2, f3, f4⟩ := hF a (.head _)
            refine hnC4 ?_
            refine wpAny_bind (wpAny_holding (hst 0 f (n, .lst ds) rfl rfl (.ref a) _ _ _ (P.pre.bindMut hk hμ hδ haY f1 f2 (fun q => f3 q) f4 ha0 hp D fun h' tk x P' => ?_)))
            have hxr : isComp sc = false → Xr = ((Xs ++ [[a]]).take nr).flatten ∧ nr ≤ (Xs ++ [[a]]).length ∧ (nr = 0 ∨ byRef sc = true) := fun hc => let q := P.xr hc; ⟨by rw [List.take_append_of_le_length q.2.1]; exact q.1, by rw [List.length_append]; have := q.2.1; omega, q.2.2⟩
            refine ih vs F δ _ (Xs ++ [[a]]) _ Q stores ⟨P', hxr, P.y0⟩ (ItsIn.sim x (fun a q => by cases List.mem_singleton.mp q; exact .inl P.pre.locY.1) (fun a q => .inl (P.pre.fsY a q)) (fun c q hm => (hF c (.tail _ q)).2.2.1 (List.mem_singleton.mp hm)) I) hN (fun c q => ?_) ok (by simpa using hl) hst'
              fun h'' tk' Xs' hX x' P'' => K h'' tk' Xs' (by rw [hX]; simp) (x.trans x' fun a q => .inl q) P''
            refine byC fun hnC5 => ?_
            obtain ⟨g1, g2, g3, g4⟩ := hF c (.tail _ q)
            refine hnC5 ?_
            refine ⟨fun z => ?_, g2, g3, g4⟩
            rw [List.flatten_append] at z
            rcases List.mem_append.mp z with z | z
            · exact g1 z
            · simp at z; subst z; exact haF q

theorem ItsIn.snoc {h : Heap} {v : Value} {it : It} {G : List Addr} : ∀ {vs : List Value} {its : List It} {F : List Addr}, ItsIn h₀ Y h vs its F → ItsIn h₀ Y h [v] [it] G → ItsIn h₀ Y h (vs ++ [v]) (its ++ [it]) (F ++ G)
  | [], [], [], _, q => q
  | _ :: _, .dat _ :: _, _, ⟨a, r⟩, q => ⟨a, ItsIn.snoc r q⟩
  | _ :: _, .lst _ :: _, _ :: _, ⟨a, r⟩, q => ⟨a, ItsIn.snoc r q⟩
  | [], _ :: _, _, q, _ => by cases q
  | [], [], _ :: _, q, _ => by cases q
  | _ :: _, [], _, q, _ => by cases q
  | _ :: _, .lst _ :: _, [], q, _ => by cases q
theorem ItsIn.rev {h : Heap} : ∀ {vs : List Value} {its : List It} {F : List Addr}, ItsIn h₀ Y h vs its F → ItsIn h₀ Y h vs.reverse its.reverse F.reverse
  | [], [], [], _ => trivial
  | v :: vs, .dat d :: its, F, ⟨a, r⟩ => by
    rw [List.reverse_cons, List.reverse_cons]
    have := (ItsIn.rev r).snoc (v := v) (it := .dat d) (G := []) ⟨a, trivial⟩
    rwa [List.append_nil] at this
  | v :: vs, .lst ds :: its, a :: F, ⟨q, r⟩ => by
    rw [List.reverse_cons, List.reverse_cons, List.reverse_cons]
    exact (ItsIn.rev r).snoc (v := v) (it := .lst ds) (G := [a]) ⟨q, trivial⟩
  | [], _ :: _, _, q => by cases q
  | [], [], _ :: _, q => by cases q
  | _ :: _, [], _, q => by cases q
  | _ :: _, .lst _ :: _, [], q => by cases q
theorem ItsIn.length {h : Heap} : ∀ {vs : List Value} {its : List It} {F : List Addr}, ItsIn h₀ Y h vs its F → vs.length = its.length
  | [], [], _, _ => rfl
  | _ :: _, .dat _ :: _, _, ⟨_, r⟩ => congrArg (· + 1) (ItsIn.length r)
  | _ :: _, .lst _ :: _, _ :: _, ⟨_, r⟩ => congrArg (· + 1) (ItsIn.length r)
  | [], _ :: _, _, q => by cases q
  | _ :: _, [], _, q => by cases q
  | _ :: _, .lst _ :: _, [], q => by cases q
theorem ItsIn.of_data {h : Heap} : ∀ {vs : List Value} {ds : List PyData}, DatasIn Y h vs ds → ItsIn h₀ Y h vs (ds.map .dat) []
  | [], [], _ => trivial
  | _ :: _, _ :: _, ⟨a, r⟩ => ⟨a, ItsIn.of_data r⟩
  | [], _ :: _, x => x.elim
  | _ :: _, [], x => x.elim

theorem nodup_rev {F : List Addr} (h : F.Nodup) : F.reverse.Nodup := by unfold List.Nodup at h ⊢; rw [List.pairwise_reverse]; exact h.imp fun q => Ne.symm q
theorem assignEach_names (ns : List (Str × Pos)) (env : Env) : assignEach (ns.map fun p => .Name p.1 p.2) env = ns.map fun p => (false, assign (.Name p.1 p.2) env) := by
  induction ns with
  | nil => simp [assignEach]
  | cons p ns ih => simp only [List.map_cons, assignEach, ih]

theorem new_ok (P : PreS S b sc A env Fs h₀ nr Xr Y₀ Y Xs δ μ s) {a : Addr} (hn : s.heap.get? a = none) : a ∉ Xs.flatten ∧ a ∉ Fs ∧ a ≠ env.locals ∧ ∀ x c, env.cells.lookup x = some c → c ≠ a := by
  have al : ∀ c ∈ Y, c ≠ a := fun c q e => by obtain ⟨o, z⟩ := P.pre.alloc c q; rw [e, hn] at z; cases z
  exact ⟨fun q => al a (P.pre.sepY a q) rfl, fun q => al a (P.pre.fsY a q) rfl, fun q => al a (q ▸ P.pre.locY.1) rfl, fun x c e => al c (P.pre.cellY x c e).1⟩

/-- a tuple's items are stored, in the order of the names or from behind -/
theorem EvS.tup (rev : Bool) (ns : List (Str × Pos)) {k k' : Nat} {tp : Pos} (he : elts = ns.map fun p => .Name p.1 p.2) (h : EvIts S b sc δ μ es its μ') (hl : its.length = ns.length)
    (ok : bindOk sc (if rev then ((ns.map (·.1)).zip its).reverse else (ns.map (·.1)).zip its) (δ, μ'))
    (hw : ∀ env, env.scope = sc → swappedStores [.Tuple elts k tpos] (.Tuple es k' tp) env = pure (if rev then some (ns.map (·.1)) else none)) (hs : noStar es := by intro _; rfl) (hz : its.length ≤ sizeLine := by decide) :
    EvS S b sc δ μ (.Assign [.Tuple elts k tpos] (.Tuple es k' tp) pos) (.next (bindIts (if rev then ((ns.map (·.1)).zip its).reverse else (ns.map (·.1)).zip its) (δ, μ')).1 (bindIts (if rev then ((ns.map (·.1)).zip its).reverse else (ns.map (·.1)).zip its) (δ, μ')).2) := by
  with_unfolding_all
  subst he
  intro A env Fs h₀ nr Xr Y₀ Y Xs s R E P K
  have hzl : ((ns.map (·.1)).zip its).map (·.2) = its := List.map_snd_zip (by rw [List.length_map]; omega)
  have key : ∀ vs h' tk Y' F, PreS S b sc A env Fs h₀ nr Xr Y₀ Y' Xs δ μ' { s with heap := h', toks := tk } → Sim S.B Fs Xs.flatten s.heap h' → (∀ a ∈ Y', a ∈ Y ∨ s.heap.get? a = none) → (∀ a ∈ Y, a ∈ Y') → (∀ a ∈ F, s.heap.get? a = none) → F.Nodup → ItsIn h₀ Y' h' vs its F →
      ∀ h'', Heap.ExtBut (h'.push { cls := .type "tuple", data := .seq vs.toArray }).objs.size (h'.push { cls := .type "tuple", data := .seq vs.toArray }) h'' →
        ∀ (stores : List (Value → Sem Unit)), stores.length = ns.length → (∀ (i : Nat) f p, stores[i]? = some f → (if rev then ((ns.map (·.1)).zip its).reverse else (ns.map (·.1)).zip its)[i]? = some p → ∀ (v : Value) (Q : Unit → Shared → Prop) (E : Value → Shared → Prop) (s : Shared), wpAny S.M A (storeName env p.1 v) Q E s → wpAny S.M A (f v) Q E s) →
          wpAny S.M A (assignInOrder stores (if rev then vs.reverse else vs)) (fun _ => R .next) E { s with heap := h'', toks := tk } := by
    intro vs h' tk Y' F P' x hY hY' hF hN I h'' hx stores hsl hst
    have kk : ∀ b o, h'.get? b = some o → h''.get? b = some o := fun b o e => hx b o (Nat.ne_of_lt (Heap.lt_size (Heap.get?_push_of_some _ e))) (Heap.get?_push_of_some _ e)
    have xk : Sim S.B Fs Xs.flatten h' h'' := .of_keeps kk
    have P'' : PreS S b sc A env Fs h₀ nr Xr Y₀ Y' Xs δ μ' { s with heap := h'', toks := tk } := P'.next (tk := tk) xk (P'.pre.muts.sim (X := []) (B := S.B) (Fs := Fs) (.of_keeps kk) ⟨(fun q => nomatch q), (fun _ _ _ q => nomatch q)⟩ (fun _ q => nomatch q) fun _ _ q => nomatch q)
    have I' : ItsIn h₀ Y' h'' vs its F := ItsIn.sim (B := S.B) (Fs := []) (X := []) (.of_keeps kk) (fun _ q => nomatch q) (fun _ q => nomatch q) (fun _ _ q => nomatch q) I
    have hF' : ∀ a ∈ F, a ∉ Xs.flatten ∧ a ∉ Fs ∧ a ≠ env.locals ∧ ∀ x c, env.cells.lookup x = some c → c ≠ a := fun a q => new_ok P (hF a q)
    have fin : ∀ h₃ tk' Xs', True → Sim S.B Fs [env.locals] h'' h₃ → PreS S b sc A env Fs h₀ nr Xr Y₀ Y' Xs' (bindIts (if rev then ((ns.map (·.1)).zip its).reverse else (ns.map (·.1)).zip its) (δ, μ')).1 (bindIts (if rev then ((ns.map (·.1)).zip its).reverse else (ns.map (·.1)).zip its) (δ, μ')).2 { s with heap := h₃, toks := tk' } → R .next { s with heap := h₃, toks := tk' } := fun h₃ tk' Xs' _ x₃ P₃ =>
      K h₃ tk' Y' Xs' (((x.trans xk fun a q => .inl q).mono P.pre.sepY).trans x₃ fun a q => by cases List.mem_singleton.mp q; exact .inl P.pre.locY.1) hY P₃
    cases rev with
    | false => exact store_all _ vs F δ μ' Xs _ _ stores P'' (by simp only [Bool.false_eq_true, if_false]; rw [hzl]; exact I') hN hF' ok (by simp only [Bool.false_eq_true, if_false, List.length_zip, List.length_map]; omega) hst fun h₃ tk' Xs' _ => fin h₃ tk' Xs' trivial
    | true => exact store_all _ vs.reverse F.reverse δ μ' Xs _ _ stores P'' (by simp only [if_true]; rw [List.map_reverse, hzl]; exact I'.rev) (nodup_rev hN) (fun a q => hF' a (List.mem_reverse.mp q)) ok (by simp only [if_true, List.length_reverse, List.length_zip, List.length_map]; omega) hst fun h₃ tk' Xs' _ => fin h₃ tk' Xs' trivial
  have evl : ∀ Q : Value → Shared → Prop, (∀ vs h' tk Y' F, PreS S b sc A env Fs h₀ nr Xr Y₀ Y' Xs δ μ' { s with heap := h', toks := tk } → Sim S.B Fs Xs.flatten s.heap h' → (∀ a ∈ Y', a ∈ Y ∨ s.heap.get? a = none) → (∀ a ∈ Y, a ∈ Y') → (∀ a ∈ F, s.heap.get? a = none) → F.Nodup → ItsIn h₀ Y' h' vs its F → Q (.ref h'.objs.size) { s with heap := h'.push { cls := .type "tuple", data := .seq vs.toArray }, toks := tk }) → wpAny S.M A (eval (.Tuple es k' tp) env) Q E s := by
    intro Q hQ
    refine wpAny_Tuple ?_
    rw [hs env]
    exact spliced_WEs (h A env Fs h₀ nr Xr Y₀ Y Xs s _ E P fun vs h' tk Y' F P' x hY hY' hF hN I => ⟨by rw [I.length]; exact hz, hQ vs h' tk Y' F P' x hY hY' hF hN I⟩)
  cases rev with
  | false =>
    refine Assign_Tuple (evl _ fun vs h' tk Y' F P' x hY hY' hF hN I => ?_) rfl (hw env P.pre.sco)
    refine assign_Tuple_tuple (items := vs.toArray) P.pre.handled ⟨_, Heap.get?_push_size _ rfl, rfl, _, rfl⟩ ?_ ?_ fun h'' hx => ?_
    · rw [assignEach_names, List.length_map, List.size_toArray, I.length]; omega
    · rw [assignEach_names, List.findIdx?_eq_none_iff]; intro z hz'; obtain ⟨_, _, rfl⟩ := List.mem_map.mp hz'; rfl
    · refine key vs h' tk Y' F P' x hY hY' hF hN I h'' hx _ (by rw [assignEach_names]; simp) fun i f p h1 h2 v Q E s q => ?_
      rw [assignEach_names, List.map_map, List.getElem?_map] at h1
      simp only [Bool.false_eq_true, if_false] at h2
      cases e : ns[i]? with
      | none => rw [e] at h1; cases h1
      | some z =>
        rw [e] at h1; cases h1
        rw [List.getElem?_zip_eq_some] at h2
        rw [List.getElem?_map, e] at h2
        have : p.1 = z.1 := (Option.some.inj h2.1).symm
        exact assign_Name (this ▸ q)
  | true =>
    refine Assign_Tuple_swapped (names := ns.map fun p : Str × Pos => p.1) (evl _ fun vs h' tk Y' F P' x hY hY' hF hN I => ?_) rfl (by have q := hw env P.pre.sco; simpa using q)
    have hlen : (ns.map (·.1)).length = vs.toArray.size := by rw [List.length_map, List.size_toArray, I.length]; omega
    rw [hlen]
    refine unpackItems_tuple (items := vs.toArray) P.pre.handled ⟨_, Heap.get?_push_size _ rfl, rfl, _, rfl⟩ fun h'' hx => ?_
    refine key vs h' tk Y' F P' x hY hY' hF hN I h'' hx _ (by simp) fun i f p h1 h2 v Q E s q => ?_
    simp only [if_true] at h2
    rw [List.getElem?_map] at h1
    cases e : (ns.map (·.1)).reverse[i]? with
    | none => rw [e] at h1; cases h1
    | some z =>
      rw [e] at h1; cases h1
      have h3 : (((ns.map (·.1)).zip its).reverse.map (·.1))[i]? = some p.1 := by rw [List.getElem?_map, h2]; rfl
      rw [List.map_reverse, List.map_fst_zip (by rw [List.length_map]; omega), e] at h3
      cases h3
      exact bindName_ q
end
end
section
variable [Pm]

section
variable {S : St} {b : Nat} {sc : Scope} {δ δ₁ δ₂ : List (Str × PyData)} {μ μ₁ μ₂ μ' μa μb : List (Str × Mut)} {e test value target : Expr} {es elts : List Expr} {pos p np tpos apos : Pos} {d x y : PyData} {u : Bool} {t : Str} {ds : List PyData} {st : Stmt} {rest body orelse : List Stmt} {so : SO} {n : Str} {its : List It} {i j : Int}
  {A : Around} {env : Env} {Fs : List Addr} {h₀ : Heap} {nr : Nat} {Xr Y₀ Y : List Addr} {Xs : List (List Addr)} {s : Shared} {R : Flow → Shared → Prop} {E : Value → Shared → Prop}

/-- a datum is stored in a target -/
@[irreducible] def EvA (S : St) (b : Nat) (sc : Scope) (δ : List (Str × PyData)) (μ : List (Str × Mut)) (target : Expr) (d : PyData) (δ' : List (Str × PyData)) : Prop :=
  ∀ A env Fs h₀ nr Xr Y₀ Y Xs s Q E v, PreS S b sc A env Fs h₀ nr Xr Y₀ Y Xs δ μ s → DataIn Y s.heap v d → (∀ h' tk, Sim S.B Fs [env.locals] s.heap h' → PreS S b sc A env Fs h₀ nr Xr Y₀ Y Xs δ' μ { s with heap := h', toks := tk } → Q () { s with heap := h', toks := tk }) → wpAny S.M A (assign target env v) Q E s
theorem EvA.name (hk : sc.names.lookup n = some .local) (hμ : μ.lookup n = none := by rfl) : EvA S b sc δ μ (.Name n np) d ((n, d) :: δ) := by
  with_unfolding_all
  intro A env Fs h₀ nr Xr Y₀ Y Xs s Q E v P D K
  exact assign_Name (P.pre.bind hk (keys_ne hμ) D fun h' tk x P' => K h' tk x ⟨P', P.xr, P.y0⟩)

noncomputable def bindDs : List (Str × PyData) → List (Str × PyData) → List (Str × PyData)
  | [], δ => δ
  | p :: r, δ => bindDs r (p :: δ)
noncomputable def bindDsOk (sc : Scope) (μ : List (Str × Mut)) : List (Str × PyData) → Prop
  | [] => True
  | (n, _) :: r => sc.names.lookup n = some .local ∧ μ.lookup n = none ∧ bindDsOk sc μ r
theorem bindDs_its : ∀ {ps : List (Str × PyData)} {δ : List (Str × PyData)}, bindIts (ps.map fun p => (p.1, .dat p.2)) (δ, μ) = (bindDs ps δ, μ)
  | [], _ => rfl
  | _ :: r, _ => bindDs_its (ps := r)
theorem bindDs_ok : ∀ {ps : List (Str × PyData)} {δ : List (Str × PyData)}, bindDsOk sc μ ps → bindOk sc (ps.map fun p => (p.1, .dat p.2)) (δ, μ)
  | [], _, _ => trivial
  | _ :: r, _, ⟨h1, h2, h3⟩ => ⟨h1, h2, bindDs_ok (ps := r) h3⟩
theorem zip_dat : ∀ {xs : List Str} {ds : List PyData}, xs.zip (ds.map It.dat) = (xs.zip ds).map fun p => (p.1, .dat p.2)
  | [], _ => by simp
  | _ :: _, [] => by simp
  | x :: xs, d :: ds => by rw [List.map_cons, List.zip_cons_cons, List.zip_cons_cons, List.map_cons, zip_dat]

theorem EvA.tup (ns : List (Str × Pos)) {k : Nat} (he : elts = ns.map fun p => .Name p.1 p.2) (hl : ds.length = ns.length) (ok : bindDsOk sc μ ((ns.map (·.1)).zip ds)) : EvA S b sc δ μ (.Tuple elts k tpos) (.tuple ds) (bindDs ((ns.map (·.1)).zip ds) δ) := by
  with_unfolding_all
  subst he
  intro A env Fs h₀ nr Xr Y₀ Y Xs s Q E v P D K
  have hzl : ((ns.map (·.1)).zip (ds.map It.dat)).map (·.2) = ds.map It.dat := List.map_snd_zip (by rw [List.length_map, List.length_map]; omega)
  refine byC fun hnC1 => ?_
  obtain ⟨a, items, rfl, ht, hd⟩ := D.tup
  refine hnC1 ?_
  have hil : items.size = ds.length := by rw [← Array.length_toList]; exact hd.length
  refine assign_Tuple_tuple P.pre.handled ht ?_ ?_ fun h'' hx => ?_
  · rw [assignEach_names, List.length_map]; omega
  · rw [assignEach_names, List.findIdx?_eq_none_iff]; intro z hz'; obtain ⟨_, _, rfl⟩ := List.mem_map.mp hz'; rfl
  · have kk : ∀ b o, s.heap.get? b = some o → h''.get? b = some o := fun b o e => hx b o (Nat.ne_of_lt (Heap.lt_size e)) e
    have P'' : PreS S b sc A env Fs h₀ nr Xr Y₀ Y Xs δ μ { s with heap := h'' } := P.next (tk := s.toks) (.of_keeps kk) (P.pre.muts.sim (X := []) (B := S.B) (Fs := Fs) (.of_keeps kk) ⟨(fun q => nomatch q), (fun _ _ _ q => nomatch q)⟩ (fun _ q => nomatch q) fun _ _ q => nomatch q)
    refine store_all _ items.toList [] δ μ Xs _ _ _ P'' (by rw [hzl]; exact .of_data (hd.push kk)) List.nodup_nil (fun _ q => nomatch q) (by rw [zip_dat]; exact bindDs_ok ok) (by rw [assignEach_names]; simp; omega) (fun i f p h1 h2 v Q E s q => ?_)
      fun h₃ tk' Xs' hXs x₃ P₃ => ?_
    · rw [assignEach_names, List.map_map, List.getElem?_map] at h1
      cases e : ns[i]? with
      | none => rw [e] at h1; cases h1
      | some z =>
        rw [e] at h1; cases h1
        rw [List.getElem?_zip_eq_some] at h2
        rw [List.getElem?_map, e] at h2
        have : p.1 = z.1 := (Option.some.inj h2.1).symm
        exact assign_Name (this ▸ q)
    · rw [zip_dat, bindDs_its] at P₃
      rw [List.map_nil, List.append_nil] at hXs
      subst hXs
      exact K h₃ tk' ((Sim.of_keeps (X := []) kk |>.mono fun _ q => nomatch q).trans x₃ fun a q => .inl q) P₃
theorem EvS.unpack {δ' : List (Str × PyData)} {k : Nat} (h : EvE S b sc δ μ value (.ok d) μ') (ha : EvA S b sc δ μ' (.Tuple elts k tpos) d δ')
    (hw : ∀ env, swappedStores [.Tuple elts k tpos] value env = pure none := by intro _; rfl) (hs : ∀ env, swapsWithSole [.Tuple elts k tpos] value pos.line env = pure false := by intro _; rfl) :
    EvS S b sc δ μ (.Assign [.Tuple elts k tpos] value pos) (.next δ' μ') := by
  with_unfolding_all
  intro A env Fs h₀ nr Xr Y₀ Y Xs s R E P K
  refine Assign_Tuple (h A env Fs h₀ Xr Y Xs s _ E P.pre fun v h' tk x m D => ?_) (hs env) (hw env)
  refine ha A env Fs h₀ nr Xr Y₀ Y Xs _ _ E v (P.next (tk := tk) x m) D fun h₃ tk' x₃ P₃ => ?_
  exact K h₃ tk' Y Xs ((x.mono P.pre.sepY).trans x₃ fun a q => by cases List.mem_singleton.mp q; exact .inl P.pre.locY.1) (fun a q => .inl q) P₃
theorem EvS.unpackX {k : Nat} (h : EvE S b sc δ μ value (.exc u t) μ') (hw : ∀ env, swappedStores [.Tuple elts k tpos] value env = pure none := by intro _; rfl) (hs : ∀ env, swapsWithSole [.Tuple elts k tpos] value pos.line env = pure false := by intro _; rfl) :
    EvS S b sc δ μ (.Assign [.Tuple elts k tpos] value pos) (.exc u t) := by
  with_unfolding_all
  intro A env Fs h₀ nr Xr Y₀ Y Xs s R E P K
  exact Assign_Tuple (h A env Fs h₀ Xr Y Xs s _ E P.pre (K.raise P)) (hs env) (hw env)

theorem prim_iadd : Prim S (two (inplaceOp .Add)) [.int i, .int j] (.int (i + j)) := by
  with_unfolding_all
  intro A Y vs R E s hh hu hs hY D k
  refine byC fun hnC2 => ?_
  obtain ⟨v, w, rfl, p, q⟩ := datas2 D
  obtain ⟨t, rfl⟩ := p.int; obtain ⟨t', rfl⟩ := q.int
  refine hnC2 ?_
  exact iadd_int (k _ s.heap _ keepsSame dataInt)
theorem prim_isub : Prim S (two (inplaceOp .Sub)) [.int i, .int j] (.int (i - j)) := by
  with_unfolding_all
  intro A Y vs R E s hh hu hs hY D k
  refine byC fun hnC3 => ?_
  obtain ⟨v, w, rfl, p, q⟩ := datas2 D
  obtain ⟨t, rfl⟩ := p.int; obtain ⟨t', rfl⟩ := q.int
  refine hnC3 ?_
  exact isub_int (k _ s.heap _ keepsSame dataInt)
theorem EvS.aug {op : Operator} (hx : δ.lookup n = some x) (h : EvE S b sc δ μ value (.ok y) μ') (p : Prim S (two (inplaceOp op)) [x, y] d) (hk : sc.names.lookup n = some .local) (hμ : μ'.lookup n = none := by rfl) :
    EvS S b sc δ μ (.AugAssign (.Name n np) op value pos) (.next ((n, d) :: δ) μ') := by
  with_unfolding_all
  intro A env Fs h₀ nr Xr Y₀ Y Xs s R E P K
  obtain ⟨v, H, D⟩ := P.pre.loc.dat n x hx
  refine wpAny_AugAssign_Name (load_holds P.pre.sk H (h A env Fs h₀ Xr Y Xs s _ E P.pre fun w h' tk xx m D' => ?_))
  have P' := P.next (tk := tk) xx m
  refine p A Y [v, w] _ E _ P'.pre.handled (by have := P'.pre.units; omega) P'.pre.stat P'.pre.alloc ⟨D.sim xx fun a q => .inl (P.pre.sepY a q), D', trivial⟩ fun r h'' tk' k D'' => ?_
  have P'' : PreS S b sc A env Fs h₀ nr Xr Y₀ Y Xs δ μ' { s with heap := h'', toks := tk' } := P'.next (tk := tk') (.of_keeps k) (P'.pre.muts.sim (X := []) (B := S.B) (Fs := Fs) (.of_keeps k) ⟨(fun q => nomatch q), (fun _ _ _ q => nomatch q)⟩ (fun _ q => nomatch q) fun _ _ q => nomatch q)
  refine P''.pre.bind hk (keys_ne hμ) D'' fun h₃ tk₃ x₃ P₃ => K h₃ tk₃ Y Xs (((xx.trans (X' := Xs.flatten) (.of_keeps k) fun a q => .inl q).mono P.pre.sepY).trans x₃ fun a q => by cases List.mem_singleton.mp q; exact .inl P.pre.locY.1) (fun a q => .inl q) ⟨P₃, P.xr, P.y0⟩

/-- x = [] -/
theorem ItsIn.lone {h : Heap} {v : Value} : ∀ {F : List Addr}, ItsIn h₀ Y h [v] [.lst ds] F → ∃ a, F = [a] ∧ v = .ref a ∧ a ∈ Y ∧ h₀.get? a = none ∧ ∃ items, PlainL h a items ∧ DatasIn Y h items.toList ds
  | [], q => by cases q
  | [a], q => ⟨a, rfl, q.1⟩
  | _ :: _ :: _, q => by cases q.2
theorem EvS.new {p : Pos} (hk : sc.names.lookup n = some .local) (hμ : μ.lookup n = none := by rfl) (hδ : δ.lookup n = none := by rfl) : EvS S b sc δ μ (.Assign [.Name n np] (.List [] p) pos) (.next δ (μ ++ [(n, .list [])])) := by
  with_unfolding_all
  intro A env Fs h₀ nr Xr Y₀ Y Xs s R E P K
  have h := (EvIts.new (pos := p) EvIts.nil : EvIts S b sc δ μ [.List [] p] [.lst []] μ) A env Fs h₀ nr Xr Y₀ Y Xs s (fun vs s₁ => ∀ v, vs = [v] → wpAny S.M A (storeName env n v) (fun _ => R .next) E s₁) E P ?_
  · exact wpAny_Assign_Name (wpAny_mono h (fun v s₁ h₁ => h₁ v rfl) fun _ _ x => x)
  intro vs h' tk Y' F P' x hY hY' hF hN I v hv
  subst hv
  refine byC fun hnC4 => ?_
  obtain ⟨a, hFa, hv, haY, ha0, items, hp, D⟩ := I.lone
  refine hnC4 ?_
  subst hv; subst hFa
  refine byC fun hnC5 => ?_
  obtain ⟨f1, f2, f3, f4⟩ := new_ok P (hF a (.head _))
  refine hnC5 ?_
  refine P'.pre.bindMut hk hμ hδ haY f1 f2 (fun q => f3 q) f4 ha0 hp D fun h'' tk' x' P'' => ?_
  refine K h'' tk' Y' (Xs ++ [[a]]) ((x.mono P.pre.sepY).trans x' fun c q => ?_) hY ⟨P'', fun hc => let q := P.xr hc; ⟨?_, ?_, q.2.2⟩, P'.y0⟩
  · cases List.mem_singleton.mp q; exact .inl P.pre.locY.1
  · rw [List.take_append_of_le_length q.2.1]; exact q.1
  · rw [List.length_append]; have := q.2.1; omega

/-! a list of one's own is turned -/
theorem muts_split {h : Heap} {m : Mut} : ∀ {μa : List (Str × Mut)} {Xs : List (List Addr)}, Muts Y env h (μa ++ (n, m) :: μb) Xs → ∃ Xa xs Xb v, Xs = Xa ++ xs :: Xb ∧ Xa.length = μa.length ∧ Muts Y env h μa Xa ∧ Holds h env n v ∧ HasMut Y h v xs m ∧ Muts Y env h μb Xb
  | [], xs :: Xb, ⟨⟨v, H, M⟩, r⟩ => ⟨[], xs, Xb, v, rfl, rfl, trivial, H, M, r⟩
  | p :: μa, ys :: Xs, ⟨q, r⟩ => by
    refine byC fun hnC6 => ?_
    obtain ⟨Xa, xs, Xb, v, e, hl, h1, h2, h3, h4⟩ := muts_split r
    refine hnC6 ?_
    exact ⟨ys :: Xa, xs, Xb, v, by rw [e]; rfl, by rw [List.length_cons, List.length_cons, hl], ⟨q, h1⟩, h2, h3, h4⟩
  | [], [], q => q.elim
  | _ :: _, [], q => q.elim
theorem muts_join {h : Heap} {m : Mut} {v : Value} {xs : List Addr} : ∀ {μa : List (Str × Mut)} {Xa Xb : List (List Addr)}, Muts Y env h μa Xa → Holds h env n v → HasMut Y h v xs m → Muts Y env h μb Xb → Muts Y env h (μa ++ (n, m) :: μb) (Xa ++ xs :: Xb)
  | [], [], _, _, H, M, r => ⟨⟨v, H, M⟩, r⟩
  | _ :: _, _ :: _, _, ⟨q, r⟩, H, M, z => ⟨q, muts_join r H M z⟩
  | [], _ :: _, _, q, _, _, _ => q.elim
  | _ :: _, [], _, q, _, _, _ => q.elim

/-- one of the things that may be turned -/
theorem Pre.one {m : Mut} (P : Pre S b sc A env Fs h₀ Xr Y Xs δ (μa ++ (n, m) :: μb) s) : ∃ v xs, (∀ a ∈ xs, a ∈ Xs.flatten) ∧ Holds s.heap env n v ∧ HasMut Y s.heap v xs m ∧
    ∀ h' m', Sim S.B Fs xs s.heap h' → HasMut Y h' v xs m' → Muts Y env h' (μa ++ (n, m') :: μb) Xs := by
  refine byC fun hnC7 => ?_
  obtain ⟨Xa, xs, Xb, v, rfl, hl, h1, h2, h3, h4⟩ := muts_split P.muts
  refine hnC7 ?_
  have fl : (Xa ++ xs :: Xb).flatten = Xa.flatten ++ (xs ++ Xb.flatten) := by simp
  have sub : ∀ a ∈ xs, a ∈ (Xa ++ xs :: Xb).flatten := fun a q => by rw [fl]; exact List.mem_append.mpr (.inr (List.mem_append.mpr (.inl q)))
  have N := P.nodup
  rw [fl, List.nodup_append] at N
  obtain ⟨_, N2, N3⟩ := N
  rw [List.nodup_append] at N2
  have ap : apart xs env := ⟨fun q => P.sepN.1 (sub _ q), fun x c e q => P.sepN.2 x c e (sub _ q)⟩
  have hx : ∀ h : Heap, ∀ a ∈ xs, a ∈ Y ∨ h.get? a = none := fun h a q => .inl (P.sepY a (sub a q))
  refine ⟨v, xs, sub, h2, h3, fun h' m' x M => ?_⟩
  refine muts_join (h1.sim x ap (hx _) fun a q q' => ?_) (h2.sim x ap) M (h4.sim x ap (hx _) fun a q q' => ?_)
  · exact N3 a q a (List.mem_append.mpr (.inl q')) rfl
  · exact N2.2.2 a q' a q rfl

theorem muts_cat {h : Heap} : ∀ {μa μb : List (Str × Mut)} {Xa Xb : List (List Addr)}, Muts Y env h μa Xa → Muts Y env h μb Xb → Muts Y env h (μa ++ μb) (Xa ++ Xb)
  | [], _, [], _, _, r => r
  | _ :: _, _, _ :: _, _, ⟨q, r⟩, z => ⟨q, muts_cat r z⟩
  | [], _, _ :: _, _, q, _ => q.elim
  | _ :: _, _, [], _, q, _ => q.elim
theorem EvS.append (μa μb : List (Str × Mut)) {p : Pos} {pl : Env → Sem Bool} (h : EvE S b sc δ (μa ++ (n, .list ds) :: μb) e (.ok d) (μa ++ (n, .list ds) :: μb)) (hz : ds.length ≤ sizeLine)
    (he : ∀ env, eval (.Call (.Attribute (.Name n np) "append" apos) [e] [] p) env = (do
      let ov ← eval (.Name n np) env
      standAt apos.atName
      let (f, first) ← holding [ov] (getMethod ov "append" (pl env))
      callWith p f first (backTo p (starEach [e] env)) []) := by intro _; rfl) (hs : noStar [e] := by intro _; rfl) (hd : (n == ("__debug__" : Str)) = false := by decide)
    (hsw : ∀ env, swapsWith (.Call (.Attribute (.Name n np) "append" apos) [e] [] p) none pos.line env = pure false := by intro _; rfl) :
    EvS S b sc δ (μa ++ (n, .list ds) :: μb) (.Expr (.Call (.Attribute (.Name n np) "append" apos) [e] [] p) pos) (.next δ (μa ++ (n, .list (ds ++ [d])) :: μb)) := by
  with_unfolding_all
  intro A env Fs h₀ nr Xr Y₀ Y Xs s R E P K
  refine wpAny_Expr_any (MethodCall_ ?_ (he env)) (by unfold interactive; rw [P.pre.sk]; rfl) (hsw env)
  refine byC fun hnC8 => ?_
  obtain ⟨v, xs, sub, H, M, _⟩ := P.pre.one
  obtain ⟨a, o, vs, k, rfl, rfl, ho, hc, hdn, hdat, D⟩ := M
  refine hnC8 ?_
  refine wpAny_Name (load_holds P.pre.sk H ?_) hd
  refine getMethod_list_append ho hc hdn ?_
  have hst : starEach [e] env = (false, eval e env) :: starEach [] env := hs env
  refine callWith_method1 ?_ hst
  rw [hst]
  refine spliced_WEs (es := [e]) (h A env Fs h₀ Xr Y Xs _ _ E P.pre fun w h₂ tk₂ x₂ m₂ D₂ => ?_)
  have P₂ := P.pre.next (tk := tk₂) x₂ m₂
  refine byC fun hnC9 => ?_
  obtain ⟨v', xs', sub', H', M', turn⟩ := P₂.one
  refine hnC9 ?_
  have hv : v' = .ref a := by
    have H'' := H.sim x₂ P.pre.sepN
    rcases H' with ⟨k1, m1, n1, e1⟩ | ⟨k1, c1, e1, o1, f1, g1⟩ <;> rcases H'' with ⟨k2, m2, n2, e2⟩ | ⟨k2, c2, e2, o2, f2, g2⟩
    · cases Ns.same n1 n2; rw [e1] at e2; exact Option.some.inj e2
    · rw [k1] at k2; cases k2
    · rw [k1] at k2; cases k2
    · rw [e1] at e2; cases e2; rw [f1] at f2; cases f2; rw [g1] at g2; cases g2; rfl
  subst hv
  refine byC fun hnC10 => ?_
  obtain ⟨a', o', vs', k', q, rfl, ho', hc', hdn', hdat', D'⟩ := M'
  refine hnC10 ?_
  cases q
  have hp : PlainL h₂ a vs' := ⟨o', k', ho', hc', hdn', hdat'⟩
  refine list_append_plainL (s := { s with heap := h₂, toks := tk₂ }) hp (fun h₃ hp₃ hs₃ => ?_) (by rw [← Array.length_toList, D'.length]; exact hz)
  have hb : S.B.get? a = none := P.pre.yB a (P.pre.sepY a (sub a (.head _)))
  have x₃ : Sim S.B Fs [a] h₂ h₃ := by
    refine byC fun hnC11 => ?_
    obtain ⟨o₃, k₃, ho₃, hc₃, hdn₃, hd₃⟩ := hp₃
    refine hnC11 ?_
    refine .of_but (fun b o'' hm e => (hs₃.2 b fun q => hm (by rw [q]; exact .head _)).trans e) (fun b hm o₁ e => ?_) (fun b hm o₁ e => ?_) fun b hm => ?_
    · cases List.mem_singleton.mp hm
      exact ⟨o₃, ho₃, fun _ vs q => by rw [hd₃] at q; cases q⟩
    · cases List.mem_singleton.mp hm
      rw [ho'] at e; cases e
      rintro ⟨q, _⟩
      exact absurd (Value.type.inj (hc'.symm.trans q)) (by decide)
    · cases List.mem_singleton.mp hm
      exact hb
  refine byC fun hnC12 => ?_
  obtain ⟨o₃, k₃, ho₃, hc₃, hdn₃, hd₃⟩ := hp₃
  refine hnC12 ?_
  have haY : ∀ c ∈ [a], c ∈ Y ∨ h₂.get? c = none := fun c q => .inl (P.pre.sepY c (sub c q))
  have m₃ := turn h₃ (.list (ds ++ [d])) x₃ ⟨a, o₃, vs'.push w, k₃, rfl, rfl, ho₃, hc₃, hdn₃, hd₃, by
    rw [Array.toList_push]
    exact (D'.imp fun v d q => q.sim x₃ haY).append ⟨D₂.sim x₃ haY, trivial⟩⟩
  have xx := x₃.mono sub'
  exact K h₃ tk₂ Y Xs ((x₂.trans xx fun a q => .inl q).mono P.pre.sepY) (fun a q => .inl q) ⟨P₂.next (tk := tk₂) xx m₃, P.xr, P.y0⟩

/-! structural rules -/
noncomputable def Sub : List (Str × PyData) → List (Str × PyData) → Prop
  | [], _ => True
  | p :: r, δ => δ.lookup p.1 = some p.2 ∧ Sub r δ
theorem Sub.look : ∀ {δ₁ : List (Str × PyData)}, Sub δ₁ δ → ∀ x d, δ₁.lookup x = some d → δ.lookup x = some d
  | [], _, _, _, e => by simp at e
  | (k, a) :: r, ⟨h, hr⟩, x, d, e => by
    rw [List.lookup_cons] at e
    cases z : x == k with
    | true => rw [z] at e; cases e; rw [beq_iff_eq.mp z]; exact h
    | false => rw [z] at e; exact Sub.look hr x d e
theorem Pre.weak (P : Pre S b sc A env Fs h₀ Xr Y Xs δ μ s) (h : Sub δ₁ δ) : Pre S b sc A env Fs h₀ Xr Y Xs δ₁ μ s :=
  { P with loc := ⟨P.loc.ns, fun x d e => P.loc.dat x d (h.look x d e)⟩ }
theorem PreS.weak (P : PreS S b sc A env Fs h₀ nr Xr Y₀ Y Xs δ μ s) (h : Sub δ₁ δ) : PreS S b sc A env Fs h₀ nr Xr Y₀ Y Xs δ₁ μ s := ⟨P.pre.weak h, P.xr, P.y0⟩
theorem EvSs.weak (h : EvSs S b sc δ₁ μ body so) (w : Sub δ₁ δ) : EvSs S b sc δ μ body so := by
 with_unfolding_all exact
  fun A env Fs h₀ nr Xr Y₀ Y Xs s R E P K => h A env Fs h₀ nr Xr Y₀ Y Xs s R E (P.weak w) K
theorem EvW.weak (h : EvW S b sc δ₁ μ test body so) (w : Sub δ₁ δ) : EvW S b sc δ μ test body so := by
 with_unfolding_all exact
  fun A env Fs h₀ nr Xr Y₀ Y Xs s R P K => h A env Fs h₀ nr Xr Y₀ Y Xs s R (P.weak w) K
theorem EvS.less (h : EvS S b sc δ μ st (.next δ₁ μ₁)) (w : Sub δ₂ δ₁) : EvS S b sc δ μ st (.next δ₂ μ₁) := by
 with_unfolding_all exact
  fun A env Fs h₀ nr Xr Y₀ Y Xs s R E P K => h A env Fs h₀ nr Xr Y₀ Y Xs s R E P fun h' tk Y' Xs x hY P => K h' tk Y' Xs x hY (P.weak w)
theorem EvSs.less (h : EvSs S b sc δ μ body (.next δ₁ μ₁)) (w : Sub δ₂ δ₁) : EvSs S b sc δ μ body (.next δ₂ μ₁) := by
 with_unfolding_all exact
  fun A env Fs h₀ nr Xr Y₀ Y Xs s R E P K => h A env Fs h₀ nr Xr Y₀ Y Xs s R E P fun h' tk Y' Xs x hY P => K h' tk Y' Xs x hY (P.weak w)

/-- a list that is turned no more is a datum -/
theorem PreS.freeze (P : PreS S b sc A env Fs h₀ nr Xr Y₀ Y Xs δ (μa ++ (n, .list ds) :: μb) s) (hb : byRef sc = false) (hcomp : isComp sc = false) : ∃ Y' Xs', (∀ a ∈ Y', a ∈ Y) ∧ PreS S b sc A env Fs h₀ nr Xr Y₀ Y' Xs' ((n, .list ds) :: δ) (μa ++ μb) s := by
  have hnr : nr = 0 := by
    rcases (P.xr hcomp).2.2 with q | q
    · exact q
    · rw [hb] at q; cases q
  subst hnr
  have hXr : Xr = [] := by have := (P.xr hcomp).1; simpa using this
  subst hXr
  refine byC fun hnC13 => ?_
  obtain ⟨⟨depth, units, handled, sco, kind, globals, builtins, stack, base, stat, hist, loc, locY, cellY, cellI, cellE, muts, nodup, sepY, sepF, yB, fsY, sepN, sepH, alloc⟩, xr, y0⟩ := P
  obtain ⟨Xa, xs, Xb, v, rfl, hl, h1, h2, h3, h4⟩ := muts_split muts
  obtain ⟨a, o, vs, k, rfl, rfl, ho, hc, hdn, hdat, D⟩ := h3
  refine hnC13 ?_
  have fl : (Xa ++ [a] :: Xb).flatten = Xa.flatten ++ (a :: Xb.flatten) := by simp
  have fl' : (Xa ++ Xb).flatten = Xa.flatten ++ Xb.flatten := by simp
  rw [fl] at nodup sepY sepF sepN sepH
  have sub : ∀ c ∈ (Xa ++ Xb).flatten, c ∈ Xa.flatten ++ (a :: Xb.flatten) ∧ c ≠ a := fun c q => by
    rw [fl'] at q
    have N := List.nodup_append.mp nodup
    rcases List.mem_append.mp q with q | q
    · exact ⟨List.mem_append.mpr (.inl q), N.2.2 c q a (.head _)⟩
    · refine ⟨List.mem_append.mpr (.inr (.tail _ q)), fun e => ?_⟩
      subst e
      exact (List.nodup_cons.mp N.2.1).1 q
  have haM : a ∈ Xa.flatten ++ (a :: Xb.flatten) := List.mem_append.mpr (.inr (.head _))
  have ha0 : h₀.get? a = none := by
    rcases sepH a haM with q | q
    · cases q
    · exact q
  have mem : ∀ c, c ∈ Y.filter (· != a) ↔ c ∈ Y ∧ c ≠ a := fun c => by rw [List.mem_filter, bne_iff_ne]
  have less : ∀ c ∈ Y.filter (· != a), c ∈ Y := fun c q => ((mem c).mp q).1
  refine ⟨Y.filter (· != a), Xa ++ Xb, less, ⟨depth, units, handled, sco, kind, globals, builtins, stack, base, stat, hist, ⟨loc.ns, fun x d e => ?_⟩, ?_, fun x c e => ?_, cellI, cellE, ?_, ?_, fun c q => ?_, fun c q => ?_, fun c q => yB c (less c q), fun c q => ?_, ?_, fun c q => ?_, fun c q => alloc c (less c q)⟩, fun _ => ⟨rfl, Nat.zero_le _, .inl rfl⟩, fun c q => ?_⟩
  · by_cases z : x = n
    · subst z
      rw [List.lookup_cons, beq_self_eq_true] at e
      cases e
      obtain ⟨as, r, hr⟩ := D.reads
      refine ⟨_, h2, a :: as, .list ho hc hdat r, fun c q => ?_⟩
      rcases List.mem_cons.mp q with rfl | q
      · exact fun z => ((mem _).mp z).2 rfl
      · exact fun z => hr c q (less c z)
    · rw [List.lookup_cons, show (x == n) = false from beq_eq_false_iff_ne.mpr z] at e
      obtain ⟨v, H, Dv⟩ := loc.dat x d e
      exact ⟨v, H, Dv.less less⟩
  · exact ⟨(mem _).mpr ⟨locY.1, fun e => sepN.1 (e ▸ haM)⟩, locY.2⟩
  · exact ⟨(mem _).mpr ⟨(cellY x c e).1, fun z => sepN.2 x c e (z ▸ haM)⟩, (cellY x c e).2⟩
  · have lessM : ∀ {μ : List (Str × Mut)} {Xs : List (List Addr)}, Muts Y env s.heap μ Xs → Muts (Y.filter (· != a)) env s.heap μ Xs := fun M => M.grow fun c q => .inl (less c q)
    exact muts_cat (lessM h1) (lessM h4)
  · rw [fl']
    have N := List.nodup_append.mp nodup
    exact List.nodup_append.mpr ⟨N.1, (List.nodup_cons.mp N.2.1).2, fun c q c' q' => N.2.2 c q c' (.tail _ q')⟩
  · exact (mem c).mpr ⟨sepY c (sub c q).1, (sub c q).2⟩
  · exact sepF c (sub c q).1
  · exact (mem c).mpr ⟨fsY c q, fun z => sepF a haM (z ▸ q)⟩
  · exact ⟨fun q => sepN.1 (sub _ q).1, fun x c e q => sepN.2 x c e (sub _ q).1⟩
  · exact sepH c (sub c q).1
  · obtain ⟨h1, o, h2⟩ := y0 c q
    exact ⟨(mem c).mpr ⟨h1, fun z => by rw [z, ha0] at h2; cases h2⟩, o, h2⟩
theorem EvSs.freeze (μa μb : List (Str × Mut)) (h : EvSs S b sc ((n, .list ds) :: δ) (μa ++ μb) body so) (hb : byRef sc = false := by rfl) (hcomp : isComp sc = false := by rfl) : EvSs S b sc δ (μa ++ (n, .list ds) :: μb) body so := by
  with_unfolding_all
  intro A env Fs h₀ nr Xr Y₀ Y Xs s R E P K
  refine byC fun hnC14 => ?_
  obtain ⟨Y', Xs', hY, P'⟩ := P.freeze hb hcomp
  refine hnC14 ?_
  exact h A env Fs h₀ nr Xr Y₀ Y' Xs' s R E P' (K.seq (h' := s.heap) (tk := s.toks) (.refl ..) fun a q => .inl (hY a q))
end
end
section
variable [Pm]

noncomputable def ExtOff (ys : List Addr) (h h' : Heap) : Prop := ∀ a o, a ∉ ys → h.get? a = some o → h'.get? a = some o
theorem ExtOff.one {a : Addr} {h h' : Heap} (x : Heap.ExtBut a h h') : ExtOff [a] h h' := fun b o hb e => x b o (fun q => hb (by rw [q]; exact .head _)) e
noncomputable def Fielded (ys : List Addr) (h : Heap) : Prop := ∀ y ∈ ys, ∃ o vs, h.get? y = some o ∧ o.data = .fields vs

theorem off_at {ys : List Addr} {h h' : Heap} (hf : Fielded ys h) (x : ExtOff ys h h') {a : Addr} {o : Obj} (e : h.get? a = some o) (hn : ∀ vs, o.data ≠ .fields vs) : h'.get? a = some o :=
  x a o (fun q => let ⟨_, vs, e', d⟩ := hf a q; hn vs (Option.some.inj (e.symm.trans e') ▸ d)) e
theorem reads_off {ys : List Addr} {h h' : Heap} (hf : Fielded ys h) (x : ExtOff ys h h') {v : Value} {d : PyData} {as : List Addr} (r : Reads h v d as) : Reads h' v d as :=
  Reads.rec (motive_1 := fun v d as _ => Reads h' v d as) (motive_2 := fun vs ds as _ => ReadsAll h' vs ds as) .none .bool .int .str
    (fun e hc hd _ i => .list (off_at hf x e fun _ q => nomatch hd.symm.trans q) hc hd i) (fun e hc hd _ i => .tuple (off_at hf x e fun _ q => nomatch hd.symm.trans q) hc hd i)
    (fun e h1 h2 h3 => .dict (off_at hf x e fun _ q => nomatch q) h1 h2 h3) .nil (fun _ _ i j => .cons i j) r
theorem DataIn.off {ys Y : List Addr} {h h' : Heap} (hf : Fielded ys h) (x : ExtOff ys h h') {v : Value} {d : PyData} (D : DataIn Y h v d) : DataIn Y h' v d := let ⟨as, r, ha⟩ := D; ⟨as, reads_off hf x r, ha⟩

section
variable {S : St} {b : Nat} {sc : Scope} {δ δ' δ₁ δ₂ : List (Str × PyData)} {μ μ₁ μ₂ μ' μa μb : List (Str × Mut)} {e test value target iter : Expr} {es elts : List Expr} {pos p np tpos apos : Pos} {d x y : PyData} {u : Bool} {t : Str} {ds : List PyData} {st : Stmt} {rest body orelse : List Stmt} {so : SO} {n : Str} {i j : Int} {ys : List Addr} {it : Value} {J : List Addr → Heap → List PyData → Prop}
  {A : Around} {env : Env} {Fs : List Addr} {h₀ : Heap} {nr : Nat} {Xr Y₀ Y : List Addr} {Xs : List (List Addr)} {s : Shared} {R : Flow → Shared → Prop} {E : Value → Shared → Prop} {Rr : Result → Shared → Prop}

theorem Ns.off {h h' : Heap} {a : Addr} {m : Str → Option Value} (x : ExtOff ys h h') (N : h.Ns a m) (hn : a ∉ ys) : h'.Ns a m :=
  let ⟨o, es, ep, ho, r⟩ := N; ⟨o, es, ep, x a o hn ho, r⟩
theorem Holds.off {h h' : Heap} (x : ExtOff ys h h') (hl : env.locals ∉ ys) (hc : ∀ z c, env.cells.lookup z = some c → c ∉ ys) {v : Value} (H : Holds h env n v) : Holds h' env n v := by
  rcases H with ⟨hk, m, N, hm⟩ | ⟨hk, c, e, o, ho, hd⟩
  · exact .inl ⟨hk, m, Ns.off x N hl, hm⟩
  · exact .inr ⟨hk, c, e, o, x c o (hc _ _ e) ho, hd⟩
theorem EntsAre.off {h h' : Heap} (hf : Fielded ys h) (x : ExtOff ys h h') {es : List DictEntry} {ps : List (Str × PyData)} (D : EntsAre Y h es ps) : EntsAre Y h' es ps := D.imp fun _ _ q => q.off hf x
theorem HasMut.off {h h' : Heap} (hf : Fielded ys h) (x : ExtOff ys h h') {v : Value} {xs : List Addr} (hn : ∀ a ∈ xs, a ∉ ys) : ∀ {m : Mut}, HasMut Y h v xs m → HasMut Y h' v xs m
  | .list ds, ⟨a, o, vs, k, hv, hxs, ho, r1, r2, r3, D⟩ => by
    subst hxs
    exact ⟨a, o, vs, k, hv, rfl, x a o (hn a (.head _)) ho, r1, r2, r3, D.imp fun _ _ q => q.off hf x⟩
  | .inst C es, ⟨a, dx, o, od, ents, k, hv, hxs, ho, r1, r2, r3, hod, r4, r5, r6, D⟩ => by
    subst hxs
    exact ⟨a, dx, o, od, ents, k, hv, rfl, x a o (hn a (.tail _ (.head _))) ho, r1, r2, r3, x dx od (hn dx (.head _)) hod, r4, r5, r6, D.off hf x⟩
theorem Muts.off {h h' : Heap} (hf : Fielded ys h) (x : ExtOff ys h h') (hl : env.locals ∉ ys) (hc : ∀ z c, env.cells.lookup z = some c → c ∉ ys) : ∀ {μ : List (Str × Mut)} {Xs : List (List Addr)}, (∀ a ∈ Xs.flatten, a ∉ ys) → Muts Y env h μ Xs → Muts Y env h' μ Xs
  | [], [], _, _ => trivial
  | _ :: _, _ :: _, hn, ⟨⟨v, a, c⟩, r⟩ => ⟨⟨v, a.off x hl hc, c.off hf x fun z q => hn z (List.mem_append.mpr (.inl q))⟩, Muts.off hf x hl hc (fun z q => hn z (List.mem_append.mpr (.inr q))) r⟩
  | [], _ :: _, _, q => q.elim
  | _ :: _, [], _, q => q.elim
theorem sim_off {B h₁ h h' : Heap} {X : List Addr} (x : Sim B Fs X h₁ h) (y : ExtOff ys h h') (hy : ∀ a ∈ ys, h₁.get? a = none) (hb : B.StaysIn h₁) : Sim B Fs X h₁ h' := by
  have out : ∀ a o, h₁.get? a = some o → a ∉ ys := fun a o e q => by rw [hy a q] at e; cases e
  refine ⟨fun a o e h1 h2 => y a o (out a o e) (x.ex a o e h1 h2), fun a o e h1 => ?_, fun a o e => ?_, fun s b o e => y b o (out b o (s b o e)) (x.st s b o e)⟩
  · obtain ⟨sl, q⟩ := x.fr a o e h1; exact ⟨sl, y a _ (out a o e) q⟩
  · obtain ⟨o', q, k⟩ := x.on a o e; exact ⟨o', y a _ (out a o e) q, k⟩
/-- what an iterator does inside -/
theorem PreS.off (P : PreS S b sc A env Fs h₀ nr Xr Y₀ Y Xs δ μ s) {h' : Heap} {tk : Nat} (hf : Fielded ys s.heap) (x : ExtOff ys s.heap h') (hy : ∀ a ∈ ys, a ∉ Y ∧ h₀.get? a = none) : PreS S b sc A env Fs h₀ nr Xr Y₀ Y Xs δ μ { s with heap := h', toks := tk } := by
  have out : ∀ a ∈ Y, a ∉ ys := fun a q z => (hy a z).1 q
  have hl := out _ P.pre.locY.1
  have hc : ∀ z c, env.cells.lookup z = some c → c ∉ ys := fun z c e => out _ (P.pre.cellY z c e).1
  refine ⟨?_, P.xr, P.y0⟩
  have P := P.pre
  exact { P with
    stack := by
      refine byC fun hnC1 => ?_
      obtain ⟨f, o, L, a, b, c, e, g, k⟩ := P.stack
      refine hnC1 ?_
      refine ⟨f, o, L, a, b, c, e, ?_, k⟩
      have hF : ∀ z ∈ (f :: o).filterMap (·.frame), z ∉ ys := fun z q => out z (P.fsY z (e ▸ q))
      clear a e k
      revert g hF
      generalize f :: o = l
      intro g hF
      induction l with
      | nil => trivial
      | cons q l ih =>
        refine byC fun hnC2 => ?_
        obtain ⟨g1, ⟨L, o, hf', hn, ho, hd⟩, r⟩ := g
        refine hnC2 ?_
        refine ⟨g1, ⟨L, o, hf', hn, x L o (hF L (by rw [List.filterMap_cons, hf']; exact .head _)) ho, hd⟩, ih r fun z zq => hF z ?_⟩
        rw [List.filterMap_cons, hf']
        exact .tail _ zq
    stat := fun a o e => x a o (fun q => by have := none_base P.base (hy a q).2; rw [this] at e; cases e) (P.stat a o e)
    hist := sim_off P.hist x (fun a q => (hy a q).2) P.base
    cellE := fun q n h => let ⟨c, v, e, o, ho, hd⟩ := P.cellE q n h; ⟨c, v, e, o, x c o (hc n c e) ho, hd⟩
    loc := ⟨let ⟨m, N⟩ := P.loc.ns; ⟨m, Ns.off x N hl⟩, fun z dz e => let ⟨v, H, D⟩ := P.loc.dat z dz e; ⟨v, H.off x hl hc, D.off hf x⟩⟩
    muts := P.muts.off hf x hl hc fun a q => out a (P.sepY a q)
    alloc := fun a q => let ⟨o, e⟩ := P.alloc a q; ⟨o, x a o (out a q) e⟩ }

/-- a value that hands out data, as a target takes them -/
structure Iters (S : St) (target : Expr) (it : Value) (ys : List Addr) (J : List Addr → Heap → List PyData → Prop) : Prop where
  get : ∀ (A : Around) (Y : List Addr) (E : Value → Shared → Prop) (s : Shared) (d : PyData) (ds : List PyData) (Q : Value → Shared → Prop), A.handled = none → (∀ y ∈ ys, y ∉ Y) → J Y s.heap (d :: ds) → (∀ v h' tk, ExtOff ys s.heap h' → J Y h' ds → DataIn Y h' v d → Q v { s with heap := h', toks := tk }) →
    wpAny S.M A (pyNext it) (fun r s₁ => ∃ v, r = some v ∧ wpAny S.M A (letOwnedTupleGo target it v) (fun _ s₂ => Q v s₂) E s₁) E s
  stop : ∀ (A : Around) (Y : List Addr) (E : Value → Shared → Prop) (s : Shared) (Q : Option Value → Shared → Prop), A.handled = none → J Y s.heap [] → (∀ h' tk, ExtOff ys s.heap h' → Q none { s with heap := h', toks := tk }) → wpAny S.M A (pyNext it) Q E s
  sim : ∀ B Fs X Y h h' ds, (∀ y ∈ ys, y ∉ Y) → (∀ a ∈ Fs, a ∈ Y) → (∀ a ∈ X, a ∈ Y) → J Y h ds → Sim B Fs X h h' → J Y h' ds
  grow : ∀ Y Y' h ds, (∀ a ∈ Y', a ∈ Y ∨ h.get? a = none) → J Y h ds → J Y' h ds
  fld : ∀ Y h ds, J Y h ds → Fielded ys h
  self : ∀ (A : Around) (E : Value → Shared → Prop) (s : Shared) (Y : List Addr) (ds : List PyData) (Q : Value → Shared → Prop), J Y s.heap ds → Q it s → wpAny S.M A (pyIter it) Q E s

theorem for_turn {R : Result → Shared → Prop}
    (h : wpAny S.M A (pyNext it) (fun r s₁ => match r with
      | none => wpAny S.M A (execs orelse env) (fun f s₃ => R (.ok f) s₃) (notedBy S.M A env fun e s' => R (.error e) s') s₁
      | some v => wpAny S.M A (letOwnedTupleGo target it v) (fun _ s₁' =>
          wpAny S.M A (assign target env v) (fun _ s₂ => wpAny S.M A (execs body env) (fun f s₃ => match f with
            | .next | .cont => codeAny S.M A (.forLoop target it body orelse env) R s₃
            | .brk => R (.ok .next) s₃
            | .ret v => R (.ok (.ret v)) s₃) (notedBy S.M A env fun e s' => R (.error e) s') s₂) (notedBy S.M A env fun e s' => R (.error e) s') s₁') (notedBy S.M A env fun e s' => R (.error e) s') s₁) (notedBy S.M A env fun e s' => R (.error e) s') s) :
    codeAny S.M A (.forLoop target it body orelse env) R s := by
  refine codeAny_of_tree ?_
  show wpAny S.M A ((forTurn target it body orelse env).onRaise (fun x => do noteFrame x env; theTreesLotGoes x)) _ _ s
  refine wpAny_noted ?_
  simp only [forTurn]
  refine wpAny_bind (wpAny_standAt (wpAny_bind (wpAny_onRaise (wpAny_mono h (fun r s₁ h₁ => ?_) fun _ _ h' => wpAny_standAt h'))))
  cases r with
  | none => exact wpAny_pure ⟨rfl, codeAny_block h₁⟩
  | some v =>
    refine wpAny_bind (wpAny_mono h₁ (fun _ s₁' h₁' => ?_) fun _ _ h' => h')
    refine wpAny_bind (wpAny_mono h₁' (fun _ s₂ h₂ => wpAny_bind (wpAny_mono h₂ (fun f s₃ h₃ => ?_) fun _ _ h' => h')) fun _ _ h' => h')
    cases f with
    | next => exact wpAny_pure ⟨rfl, h₃⟩
    | cont => exact wpAny_pure ⟨rfl, h₃⟩
    | brk => exact wpAny_pure h₃
    | ret v => exact wpAny_pure h₃

/-- for, from here on -/
@[irreducible] def EvF (S : St) (b : Nat) (sc : Scope) (δ : List (Str × PyData)) (μ : List (Str × Mut)) (target : Expr) (body : List Stmt) (ds : List PyData) (out : SO) : Prop :=
  ∀ A env Fs h₀ nr Xr Y₀ Y Xs s R it (ys : List Addr) (J : List Addr → Heap → List PyData → Prop) hb Yb, PreS S b sc A env Fs h₀ nr Xr Y₀ Y Xs δ μ s → Iters S target it ys J → J Y s.heap ds → (∀ y ∈ ys, y ∉ Y ∧ h₀.get? y = none ∧ hb.get? y = none) → Sim S.B Fs Yb hb s.heap → (∀ a ∈ Y, a ∈ Yb ∨ hb.get? a = none) → S.B.StaysIn hb →
    KW S b sc A env Fs h₀ nr Xr Y₀ Yb { s with heap := hb } out R → codeAny S.M A (.forLoop target it body [] env) R s

theorem EvF.nil : EvF S b sc δ μ target body [] (.next δ μ) := by
  with_unfolding_all
  intro A env Fs h₀ nr Xr Y₀ Y Xs s R it ys J hb Yb P I j hy x hY hB K
  refine for_turn (I.stop A Y _ s _ P.pre.handled j fun h' tk o => ?_)
  exact wpAny_pure (K h' tk Y Xs (sim_off x o (fun y q => (hy y q).2.2) hB) hY (P.off (tk := tk) (I.fld _ _ _ j) o fun y q => ⟨(hy y q).1, (hy y q).2.1⟩))
theorem EvF.step (ha : EvA S b sc δ μ target d δ₁) (A : Around) (env : Env) (Fs : List Addr) (h₀ : Heap) (nr : Nat) (Xr Y₀ Y : List Addr) (Xs : List (List Addr)) (s : Shared) (R : Result → Shared → Prop) (it : Value) (ys : List Addr) (J : List Addr → Heap → List PyData → Prop) (hb : Heap) (Yb : List Addr)
    (P : PreS S b sc A env Fs h₀ nr Xr Y₀ Y Xs δ μ s) (I : Iters S target it ys J) (j : J Y s.heap (d :: ds)) (hy : ∀ y ∈ ys, y ∉ Y ∧ h₀.get? y = none ∧ hb.get? y = none) (x : Sim S.B Fs Yb hb s.heap) (hY : ∀ a ∈ Y, a ∈ Yb ∨ hb.get? a = none) (hB : S.B.StaysIn hb)
    (K : ∀ h' tk, PreS S b sc A env Fs h₀ nr Xr Y₀ Y Xs δ₁ μ { s with heap := h', toks := tk } → J Y h' ds → Sim S.B Fs Yb hb h' → wpAny S.M A (execs body env) (fun f s₃ => match f with
            | .next | .cont => codeAny S.M A (.forLoop target it body [] env) R s₃
            | .brk => R (.ok .next) s₃
            | .ret v => R (.ok (.ret v)) s₃) (notedBy S.M A env fun e s' => R (.error e) s') { s with heap := h', toks := tk }) : codeAny S.M A (.forLoop target it body [] env) R s := by
  with_unfolding_all
  have key := I.get A Y (notedBy S.M A env fun e s' => R (.error e) s') s d ds (fun v s₁' => wpAny S.M A (assign target env v) (fun _ s₂ => wpAny S.M A (execs body env) (fun f s₃ => match f with
            | .next | .cont => codeAny S.M A (.forLoop target it body [] env) R s₃
            | .brk => R (.ok .next) s₃
            | .ret v => R (.ok (.ret v)) s₃) (notedBy S.M A env fun e s' => R (.error e) s') s₂) (notedBy S.M A env fun e s' => R (.error e) s') s₁') P.pre.handled (fun y q => (hy y q).1) j fun v h' tk o j' D => ?_
  · refine for_turn (wpAny_mono key (fun r s₁ h₁ => ?_) fun _ _ z => z)
    obtain ⟨v, rfl, h₁⟩ := h₁
    exact h₁
  · exact ha A env Fs h₀ nr Xr Y₀ Y Xs _ _ _ v (P.off (tk := tk) (I.fld _ _ _ j) o fun y q => ⟨(hy y q).1, (hy y q).2.1⟩) D fun h'' tk' x' P' =>
      K h'' tk' P' (I.sim _ _ _ _ _ _ _ (fun y q => (hy y q).1) P'.pre.fsY (fun a q => by cases List.mem_singleton.mp q; exact P'.pre.locY.1) j' x') ((sim_off x o (fun y q => (hy y q).2.2) hB).trans x' fun a q => by cases List.mem_singleton.mp q; exact hY _ P'.pre.locY.1)
theorem EvF.turn (ha : EvA S b sc δ μ target d δ₁) (hb : EvSs S b sc δ₁ μ body (.next δ₂ μ₂)) (r : EvF S b sc δ₂ μ₂ target body ds so) : EvF S b sc δ μ target body (d :: ds) so := by
  with_unfolding_all
  intro A env Fs h₀ nr Xr Y₀ Y Xs s R it ys J hb' Yb P I j hy x hY hB K
  refine EvF.step ha A env Fs h₀ nr Xr Y₀ Y Xs s R it ys J hb' Yb P I j hy x hY hB fun h' tk P' j' x' => ?_
  refine hb A env Fs h₀ nr Xr Y₀ Y Xs _ _ _ P' fun h'' tk' Y' Xs' x'' hY' P'' => ?_
  have al : ∀ y ∈ ys, ∃ o, h'.get? y = some o := fun y q => let ⟨o, _, e, _⟩ := I.fld _ _ _ j' y q; ⟨o, e⟩
  have gr : ∀ a ∈ Y', a ∈ Y ∨ h'.get? a = none := hY'
  refine r A env Fs h₀ nr Xr Y₀ Y' Xs' _ R it ys J hb' Yb P'' I ?_ (fun y q => ⟨fun z => ?_, (hy y q).2⟩) (x'.trans x'' hY) (fun a q => ?_) hB K
  · have mem : ∀ a ∈ Y ++ Y', a ∈ Y ∨ h'.get? a = none := fun a q => (List.mem_append.mp q).elim .inl (gr a)
    have out : ∀ y ∈ ys, y ∉ Y ++ Y' := fun y q z => by
      rcases mem y z with w | w
      · exact (hy y q).1 w
      · obtain ⟨o, e⟩ := al y q; rw [e] at w; cases w
    have j₂ := I.sim _ _ _ _ _ _ _ out (fun a q => List.mem_append.mpr (.inl (P'.pre.fsY a q))) (fun a q => List.mem_append.mpr (.inl q)) (I.grow Y (Y ++ Y') h' ds mem j') x''
    exact I.grow _ Y' h'' ds (fun a q => .inl (List.mem_append.mpr (.inr q))) j₂
  · rcases gr y z with w | w
    · exact (hy y q).1 w
    · obtain ⟨o, e⟩ := al y q; rw [e] at w; cases w
  · rcases gr a q with w | w
    · exact hY a w
    · exact .inr (x'.fresh w)
theorem EvF.ret (ha : EvA S b sc δ μ target d δ₁) (hb : EvSs S b sc δ₁ μ body (.ret y μ₂)) : EvF S b sc δ μ target body (d :: ds) (.ret y μ₂) := by
  with_unfolding_all
  intro A env Fs h₀ nr Xr Y₀ Y Xs s R it ys J hb' Yb P I j hy x hY hB K
  refine EvF.step ha A env Fs h₀ nr Xr Y₀ Y Xs s R it ys J hb' Yb P I j hy x hY hB fun h' tk P' j' x' => ?_
  exact hb A env Fs h₀ nr Xr Y₀ Y Xs _ _ _ P' fun v h'' tk' δ Y' Xs' P'' D => K v h'' tk' δ Y' Xs' P'' D
theorem EvF.weak (h : EvF S b sc δ₁ μ target body ds so) (w : Sub δ₁ δ) : EvF S b sc δ μ target body ds so := by
 with_unfolding_all exact
  fun A env Fs h₀ nr Xr Y₀ Y Xs s R it ys J hb Yb P => h A env Fs h₀ nr Xr Y₀ Y Xs s R it ys J hb Yb (P.weak w)

/-- what a for goes through -/
@[irreducible] def EvI (S : St) (b : Nat) (sc : Scope) (δ : List (Str × PyData)) (μ : List (Str × Mut)) (target iter : Expr) (out : Out (List PyData)) (μ' : List (Str × Mut)) : Prop :=
  ∀ A env Fs h₀ Xr Y Xs s R E, Pre S b sc A env Fs h₀ Xr Y Xs δ μ s → (match out with
    | .ok ds => ∀ (it : Value) (ys : List Addr) (J : List Addr → Heap → List PyData → Prop) h' tk, Sim S.B Fs Xs.flatten s.heap h' → Muts Y env h' μ' Xs → (∀ y ∈ ys, s.heap.get? y = none) → Iters S target it ys J → J Y h' ds → R it { s with heap := h', toks := tk }
    | .exc u t => ∀ e h' tk, Sim S.B Fs Xs.flatten s.heap h' → ExcSt S env.frame s.heap h' e u t → E (.ref e) { s with heap := h', toks := tk }) → wpAny S.M A (eval iter env) (fun x s₁ => wpAny S.M A (pyIter x) R E s₁) E s
theorem EvS.for (hi : EvI S b sc δ μ target iter (.ok ds) μ') (h : EvF S b sc δ μ' target body ds so) (hs : ∀ env x, foldedSetIterable iter env x = pure x := by intro _ _; rfl) : EvS S b sc δ μ (.For target iter body [] pos) so := by
  with_unfolding_all
  intro A env Fs h₀ nr Xr Y₀ Y Xs s R E P K
  refine wpAny_For (hi A env Fs h₀ Xr Y Xs s _ E P.pre fun it ys J h' tk x m hn I j => ?_) (hs env)
  refine h A env Fs h₀ nr Xr Y₀ Y Xs _ _ it ys J s.heap Y (P.next (tk := tk) x m) I j (fun y q => ⟨fun z => ?_, P.pre.hist.fresh (hn y q), hn y q⟩) (x.mono P.pre.sepY) (fun a q => .inl q) P.pre.stat ?_
  · obtain ⟨o, e⟩ := P.pre.alloc y z; rw [hn y q] at e; cases e
  cases so with
  | next δ μ => exact fun h' tk Y' Xs x hY P => K h' tk Y' Xs x hY P
  | ret d μ => exact fun v h' tk δ Y Xs P D => K v h' tk δ Y Xs P D
  | exc u t => exact fun e h' tk L hL x hF hs X => cameBack_of (s := s) P K hL x hF hs X

/-! the iterators -/
theorem drop_cons {α : Type} {l : List α} {i : Nat} {v : α} {vs : List α} (h : l.drop i = v :: vs) : l[i]? = some v ∧ l.drop (i + 1) = vs := by
  have h1 : (l.drop i)[0]? = some v := by rw [h]; rfl
  rw [List.getElem?_drop] at h1
  refine ⟨by simpa using h1, ?_⟩
  have : (l.drop i).drop 1 = vs := by rw [h]; rfl
  rwa [List.drop_drop] at this
theorem DatasIn.cons_inv {h : Heap} : ∀ {vs : List Value}, DatasIn Y h vs (d :: ds) → ∃ w ws, vs = w :: ws ∧ DataIn Y h w d ∧ DatasIn Y h ws ds
  | [], q => q.elim
  | w :: ws, q => ⟨w, ws, rfl, q⟩
theorem DatasIn.nil_inv {h : Heap} : ∀ {vs : List Value}, DatasIn Y h vs [] → vs = []
  | [], _ => rfl
  | _ :: _, q => q.elim
theorem isList_off {h h' : Heap} {l : Addr} {items : Array Value} (x : ExtOff ys h h') (hf : Fielded ys h) (H : h.IsList l items) : h'.IsList l items := by
  refine byC fun hnC3 => ?_
  obtain ⟨o, ho, hc, n, hd⟩ := H
  refine hnC3 ?_
  exact ⟨o, x l o (fun q => by obtain ⟨o', vs, e', d⟩ := hf _ q; rw [ho] at e'; cases e'; rw [hd] at d; cases d) ho, hc, n, hd⟩

noncomputable def JList (I : Addr) (Y : List Addr) (h : Heap) (ds : List PyData) : Prop := ∃ l i items, h.IsListIter I l i ∧ h.IsList l items ∧ l ∉ Y ∧ DatasIn Y h (items.toList.drop i) ds
theorem iters_list {I : Addr} (hT : ∀ h : Shared, (∃ l i, h.heap.IsListIter I l i) → ∀ A E (v : Value) (Q : Unit → Shared → Prop), Q () h → wpAny S.M A (letOwnedTupleGo target (.ref I) v) Q E h) : Iters S target (.ref I) [I] (JList I) where
  get := by
    intro A Y E s d ds Q hh hy ⟨l, i, items, hi, hl, hn, D⟩ K
    have hf : Fielded [I] s.heap := fun y q => by cases List.mem_singleton.mp q; obtain ⟨o, ho, _, hd⟩ := hi; exact ⟨o, _, ho, hd⟩
    refine byC fun hnC4 => ?_
    obtain ⟨w, ws, e, Dw, Ds⟩ := D.cons_inv
    obtain ⟨e1, e2⟩ := drop_cons e
    refine hnC4 ?_
    refine wpAny_pyNext_list_item hi hl (by rw [← Array.getElem?_toList]; exact e1) fun h' hi' hs => ?_
    have o := ExtOff.one hs.extBut
    refine ⟨w, rfl, hT _ ⟨_, _, hi'⟩ _ _ _ _ (K w h' s.toks o ⟨l, i + 1, items, hi', isList_off o hf hl, hn, ?_⟩ (Dw.off hf o))⟩
    rw [e2]
    exact Ds.imp fun _ _ q => q.off hf o
  stop := by
    intro A Y E s Q hh ⟨l, i, items, hi, hl, hn, D⟩ K
    have e := D.nil_inv
    rw [List.drop_eq_nil_iff, Array.length_toList] at e
    exact wpAny_pyNext_list_end hh hi hl (by rw [Array.getElem?_eq_none_iff]; exact e) fun h' x => K h' s.toks (ExtOff.one x)
  sim := by
    intro B Fs X Y h h' ds hy hF hX ⟨l, i, items, ⟨o, ho, r1, r2⟩, ⟨ol, hol, r3, k, r4⟩, hn, D⟩ x
    refine byC fun hnC5 => ?_
    obtain ⟨sl, e⟩ := x.at ho fun q => hy I (.head _) (hX _ q)
    obtain ⟨sl', e'⟩ := x.at hol fun q => hn (hX _ q)
    refine hnC5 ?_
    exact ⟨l, i, items, ⟨_, e, r1, r2⟩, ⟨_, e', r3, k, r4⟩, hn, D.imp fun _ _ q => q.sim x (fun a z => .inl (hX a z)) fun a z => .inl (hF a z)⟩
  grow := by
    intro Y Y' h ds hY ⟨l, i, items, hi, hl, hn, D⟩
    refine ⟨l, i, items, hi, hl, fun q => ?_, D.imp fun _ _ q => q.grow hY⟩
    rcases hY l q with z | z
    · exact hn z
    · obtain ⟨o, ho, _⟩ := hl; rw [ho] at z; cases z
  fld := by
    intro Y h ds ⟨l, i, items, ⟨o, ho, r1, r2⟩, _⟩ y q
    cases List.mem_singleton.mp q
    exact ⟨o, _, ho, r2⟩
  self := fun A E s Y ds Q ⟨l, i, items, hi, _⟩ h => wpAny_pyIter_listiter hi h

noncomputable def JTuple (I : Addr) (Y : List Addr) (h : Heap) (ds : List PyData) : Prop := ∃ l i items, h.IsTupleIter I l i ∧ h.IsTuple l items ∧ DatasIn Y h (items.toList.drop i) ds
theorem isTuple_off {h h' : Heap} {l : Addr} {items : Array Value} (x : ExtOff ys h h') (hf : Fielded ys h) (H : h.IsTuple l items) : h'.IsTuple l items := by
  refine byC fun hnC6 => ?_
  obtain ⟨o, ho, hc, n, hd⟩ := H
  refine hnC6 ?_
  exact ⟨o, x l o (fun q => by obtain ⟨o', vs, e', d⟩ := hf _ q; rw [ho] at e'; cases e'; rw [hd] at d; cases d) ho, hc, n, hd⟩
theorem iters_tuple {I : Addr} (hT : ∀ it v, letOwnedTupleGo target it v = pure ()) : Iters S target (.ref I) [I] (JTuple I) where
  get := by
    intro A Y E s d ds Q hh hy ⟨l, i, items, hi, hl, D⟩ K
    have hf : Fielded [I] s.heap := fun y q => by cases List.mem_singleton.mp q; obtain ⟨o, ho, _, hd⟩ := hi; exact ⟨o, _, ho, hd⟩
    refine byC fun hnC7 => ?_
    obtain ⟨w, ws, e, Dw, Ds⟩ := D.cons_inv
    obtain ⟨e1, e2⟩ := drop_cons e
    refine hnC7 ?_
    refine wpAny_pyNext_tuple_item hi hl (by rw [← Array.getElem?_toList]; exact e1) fun h' hi' hs => ?_
    have o := ExtOff.one hs.extBut
    refine ⟨w, rfl, wpAny_of_eq (hT _ _) (K w h' s.toks o ⟨l, i + 1, items, hi', isTuple_off o hf hl, ?_⟩ (Dw.off hf o))⟩
    rw [e2]
    exact Ds.imp fun _ _ q => q.off hf o
  stop := by
    intro A Y E s Q hh ⟨l, i, items, hi, hl, D⟩ K
    have e := D.nil_inv
    rw [List.drop_eq_nil_iff, Array.length_toList] at e
    exact wpAny_pyNext_tuple_end hh hi hl (by rw [Array.getElem?_eq_none_iff]; exact e) fun h' x => K h' s.toks (ExtOff.one x)
  sim := by
    intro B Fs X Y h h' ds hy hF hX ⟨l, i, items, ⟨o, ho, r1, r2⟩, ⟨ol, hol, r3, k, r4⟩, D⟩ x
    refine byC fun hnC8 => ?_
    obtain ⟨sl, e⟩ := x.at ho fun q => hy I (.head _) (hX _ q)
    obtain ⟨sl', e'⟩ := x.fr _ _ hol (.inr ⟨r3, _, _, r4⟩)
    refine hnC8 ?_
    exact ⟨l, i, items, ⟨_, e, r1, r2⟩, ⟨_, e', r3, k, r4⟩, D.imp fun _ _ q => q.sim x (fun a z => .inl (hX a z)) fun a z => .inl (hF a z)⟩
  grow := by
    intro Y Y' h ds hY ⟨l, i, items, hi, hl, D⟩
    exact ⟨l, i, items, hi, hl, D.imp fun _ _ q => q.grow hY⟩
  fld := by
    intro Y h ds ⟨l, i, items, ⟨o, ho, r1, r2⟩, _⟩ y q
    cases List.mem_singleton.mp q
    exact ⟨o, _, ho, r2⟩
  self := fun A E s Y ds Q ⟨l, i, items, hi, _⟩ h => wpAny_pyIter_tupleiter hi h

noncomputable def charsOf (x : Str) : List PyData := x.cps.toList.map fun c => .str ⟨#[c]⟩
noncomputable def JStr (ty : String) (I : Addr) (Y : List Addr) (h : Heap) (ds : List PyData) : Prop := ∃ x t i, h.IsStrIter I ty x t i ∧ ds = (x.cps.toList.drop i).map fun c => .str ⟨#[c]⟩
theorem iters_str {I : Addr} {ty : String} (hty : ty = "str_ascii_iterator" ∨ ty = "str_iterator") (hT : ∀ it v, letOwnedTupleGo target it v = pure ()) : Iters S target (.ref I) [I] (JStr ty I) where
  get := by
    intro A Y E s d ds Q hh hy ⟨x, t, i, hi, hd⟩ K
    have hf : Fielded [I] s.heap := fun y q => by cases List.mem_singleton.mp q; obtain ⟨o, ho, _, hd⟩ := hi; exact ⟨o, _, ho, hd⟩
    cases e : x.cps.toList.drop i with
    | nil => rw [e] at hd; cases hd
    | cons c cs =>
      rw [e] at hd
      cases hd
      obtain ⟨e1, e2⟩ := drop_cons e
      have e1 : x.cps[i]? = some c := by rw [← Array.getElem?_toList]; exact e1
      rcases hty with rfl | rfl
      · refine wpAny_pyNext_ascii_item hi e1 fun h' hi' hs => ?_
        exact ⟨_, rfl, wpAny_of_eq (hT _ _) (K _ h' _ (ExtOff.one hs.extBut) ⟨x, t, i + 1, hi', by rw [e2]⟩ dataStr)⟩
      · refine wpAny_pyNext_wide_item hi e1 fun h' hi' hs => ?_
        exact ⟨_, rfl, wpAny_of_eq (hT _ _) (K _ h' _ (ExtOff.one hs.extBut) ⟨x, t, i + 1, hi', by rw [e2]⟩ dataStr)⟩
  stop := by
    intro A Y E s Q hh ⟨x, t, i, hi, hd⟩ K
    have e := List.map_eq_nil_iff.mp hd.symm
    rw [List.drop_eq_nil_iff, Array.length_toList] at e
    have e : x.cps[i]? = none := by rw [Array.getElem?_eq_none_iff]; exact e
    rcases hty with rfl | rfl
    · exact wpAny_pyNext_ascii_end hh hi e fun h' x => K h' s.toks (ExtOff.one x)
    · exact wpAny_pyNext_wide_end hh hi e fun h' x => K h' s.toks (ExtOff.one x)
  sim := by
    intro B Fs X Y h h' ds hy hF hX ⟨z, t, i, ⟨o, ho, r1, r2⟩, hd⟩ x
    obtain ⟨sl, e⟩ := x.at ho fun q => hy I (.head _) (hX _ q)
    exact ⟨z, t, i, ⟨_, e, r1, r2⟩, hd⟩
  grow := by
    intro Y Y' h ds hY q
    exact q
  fld := by
    intro Y h ds ⟨z, t, i, ⟨o, ho, r1, r2⟩, hd⟩ y q
    cases List.mem_singleton.mp q
    exact ⟨o, _, ho, r2⟩
  self := fun A E s Y ds Q ⟨x, t, i, hi, _⟩ h => by
    rcases hty with rfl | rfl
    · exact wpAny_pyIter_striter_ascii hi h
    · exact wpAny_pyIter_striter_wide hi h

theorem EvI.list (h : EvE S b sc δ μ iter (.ok (.list ds)) μ') (hT : ∀ it v, letOwnedTupleGo target it v = pure () := by intro _ _; rfl) : EvI S b sc δ μ target iter (.ok ds) μ' := by
  with_unfolding_all
  intro A env Fs h₀ Xr Y Xs s R E P K
  refine h A env Fs h₀ Xr Y Xs s _ E P fun v h' tk x m D => ?_
  refine byC fun hnC9 => ?_
  obtain ⟨l, items, rfl, hl, hd, hn⟩ := D.lst
  refine hnC9 ?_
  refine wpAny_pyIter_list hl ?_
  have pu : ∀ b o', h'.get? b = some o' → (h'.push { cls := .type "list_iterator", data := .fields #[.ref l, .int 0 0] }).get? b = some o' := fun b o' e => Heap.get?_push_of_some _ e
  have P' := P.next (tk := tk) x m
  exact K (.ref h'.objs.size) [h'.objs.size] (JList h'.objs.size) _ tk (x.trans (X' := Xs.flatten) (.of_keeps pu) fun a q => .inl q) (m.sim (X := []) (Fs := Fs) (B := S.B) (.of_keeps pu) ⟨(fun h => nomatch h), (fun _ _ _ h => nomatch h)⟩ (fun _ h => nomatch h) fun _ _ h => nomatch h)
    (fun y q => by cases List.mem_singleton.mp q; exact x.fresh (Heap.get?_none_of_le (Nat.le_refl _))) (iters_list fun s hs A E v Q hQ => wpAny_of_eq (hT _ _) hQ) ⟨l, 0, items, ⟨_, Heap.get?_push_size _ rfl, rfl, rfl⟩, hl.push _, hn, by rw [List.drop_zero]; exact hd.push pu⟩
theorem EvI.tuple (h : EvE S b sc δ μ iter (.ok (.tuple ds)) μ') (hT : ∀ it v, letOwnedTupleGo target it v = pure () := by intro _ _; rfl) : EvI S b sc δ μ target iter (.ok ds) μ' := by
  with_unfolding_all
  intro A env Fs h₀ Xr Y Xs s R E P K
  refine h A env Fs h₀ Xr Y Xs s _ E P fun v h' tk x m D => ?_
  refine byC fun hnC10 => ?_
  obtain ⟨l, items, rfl, hl, hd⟩ := D.tup
  refine hnC10 ?_
  refine wpAny_pyIter_tuple hl ?_
  have pu : ∀ b o', h'.get? b = some o' → (h'.push { cls := .type "tuple_iterator", data := .fields #[.ref l, .int 0 0] }).get? b = some o' := fun b o' e => Heap.get?_push_of_some _ e
  exact K (.ref h'.objs.size) [h'.objs.size] (JTuple h'.objs.size) _ tk (x.trans (X' := Xs.flatten) (.of_keeps pu) fun a q => .inl q) (m.sim (X := []) (Fs := Fs) (B := S.B) (.of_keeps pu) ⟨(fun h => nomatch h), (fun _ _ _ h => nomatch h)⟩ (fun _ h => nomatch h) fun _ _ h => nomatch h)
    (fun y q => by cases List.mem_singleton.mp q; exact x.fresh (Heap.get?_none_of_le (Nat.le_refl _))) (iters_tuple hT) ⟨l, 0, items, ⟨_, Heap.get?_push_size _ rfl, rfl, rfl⟩, (let ⟨o, e, r⟩ := hl; ⟨o, pu _ _ e, r⟩), by rw [List.drop_zero]; exact hd.push pu⟩
theorem EvI.str {z : Str} (h : EvE S b sc δ μ iter (.ok (.str z)) μ') (hT : ∀ it v, letOwnedTupleGo target it v = pure () := by intro _ _; rfl) : EvI S b sc δ μ target iter (.ok (charsOf z)) μ' := by
  with_unfolding_all
  intro A env Fs h₀ Xr Y Xs s R E P K
  refine h A env Fs h₀ Xr Y Xs s _ E P fun v h' tk x m D => ?_
  obtain ⟨t, rfl⟩ := D.str
  have pu : ∀ o, ∀ b o', h'.get? b = some o' → (h'.push o).get? b = some o' := fun o b o' e => Heap.get?_push_of_some _ e
  cases ha : z.cps.all (· < 128) with
  | true =>
    refine wpAny_pyIter_ascii ha ?_
    exact K (.ref h'.objs.size) [h'.objs.size] (JStr "str_ascii_iterator" h'.objs.size) _ tk (x.trans (X' := Xs.flatten) (.of_keeps (pu _)) fun a q => .inl q) (m.sim (X := []) (Fs := Fs) (B := S.B) (.of_keeps (pu _)) ⟨(fun h => nomatch h), (fun _ _ _ h => nomatch h)⟩ (fun _ h => nomatch h) fun _ _ h => nomatch h)
      (fun y q => by cases List.mem_singleton.mp q; exact x.fresh (Heap.get?_none_of_le (Nat.le_refl _))) (iters_str (.inl rfl) hT) ⟨z, t, 0, ⟨_, Heap.get?_push_size _ rfl, rfl, rfl⟩, rfl⟩
  | false =>
    refine wpAny_pyIter_wide ha ?_
    exact K (.ref h'.objs.size) [h'.objs.size] (JStr "str_iterator" h'.objs.size) _ tk (x.trans (X' := Xs.flatten) (.of_keeps (pu _)) fun a q => .inl q) (m.sim (X := []) (Fs := Fs) (B := S.B) (.of_keeps (pu _)) ⟨(fun h => nomatch h), (fun _ _ _ h => nomatch h)⟩ (fun _ h => nomatch h) fun _ _ h => nomatch h)
      (fun y q => by cases List.mem_singleton.mp q; exact x.fresh (Heap.get?_none_of_le (Nat.le_refl _))) (iters_str (.inr rfl) hT) ⟨z, t, 0, ⟨_, Heap.get?_push_size _ rfl, rfl, rfl⟩, rfl⟩
end
end
section
variable [Pm]

/-- what a call hands on that may turn what it is given -/
noncomputable def KcR (S : St) (Fs Y xs : List Addr) (v : Value) (s : Shared) (m' : Mut) (out : Out PyData) (R : Value → Shared → Prop) (E : Value → Shared → Prop) : Prop := match out with
  | .ok d => ∀ r h' tk, Sim S.B Fs xs s.heap h' → HasMut Y h' v xs m' → DataIn Y h' r d → R r { s with heap := h', toks := tk }
  | .exc u t => ∀ e h' tk, Sim S.B Fs xs s.heap h' → ExcW S s.heap h' e u t (some .none) → E (.ref e) { s with heap := h', toks := tk }

/-- a call's result, handed on -/
noncomputable def backTo' (R : Value → Shared → Prop) (E : Value → Shared → Prop) : Result → Shared → Prop := fun r s' => match r with | .ok (.ret v) => R v s' | .ok _ => False | .error e => E e s'
/-- the function at fa, called with a thing that it may turn and with data -/
@[irreducible] def CalR (S : St) (b : Nat) (fa : Addr) (m : Mut) (ds : List PyData) (out : Out PyData) (m' : Mut) : Prop :=
  ∀ A outer v xs vs Y s R E, At S b A outer Y s → HasMut Y s.heap v xs m → (∀ a ∈ xs, a ∈ Y) → xs.Nodup → (∀ a ∈ xs, a ∉ outer.filterMap (·.frame)) → DatasIn Y s.heap vs ds →
    KcR S (outer.filterMap (·.frame)) Y xs v s m' out R E → codeAny S.M A (.call (.ref fa) ⟨v :: vs, []⟩) (backTo' R E) s

/-- a thing's value, by its addresses -/
noncomputable def headOf : List Addr → Value
  | [] => .none
  | [a] => .ref a
  | _ :: x :: _ => .ref x
theorem HasMut.head {Y : List Addr} {h : Heap} {v : Value} {xs : List Addr} : ∀ {m : Mut}, HasMut Y h v xs m → v = headOf xs
  | .list _, ⟨a, _, _, _, hv, hx, _⟩ => by rw [hx]; exact hv
  | .inst _ _, ⟨x, dx, _, _, _, _, hv, hx, _⟩ => by rw [hx]; exact hv
theorem HasMut.val {Y Y' : List Addr} {h h' : Heap} {v v' : Value} {xs : List Addr} {m m' : Mut} (H : HasMut Y h v xs m) (H' : HasMut Y' h' v' xs m') : v = v' := H.head.trans H'.head.symm
theorem HasMut.less {Y Y' : List Addr} {h : Heap} (hy : ∀ a ∈ Y', a ∈ Y) {v : Value} {xs : List Addr} {m : Mut} (H : HasMut Y h v xs m) : HasMut Y' h v xs m := H.grow fun a q => .inl (hy a q)

section
variable {S : St} {b b' : Nat} {sc scf : Scope} {δ δ₁ : List (Str × PyData)} {μ μ₁ μ' μr μa μb : List (Str × Mut)} {e : Expr} {es : List Expr} {pos np ap : Pos} {d : PyData} {u : Bool} {t n p f : Str} {ds : List PyData} {body : List Stmt} {so : SO} {fa : Addr} {ps : List Str} {out : Out PyData} {m m₁ m' : Mut}

/-- how a function that turns its first thing ends -/
inductive Ends (p : Str) (m' : Mut) : SO → Out PyData → Prop where
  | next {δ : List (Str × PyData)} {μr : List (Str × Mut)} : Ends p m' (.next δ ((p, m') :: μr)) (.ok .none)
  | ret {d : PyData} {μr : List (Str × Mut)} : Ends p m' (.ret d ((p, m') :: μr)) (.ok d)
  | exc {u : Bool} {t : Str} : Ends p m' (.exc u t) (.exc u t)

theorem CalR.mk (O : S.Ok) (hf : HasFn S fa (p :: ps) body sc) (so : SO) (ho : Ends p m' so out) (hl : ds.length = ps.length) (ok : ScOk sc (p :: ps)) (hby : byRef sc = true) (hcomp : isComp sc = false) (h : EvSs S b sc (ps.zip ds) [(p, m)] body so) : CalR S (b + 1) fa m ds out m' := by
  with_unfolding_all
  intro A outer v xs vs Y s R E P M hxY hxN hxF D K
  refine byC fun hnC1 => ?_
  obtain ⟨o, fd, h1, h2, h3, h4, h5, h6, h7, h8, h9⟩ := hf
  refine hnC1 ?_
  have hvl : (v :: vs).length = (p :: ps).length := congrArg (· + 1) (D.length.trans hl)
  have keepCode : s.heap.CodeRec fd.code fd.qualname := h3.keeps P.stat
  refine (codeAny_call_def (fd := fd) (body := body) (binds := (p :: ps).zip (v :: vs)) (by have := P.depth; omega) (P.stat _ _ h1) h2 (O.nolimit.keeps P.stat) keepCode h4 (h9 s (v :: vs) hvl) (by rw [h5]; exact ok.cell) (fun x hx => ?_) (fun h₁ hN hk => ?_) (by rw [h5]; exact ok.co) (by rw [h5]; exact ok.gen) (by rw [h5]; exact ok.kind))
  · rw [h5]
    refine ok.loc _ ?_
    have := List.mem_map_of_mem (f := (·.1)) hx
    rwa [zip_keys hvl] at this
  have hL : s.heap.get? s.heap.objs.size = none := Heap.get?_none_of_le (Nat.le_refl _)
  have hLY : s.heap.objs.size ∉ Y := fun q => by obtain ⟨o, e⟩ := P.alloc _ q; rw [hL] at e; cases e
  have hLB : S.B.get? s.heap.objs.size = none := none_base (h₀ := s.heap) P.stat hL
  have envE : callEnv fd s.heap.objs.size fa = { scope := sc, locals := s.heap.objs.size, globals := mainGlobals, cells := [], qual := fd.qualname ++ ".<locals>.", func := some fa, code := fd.code, frame := some s.heap.objs.size, builtins := builtinsNs } := by
    unfold callEnv newEnv
    rw [h5, h6, h7, h8]
  have kY : ∀ a ∈ Y, ∃ o, h₁.get? a = some o := fun a q => let ⟨o, e⟩ := P.alloc a q; ⟨o, hk _ _ e⟩
  have hFun : h₁.FunFrames S.B (callEnv fd s.heap.objs.size fa :: outer) := by
    refine .cons (by rw [envE]; show sc.kind ≠ .module; rw [ok.kind]; decide) (by rw [envE]) hN hLB ?_
    exact funFrames_sim (B := S.B) (Fs := []) (X := []) (.of_keeps hk) P.funs
  have hfr : (A.deeper (callEnv fd s.heap.objs.size fa)).frames = some (callEnv fd s.heap.objs.size fa :: outer) := Around.frames_deeper P.frames
  have hFs : (callEnv fd s.heap.objs.size fa :: outer).filterMap (·.frame) = s.heap.objs.size :: outer.filterMap (·.frame) := by
    rw [List.filterMap_cons, envE]
  have unf : ∀ {h' : Heap}, Sim S.B ((callEnv fd s.heap.objs.size fa :: outer).filterMap (·.frame)) xs s.heap h' → Sim S.B (outer.filterMap (·.frame)) xs s.heap h' := fun x => x.unframe fun a q => by
    rw [hFs] at q
    rcases List.mem_cons.mp q with rfl | q
    · exact .inr hL
    · exact .inl q
  have gY : ∀ a ∈ s.heap.objs.size :: Y, a ∈ Y ∨ s.heap.get? a = none := fun a q => by
    rcases List.mem_cons.mp q with rfl | q
    · exact .inr hL
    · exact .inl q
  have kE : Sim S.B [] [] s.heap h₁ := .of_keeps hk
  have rev : ∀ x, ((p :: ps).zip (v :: vs)).reverse.lookup x = ((p :: ps).zip (v :: vs)).lookup x := fun x => lookup_reverse (by rw [zip_keys hvl]; exact ok.nodup)
  have PS : PreS S b sc (A.deeper (callEnv fd s.heap.objs.size fa)) (callEnv fd s.heap.objs.size fa) ((callEnv fd s.heap.objs.size fa :: outer).filterMap (·.frame)) s.heap 1 xs Y (s.heap.objs.size :: Y) [xs] (ps.zip ds) [(p, m)] { s with heap := h₁, toks := s.toks + ((p :: ps).zip (v :: vs)).length } := by
    refine ⟨?_, fun _ => ⟨by simp, by simp, .inr hby⟩, fun a q => ⟨.tail _ q, P.alloc a q⟩⟩
    exact {
      depth := by have := P.depth; show A.depth + 1 + b < _; omega
      units := by have := P.units; show A.units + 3 + 30 * b + 100 < _; omega
      handled := P.handled
      sco := by rw [envE]
      kind := ok.kind
      globals := by rw [envE]
      builtins := by rw [envE]
      stack := ⟨_, outer, s.heap.objs.size, hfr, by rw [envE], by rw [envE], rfl, hFun, hL⟩
      base := P.stat
      stat := fun a o e => hk _ _ (P.stat _ _ e)
      hist := .of_keeps hk
      loc := ⟨⟨_, by rw [envE]; exact hN⟩, fun x dx ex => by
        obtain ⟨w, hv, Dv⟩ := zip_lookup D ex
        have hx : x ∈ ps := by
          have := zip_keys (vs := ds) hl
          rw [← this]
          clear this Dv hv
          generalize ps.zip ds = l at ex
          induction l with
          | nil => simp at ex
          | cons y l ih =>
            obtain ⟨y1, y2⟩ := y
            rw [List.lookup_cons] at ex
            cases w : x == y1 with
            | true => rw [beq_iff_eq.mp w]; exact .head _
            | false => rw [w] at ex; exact .tail _ (ih ex)
        have hxp : (x == p) = false := beq_eq_false_iff_ne.mpr fun q => (List.nodup_cons.mp ok.nodup).1 (q ▸ hx)
        refine ⟨w, .inl ⟨?_, _, by rw [envE]; exact hN, ?_⟩, (Dv.grow gY).push hk⟩
        · rw [envE]; exact ok.loc x (.tail _ hx)
        · show ((p :: ps).zip (v :: vs)).reverse.lookup x = some w
          rw [rev, List.zip_cons_cons, List.lookup_cons, hxp]; exact hv⟩
      locY := by rw [envE]; exact ⟨.head _, hL⟩
      cellY := fun x c q => by rw [envE] at q; simp at q
      cellI := fun x y c q => by rw [envE] at q; simp at q
      cellE := fun _ n q => by
        have q : sc.names.lookup n = some .cell := by rw [envE] at q; exact q
        exact absurd rfl (ok.cell _ (mem_of_lookup q))
      muts := ⟨⟨v, .inl ⟨by rw [envE]; exact ok.loc p (.head _), _, by rw [envE]; exact hN, by show ((p :: ps).zip (v :: vs)).reverse.lookup p = some v; rw [rev, List.zip_cons_cons, List.lookup_cons, beq_self_eq_true]⟩,
        (M.grow gY).sim kE (fun _ q => nomatch q) fun _ _ q => nomatch q⟩, trivial⟩
      nodup := by simpa using hxN
      sepY := fun a q => .tail _ (hxY a (by simpa using q))
      sepF := fun a q => by
        have q : a ∈ xs := by simpa using q
        rw [hFs]
        intro z
        rcases List.mem_cons.mp z with rfl | z
        · exact hLY (hxY _ q)
        · exact hxF a q z
      yB := fun a q => by
        rcases List.mem_cons.mp q with rfl | q
        · exact hLB
        · exact P.yB a q
      fsY := fun a q => by
        rw [hFs] at q
        rcases List.mem_cons.mp q with rfl | q
        · exact .head _
        · exact .tail _ (P.fsY a q)
      sepN := ⟨fun q => hLY (hxY _ (by rw [envE] at q; simpa using q)), fun x c q => by rw [envE] at q; simp at q⟩
      sepH := fun a q => .inl (by simpa using q)
      alloc := fun a q => by
        rcases List.mem_cons.mp q with rfl | q
        · obtain ⟨o', _, _, ho', _⟩ := hN; exact ⟨o', ho'⟩
        · exact kY a q }
  have fin : ∀ {δ' : List (Str × PyData)} {Y' : List Addr} {Xs' : List (List Addr)} {μr : List (Str × Mut)} {s' : Shared}, PreS S b sc (A.deeper (callEnv fd s.heap.objs.size fa)) (callEnv fd s.heap.objs.size fa) ((callEnv fd s.heap.objs.size fa :: outer).filterMap (·.frame)) s.heap 1 xs Y Y' Xs' δ' ((p, m') :: μr) s' → HasMut Y s'.heap v xs m' := by
    intro δ' Y' Xs' μr s' P'
    have Q := P'.pre.muts
    have X := (P'.xr hcomp).1
    match Xs', Q with
    | ys :: _, ⟨⟨v', H, M'⟩, _⟩ =>
      have e : xs = ys := by simpa using X
      subst e
      have := M.val M'
      subst this
      exact M'.less fun a q => (P'.y0 a q).1
  refine h _ _ _ _ _ _ _ _ _ _ _ _ PS ?_
  cases ho with
  | next =>
    intro h' tk Y' Xs' _ _ P'
    exact K .none h' tk (unf P'.pre.hist) (fin P') dataNone
  | ret =>
    intro r h' tk δ' Y' Xs' P' D'
    exact K r h' tk (unf P'.pre.hist) (fin P') D'
  | exc =>
    intro e h' tk x hF' hs X
    have L' : (callEnv fd s.heap.objs.size fa).frame = some s.heap.objs.size := by rw [envE]
    rw [L'] at X
    refine exc_leaves (s := { s with heap := h', toks := tk }) hfr (hF' _ hfr) L' rfl X P.stat (fun a q => x.fresh q) fun h₂ st₂ X₂ => ?_
    exact K e h₂ tk (unf (st₂.sim x)) X₂

/-- the function of that name, by reference -/
noncomputable def CalNR (S : St) (b : Nat) (n : Str) (m : Mut) (ds : List PyData) (out : Out PyData) (m' : Mut) : Prop := ∃ fa o fd, S.mg n = some (.ref fa) ∧ S.B.get? fa = some o ∧ o.data = .func fd ∧ CalR S b fa m ds out m'
theorem CalNR.mk (O : S.Ok) (hf : FnN S n (p :: ps) body sc) (ok : ScOk sc (p :: ps)) (so : SO) (h : EvSs S b sc (ps.zip ds) [(p, m)] body so) (ho : Ends p m' so out) (hl : ds.length = ps.length := by rfl) (hby : byRef sc = true := by rfl) (hcomp : isComp sc = false := by rfl) : CalNR S (b + 1) n m ds out m' := by
  obtain ⟨fa, hm, hf⟩ := hf
  have c := CalR.mk O hf so ho hl ok hby hcomp h
  refine byC fun hnC2 => ?_
  obtain ⟨o, fd, h1, h2, _⟩ := hf
  refine hnC2 ?_
  exact ⟨fa, o, fd, hm, h1, h2, c⟩
theorem holds_same {env : Env} {h : Heap} {v v' : Value} (H : Holds h env n v) (H' : Holds h env n v') : v = v' := by
  rcases H with ⟨k1, m1, n1, e1⟩ | ⟨k1, c1, e1, o1, f1, g1⟩ <;> rcases H' with ⟨k2, m2, n2, e2⟩ | ⟨k2, c2, e2, o2, f2, g2⟩
  · cases Ns.same n1 n2; rw [e1] at e2; exact Option.some.inj e2
  · rw [k1] at k2; cases k2
  · rw [k1] at k2; cases k2
  · rw [e1] at e2; cases e2; rw [f1] at f2; cases f2; rw [g1] at g2; cases g2; rfl

theorem Pre.oneN {A : Around} {env : Env} {Fs : List Addr} {h₀ : Heap} {Xr Y : List Addr} {Xs : List (List Addr)} {s : Shared} (P : Pre S b sc A env Fs h₀ Xr Y Xs δ (μa ++ (n, m) :: μb) s) : ∃ v xs, (∀ a ∈ xs, a ∈ Xs.flatten) ∧ xs.Nodup ∧ Holds s.heap env n v ∧ HasMut Y s.heap v xs m ∧
    ∀ h' m', Sim S.B Fs xs s.heap h' → HasMut Y h' v xs m' → Muts Y env h' (μa ++ (n, m') :: μb) Xs := by
  refine byC fun hnC3 => ?_
  obtain ⟨v, xs, h1, h2, h3, h4⟩ := P.one
  refine hnC3 ?_
  refine ⟨v, xs, h1, ?_, h2, h3, h4⟩
  refine byC fun hnC4 => ?_
  obtain ⟨Xa, ys, Xb, w, rfl, hl, g1, g2, g3, g4⟩ := muts_split P.muts
  refine hnC4 ?_
  have hvw := holds_same h2 g2
  subst hvw
  have e : xs = ys := by
    cases m with
    | list ds =>
      refine byC fun hnC5 => ?_
      obtain ⟨a, _, _, _, hv, hx, _⟩ := h3
      obtain ⟨a', _, _, _, hv', hx', _⟩ := g3
      refine hnC5 ?_
      rw [hv] at hv'; cases hv'
      rw [hx, hx']
    | inst C es =>
      refine byC fun hnC6 => ?_
      obtain ⟨x, dx, o, _, _, _, hv, hx, ho, _, hd, _⟩ := h3
      obtain ⟨x', dx', o', _, _, _, hv', hx', ho', _, hd', _⟩ := g3
      refine hnC6 ?_
      rw [hv] at hv'; cases hv'
      rw [ho] at ho'; cases ho'
      rw [hd] at hd'; cases hd'
      rw [hx, hx']
  subst e
  have N := P.nodup
  have fl : (Xa ++ xs :: Xb).flatten = Xa.flatten ++ (xs ++ Xb.flatten) := by simp
  rw [fl, List.nodup_append] at N
  exact (List.nodup_append.mp N.2.1).1

theorem calR_use {A : Around} {env : Env} {Fs : List Addr} {h₀ : Heap} {Xr Y : List Addr} {Xs : List (List Addr)} {s : Shared} {R E : Value → Shared → Prop} {vs : List Value} {v : Value} (c : CalR S b fa m ds out m') (P : Pre S b sc A env Fs h₀ Xr Y Xs δ (μa ++ (n, m) :: μb) s)
    (K : Kn S Fs Y env Xs (μa ++ (n, m') :: μb) DataIn s out R E) (H : Holds s.heap env n v) (D : DatasIn Y s.heap vs ds) : wpAny S.M A (call (.ref fa) (v :: vs)) R E s := by
  with_unfolding_all
  refine byC fun hnC7 => ?_
  obtain ⟨w, xs, sub, nd, H', M, turn⟩ := P.oneN
  refine hnC7 ?_
  have := holds_same H H'
  subst this
  obtain ⟨outer, hat, hF⟩ := P.at
  subst hF
  refine wpAny_call (c A outer v xs vs Y s R E hat M (fun a q => P.sepY a (sub a q)) nd (fun a q => P.sepF a (sub a q)) D ?_)
  cases out with
  | ok d => exact fun r h' tk x M' D' => K r h' tk (x.mono sub) (turn h' m' x M') D'
  | exc u t => exact fun e h' tk x X => K e h' tk (x.mono sub) (.inr (.inl X))

theorem EvE.callR (O : S.Ok) (μa μb : List (Str × Mut)) (c : CalNR S b f m₁ ds out m') (h : EvEs S b sc δ (μa ++ (n, m) :: μb) es (.ok ds) (μa ++ (n, m₁) :: μb)) (hk : sc.names.lookup f = some .globalImplicit) (hs : noStar (.Name n ap :: es) := by intro _; rfl)
    (hd : (f == ("__debug__" : Str)) = false := by decide) (hn : (n == ("__debug__" : Str)) = false := by decide) :
    EvE S b sc δ (μa ++ (n, m) :: μb) (.Call (.Name f np) (.Name n ap :: es) [] pos) out (μa ++ (n, m') :: μb) := by
  with_unfolding_all
  refine byC fun hnC8 => ?_
  obtain ⟨fa, o, fd, hm, hf, hdat, c⟩ := c
  refine hnC8 ?_
  intro A env Fs h₀ Xr Y Xs s R E P K
  refine wpAny_Call_Name_kw (O.global P hm hk ?_ hd)
  refine callWith_def (o := o) hdat ?_ (noStar_head hs env)
  rw [hs env]
  refine byC fun hnC9 => ?_
  obtain ⟨v, xs, sub, nd, H, M, turn⟩ := P.oneN
  refine hnC9 ?_
  refine spliced_WEs (es := .Name n ap :: es) ?_
  refine wpAny_Name (load_holds P.sk H ?_) hn
  refine h A env Fs h₀ Xr Y Xs s _ E P fun vs h' tk x m D => ?_
  have P' := P.next (tk := tk) x m
  refine ⟨P'.stat _ _ hf, ?_⟩
  exact calR_use c P' (K.seq (tk := tk) x) (H.sim x P.sepN) D
end
end
section
variable [Pm]

/-- a comprehension's scope, in the frame of sc -/
noncomputable def inner (scope sc : Scope) : Scope := { scope with names := scope.names.map fun (n, k) => if (k == .free && sc.kind == .function && sc.names.lookup n == some .cell) then (n, .cell) else (n, k) }
theorem inner_eq (scope : Scope) (env : Env) : relabel scope env = inner scope env.scope := rfl
noncomputable def freeNames (scope : Scope) : List Str := scope.names.filterMap fun x => if x.2 == .free then some x.1 else none

noncomputable def goCl (env : Env) : List (Str × NameKind) → List (Str × Addr) → List (Str × Addr)
  | [], cs => cs
  | (n, k) :: r, cs => goCl env r (if k == .free then (match env.cells.lookup n with | some c => (n, c) :: cs | none => cs) else cs)
theorem closure_go {env : Env} {scope : Scope} (h : ∀ n ∈ freeNames scope, ∃ c, env.cells.lookup n = some c) : closureFor scope env = pure (goCl env scope.names []) := by
  have key : ∀ (l : List (Str × NameKind)) (cs : List (Str × Addr)), (∀ x ∈ l, x.2 = .free → ∃ c, env.cells.lookup x.1 = some c) →
      (forIn l cs fun x r => (if x.2 == .free then (do let y ← cellOf env x.1; pure (ForInStep.yield ((x.1, y) :: r))) else pure (ForInStep.yield r) : Sem (ForInStep (List (Str × Addr))))) = pure (goCl env l cs) := by
    intro l
    induction l with
    | nil => intro cs _; rfl
    | cons x l ih =>
      intro cs hx
      obtain ⟨n, k⟩ := x
      rw [List.forIn_cons]
      cases hk : k == NameKind.free with
      | false =>
        simp only [hk, Bool.false_eq_true, if_false, pure_bind, goCl]
        exact ih cs fun y q => hx y (.tail _ q)
      | true =>
        obtain ⟨c, hc⟩ := hx (n, k) (.head _) (beq_iff_eq.mp hk)
        simp only [hk, if_true, cellOf, hc, pure_bind, goCl]
        exact ih _ fun y q => hx y (.tail _ q)
  have := key scope.names [] fun x hx hk => h x.1 (by
    unfold freeNames
    exact List.mem_filterMap.mpr ⟨x, hx, by simp [hk]⟩)
  unfold closureFor
  simp only [bind_pure]
  exact this
theorem goCl_sub {env : Env} : ∀ {l : List (Str × NameKind)} {cs : List (Str × Addr)}, (∀ n c, cs.lookup n = some c → env.cells.lookup n = some c) → ∀ n c, (goCl env l cs).lookup n = some c → env.cells.lookup n = some c
  | [], _, h, n, c, e => h n c e
  | (m, k) :: r, cs, h, n, c, e => by
    refine goCl_sub (l := r) (cs := if k == .free then (match env.cells.lookup m with | some c => (m, c) :: cs | none => cs) else cs) (fun n c e => ?_) n c e
    split at e
    · split at e
      · rename_i c' hc
        rw [List.lookup_cons] at e
        cases z : n == m with
        | true => rw [z] at e; cases e; rw [beq_iff_eq.mp z]; exact hc
        | false => rw [z] at e; exact h n c e
      · exact h n c e
    · exact h n c e
theorem goCl_keep {env : Env} {n : Str} : ∀ {l : List (Str × NameKind)} {cs : List (Str × Addr)}, (∀ n c, cs.lookup n = some c → env.cells.lookup n = some c) → (∃ c, cs.lookup n = some c) → ∃ c, (goCl env l cs).lookup n = some c
  | [], _, _, h => h
  | (m, k) :: r, cs, hs, ⟨c, h⟩ => by
    have hs' : ∀ n c, (if k == .free then (match env.cells.lookup m with | some c => (m, c) :: cs | none => cs) else cs).lookup n = some c → env.cells.lookup n = some c := fun n c e => by
      split at e
      · split at e
        · rename_i c' hc
          rw [List.lookup_cons] at e
          cases z : n == m with
          | true => rw [z] at e; cases e; rw [beq_iff_eq.mp z]; exact hc
          | false => rw [z] at e; exact hs n c e
        · exact hs n c e
      · exact hs n c e
    refine goCl_keep (l := r) hs' ?_
    split
    · split
      · rw [List.lookup_cons]
        cases n == m with
        | true => exact ⟨_, rfl⟩
        | false => exact ⟨c, h⟩
      · exact ⟨c, h⟩
    · exact ⟨c, h⟩
theorem goCl_has {env : Env} {n : Str} {c : Addr} (hc : env.cells.lookup n = some c) : ∀ {l : List (Str × NameKind)} {cs : List (Str × Addr)}, (∀ n c, cs.lookup n = some c → env.cells.lookup n = some c) → (n, NameKind.free) ∈ l → (goCl env l cs).lookup n = some c := by
  intro l cs hs hm
  have key : ∀ (l : List (Str × NameKind)) (cs : List (Str × Addr)), (∀ n c, cs.lookup n = some c → env.cells.lookup n = some c) → (n, NameKind.free) ∈ l → ∃ c, (goCl env l cs).lookup n = some c := by
    intro l
    induction l with
    | nil => intro _ _ h; cases h
    | cons x l ih =>
      obtain ⟨m, k⟩ := x
      intro cs hs hm
      have hs' : ∀ n c, (if k == .free then (match env.cells.lookup m with | some c => (m, c) :: cs | none => cs) else cs).lookup n = some c → env.cells.lookup n = some c := fun n c e => by
        split at e
        · split at e
          · rename_i c' hc
            rw [List.lookup_cons] at e
            cases z : n == m with
            | true => rw [z] at e; cases e; rw [beq_iff_eq.mp z]; exact hc
            | false => rw [z] at e; exact hs n c e
          · exact hs n c e
        · exact hs n c e
      rcases List.mem_cons.mp hm with e | hm
      · cases e
        refine goCl_keep (l := l) hs' ⟨c, ?_⟩
        simp [hc]
      · exact ih _ hs' hm
  obtain ⟨c', e⟩ := key l cs hs hm
  have := goCl_sub hs n c' e
  rw [hc] at this
  cases this
  exact e

section
variable {S : St} {b : Nat} {sc scope : Scope} {δ δ' δ₁ δ₂ δc : List (Str × PyData)} {μ μ₁ μ₂ μ' μc μd : List (Str × Mut)} {e target iter elt : Expr} {es : List Expr} {pos p np : Pos} {d x y : PyData} {u : Bool} {t : Str} {ds acc rs : List PyData} {n : Str} {ys : List Addr} {it : Value} {J : List Addr → Heap → List PyData → Prop}
  {A : Around} {env cenv : Env} {Fs X : List Addr} {h₀ hb : Heap} {nr : Nat} {Xr Y₀ Y : List Addr} {Xs : List (List Addr)} {s : Shared} {R : Value → Shared → Prop} {E : Value → Shared → Prop} {Rr : Result → Shared → Prop} {D : Addr} {items : Array Value}

/-- what the loop hands on -/
noncomputable def KL (S : St) (Fs X Y : List Addr) (cenv : Env) (Xs : List (List Addr)) (μ' : List (Str × Mut)) (hb : Heap) (s : Shared) (D : Addr) (acc : List PyData) (Inv : Heap → Prop) (out : Out (List PyData)) (R : Result → Shared → Prop) : Prop := match out with
  | .ok rs => ∀ h' tk items, Sim S.B Fs X hb h' → Muts Y cenv h' μ' Xs → PlainL h' D items → DatasIn Y h' items.toList (acc ++ rs) → (∃ m, h'.Ns cenv.locals m) → Inv h' → R (.ok .next) { s with heap := h', toks := tk }
  | .exc u t => ∀ e h' tk L h₁, cenv.frame = some L → Sim S.B Fs X hb h' → ExcW S h₁ h' e u t (some (rawInt L)) → (∀ a, h₁.get? a = none → hb.get? a = none) → (∃ o, h₁.get? cenv.locals = some o) → (∃ m, h'.Ns cenv.locals m) → R (.error (.ref e)) { s with heap := h', toks := tk }

/-- where the new list stands -/
structure At' (Fs Y : List Addr) (Xs : List (List Addr)) (cenv : Env) (D : Addr) : Prop where
  y : D ∈ Y
  x : D ∉ Xs.flatten
  l : D ≠ cenv.locals
  c : ∀ x c, cenv.cells.lookup x = some c → c ≠ D

/-- what stays, whatever the loop does -/
structure Stays (S : St) (Fs ys : List Addr) (cenv : Env) (D : Addr) (Xs : List (List Addr)) (Inv : Heap → Prop) : Prop where
  off : ∀ h h', Inv h → Fielded ys h → ExtOff ys h h' → Inv h'
  sim : ∀ h h' Z, (∀ a ∈ Z, a = cenv.locals ∨ a = D ∨ a ∈ Xs.flatten) → Sim S.B Fs Z h h' → Inv h → Inv h'

/-- the loop of a comprehension, from here on -/
@[irreducible] def EvL (S : St) (b : Nat) (sc : Scope) (δ : List (Str × PyData)) (μ : List (Str × Mut)) (target elt : Expr) (ds : List PyData) (out : Out (List PyData)) (μ' : List (Str × Mut)) : Prop :=
  ∀ A cenv Fs h₀ Xr Y Xs s R it (ys : List Addr) (J : List Addr → Heap → List PyData → Prop) hb X D items acc iter scope pos Inv, Pre S b sc A cenv Fs h₀ Xr Y Xs δ μ s → isComp sc = true → Iters S target it ys J → J Y s.heap ds → (∀ y ∈ ys, y ∉ Y ∧ h₀.get? y = none ∧ hb.get? y = none) →
    (∀ a, hb.get? a = none → h₀.get? a = none) → S.B.StaysIn hb → hb.get? cenv.locals = none → (∀ a ∈ Xs.flatten, a ∈ X ∨ hb.get? a = none) → Sim S.B Fs X hb s.heap →
    PlainL s.heap D items → DatasIn Y s.heap items.toList acc → At' Fs Y Xs cenv D → hb.get? D = none → acc.length + ds.length ≤ sizeLine → Stays S Fs ys cenv D Xs Inv → Inv s.heap →
    KL S Fs X Y cenv Xs μ' hb s D acc Inv out R → codeAny S.M A (.compLoop (.ListComp elt [⟨target, iter, [], 0⟩] scope pos) 0 it (.ref D) cenv) R s

theorem comp_turn {R : Result → Shared → Prop} {A : Around} {env : Env} {acc : Value}
    (h : wpAny S.M A (pyNext it) (fun r s₁ => match r with
      | none => R (.ok .next) s₁
      | some v => wpAny S.M A (letOwnedTupleGo target it v) (fun _ s₁' => wpAny S.M A (assign target env v) (fun _ s₂ => wpAny S.M A (eval elt env) (fun w s₃ =>
          wpAny S.M A (call (.builtin "list.append") [acc, w]) (fun _ s₄ => codeAny S.M A (.compLoop (.ListComp elt [⟨target, iter, [], 0⟩] scope pos) 0 it acc env) R s₄) (notedBy S.M A env fun e s' => R (.error e) s') s₃)
          (notedBy S.M A env fun e s' => R (.error e) s') s₂) (notedBy S.M A env fun e s' => R (.error e) s') s₁') (notedBy S.M A env fun e s' => R (.error e) s') s₁) (notedBy S.M A env fun e s' => R (.error e) s') s) :
    codeAny S.M A (.compLoop (.ListComp elt [⟨target, iter, [], 0⟩] scope pos) 0 it acc env) R s := by
  refine codeAny_of_tree ?_
  show wpAny S.M A ((compTurn (.ListComp elt [⟨target, iter, [], 0⟩] scope pos) 0 it acc env).onRaise (fun x => do noteFrame x env; theTreesLotGoes x)) _ _ s
  refine wpAny_noted ?_
  rw [compTurn_list1]
  refine wpAny_bind (wpAny_standAt (wpAny_bind (wpAny_mono h (fun r s₁ h₁ => ?_) fun _ _ h' => h')))
  cases r with
  | none => exact wpAny_pure h₁
  | some v =>
    refine wpAny_bind (wpAny_mono h₁ (fun _ s₁' h₁' => ?_) fun _ _ h' => h')
    exact wpAny_bind (wpAny_mono h₁' (fun _ s₂ h₂ => wpAny_bind (wpAny_bind (wpAny_mono h₂ (fun x s₃ h₃ => wpAny_bind (wpAny_mono h₃
      (fun _ s₄ h₄ => wpAny_pure (wpAny_pure ⟨rfl, h₄⟩)) fun _ _ h' => h')) fun _ _ h' => h'))) fun _ _ h' => h')

theorem plainL_off {h h' : Heap} (o : ExtOff ys h h') (hn : D ∉ ys) (hp : PlainL h D items) : PlainL h' D items :=
  let ⟨ob, n, e, r⟩ := hp; ⟨ob, n, o D ob hn e, r⟩
theorem plainL_sim {B : Heap} {h h' : Heap} (x : Sim B Fs X h h') (hn : D ∉ X) (hp : PlainL h D items) : PlainL h' D items := by
  refine byC fun hnC1 => ?_
  obtain ⟨ob, n, e, h1, h2, h3⟩ := hp
  obtain ⟨sl, e'⟩ := x.at e hn
  refine hnC1 ?_
  exact ⟨_, n, e', h1, h2, h3⟩
theorem DatasIn.off' {h h' : Heap} (hf : Fielded ys h) (o : ExtOff ys h h') {vs : List Value} (H : DatasIn Y h vs ds) : DatasIn Y h' vs ds := H.imp fun _ _ q => q.off hf o

theorem EvL.nil : EvL S b sc δ μ target elt [] (.ok []) μ := by
  with_unfolding_all
  intro A cenv Fs h₀ Xr Y Xs s R it ys J hb X D items acc iter scope pos Inv P hc I j hy hbk hB hbC hX x hp Ds hD hbD hz St0 inv K
  have hDy : D ∉ ys := fun q => (hy D q).1 hD.y
  refine comp_turn (I.stop A Y _ s _ P.handled j fun h' tk o => ?_)
  have hf := I.fld _ _ _ j
  have P' := (PreS.off (nr := 0) (Y₀ := []) (tk := tk) ⟨P, (fun h => by rw [hc] at h; cases h), (fun _ q => nomatch q)⟩ hf o fun y q => ⟨(hy y q).1, (hy y q).2.1⟩).pre
  exact K h' tk items (sim_off x o (fun y q => (hy y q).2.2) hB) P'.muts (plainL_off o hDy hp) (by rw [List.append_nil]; exact Ds.off' hf o) P'.loc.ns (St0.off _ _ inv hf o)

theorem Pre.shift {Z : List Addr} (P : Pre S b sc A env Fs h₀ Xr Y Xs δ μ s) {h' : Heap} {tk : Nat} (x : Sim S.B Fs Z s.heap h') (hZ : ∀ a ∈ Z, a ∈ Y) (hX : ∀ a ∈ Xs.flatten, a ∉ Z) (ap : apart Z env) (h0 : ∀ a ∈ Z, h₀.get? a = none) : Pre S b sc A env Fs h₀ Xr Y Xs δ μ { s with heap := h', toks := tk } :=
  have hZ' : ∀ a ∈ Z, a ∈ Y ∨ s.heap.get? a = none := fun a q => .inl (hZ a q)
  { P with
    stack := let ⟨f, o, L, a, b, c, d, e, g⟩ := P.stack; ⟨f, o, L, a, b, c, d, funFrames_sim x e, g⟩
    stat := x.st P.stat
    hist := P.hist.trans x fun a q => .inr (h0 a q)
    cellE := fun q n h => (P.cellE q n h).sim x ap
    loc := P.loc.sim x ap hZ'
    muts := P.muts.sim x ap hZ' hX
    alloc := fun a h => let ⟨o, e⟩ := P.alloc a h; let ⟨o', e', _⟩ := x.on a o e; ⟨o', e'⟩ }

theorem EvL.enter {A : Around} {cenv : Env} {Fs : List Addr} {h₀ : Heap} {Xr Y : List Addr} {Xs : List (List Addr)} {s : Shared} {R : Result → Shared → Prop} {it : Value} {ys : List Addr} {J : List Addr → Heap → List PyData → Prop} {hb : Heap} {X : List Addr} {D : Addr} {items : Array Value} {acc : List PyData} {Inv : Heap → Prop} (St0 : Stays S Fs ys cenv D Xs Inv) (inv : Inv s.heap)
    (ha : EvA S b sc δ μ target d δ₁) (P : Pre S b sc A cenv Fs h₀ Xr Y Xs δ μ s) (hc : isComp sc = true) (I : Iters S target it ys J) (j : J Y s.heap (d :: ds)) (hy : ∀ y ∈ ys, y ∉ Y ∧ h₀.get? y = none ∧ hb.get? y = none) (hB : S.B.StaysIn hb) (hbC : hb.get? cenv.locals = none) (x : Sim S.B Fs X hb s.heap)
    (hp : PlainL s.heap D items) (Ds : DatasIn Y s.heap items.toList acc) (hD : At' Fs Y Xs cenv D)
    (K : ∀ h' tk, Pre S b sc A cenv Fs h₀ Xr Y Xs δ₁ μ { s with heap := h', toks := tk } → J Y h' ds → Sim S.B Fs X hb h' → PlainL h' D items → DatasIn Y h' items.toList acc → Fielded ys h' → Inv h' →
      wpAny S.M A (eval elt cenv) (fun w s₃ => wpAny S.M A (call (.builtin "list.append") [.ref D, w]) (fun _ s₄ => codeAny S.M A (.compLoop (.ListComp elt [⟨target, iter, [], 0⟩] scope pos) 0 it (.ref D) cenv) R s₄) (notedBy S.M A cenv fun e s' => R (.error e) s') s₃)
          (notedBy S.M A cenv fun e s' => R (.error e) s') { s with heap := h', toks := tk }) :
    codeAny S.M A (.compLoop (.ListComp elt [⟨target, iter, [], 0⟩] scope pos) 0 it (.ref D) cenv) R s := by
  with_unfolding_all
  have hf := I.fld _ _ _ j
  have hDy : D ∉ ys := fun q => (hy D q).1 hD.y
  have key := I.get A Y (notedBy S.M A cenv fun e s' => R (.error e) s') s d ds (fun v s₁' => wpAny S.M A (assign target cenv v) (fun _ s₂ => wpAny S.M A (eval elt cenv) (fun w s₃ =>
          wpAny S.M A (call (.builtin "list.append") [.ref D, w]) (fun _ s₄ => codeAny S.M A (.compLoop (.ListComp elt [⟨target, iter, [], 0⟩] scope pos) 0 it (.ref D) cenv) R s₄) (notedBy S.M A cenv fun e s' => R (.error e) s') s₃)
          (notedBy S.M A cenv fun e s' => R (.error e) s') s₂) (notedBy S.M A cenv fun e s' => R (.error e) s') s₁') P.handled (fun y q => (hy y q).1) j fun v h' tk o j' Dv => ?_
  · refine comp_turn (wpAny_mono key (fun r s₁ h₁ => ?_) fun _ _ z => z)
    obtain ⟨v, rfl, h₁⟩ := h₁
    exact h₁
  · have P' := PreS.off (nr := 0) (Y₀ := []) (tk := tk) ⟨P, (fun h => by rw [hc] at h; cases h), (fun _ q => nomatch q)⟩ hf o fun y q => ⟨(hy y q).1, (hy y q).2.1⟩
    refine ha A cenv Fs h₀ 0 Xr [] Y Xs _ _ _ v P' Dv fun h'' tk' x' P'' => ?_
    have hl : ∀ a ∈ [cenv.locals], a ∈ Y := fun a q => by cases List.mem_singleton.mp q; exact P.locY.1
    have hl' : ∀ a ∈ [cenv.locals], a ∈ Y ∨ h'.get? a = none := fun a q => .inl (hl a q)
    have j'' := I.sim _ _ _ _ _ _ _ (fun y q => (hy y q).1) P'.pre.fsY hl j' x'
    exact K h'' tk' P''.pre j'' ((sim_off x o (fun y q => (hy y q).2.2) hB).trans x' fun a q => by cases List.mem_singleton.mp q; exact .inr hbC)
      (plainL_sim x' (fun q => hD.l (List.mem_singleton.mp q)) (plainL_off o hDy hp)) ((DatasIn.off' hf o Ds).imp fun _ _ q => q.sim x' hl') (I.fld _ _ _ j'') (St0.sim _ _ _ (fun a q => .inl (List.mem_singleton.mp q)) x' (St0.off _ _ inv hf o))

theorem EvL.cons {out : Out (List PyData)} (ha : EvA S b sc δ μ target d δ₁) (he : EvE S b sc δ₁ μ elt (.ok y) μ₁) (r : EvL S b sc δ₁ μ₁ target elt ds out μ') :
    EvL S b sc δ μ target elt (d :: ds) (match out with | .ok rs => .ok (y :: rs) | .exc u t => .exc u t) μ' := by
  with_unfolding_all
  intro A cenv Fs h₀ Xr Y Xs s R it ys J hb X D items acc iter scope pos Inv P hc I j hy hbk hB hbC hX x hp Ds hD hbD hz St0 inv K
  refine EvL.enter St0 inv ha P hc I j hy hB hbC x hp Ds hD fun h' tk P' j' x' hp' Ds' hf' inv' => ?_
  refine he A cenv Fs h₀ Xr Y Xs _ _ _ P' fun w h'' tk' x'' m'' Dw => ?_
  have P'' := P'.next (tk := tk') x'' m''
  have hXY : ∀ a ∈ Xs.flatten, a ∈ Y := P.sepY
  have hXY' : ∀ a ∈ Xs.flatten, a ∈ Y ∨ h'.get? a = none := fun a q => .inl (hXY a q)
  have hpD := plainL_sim x'' hD.x hp'
  have DsD : DatasIn Y h'' items.toList acc := Ds'.imp fun _ _ q => q.sim x'' hXY'
  have hsz : items.size ≤ sizeLine := by rw [← Array.length_toList, Ds.length]; have := hz; simp only [List.length_cons] at this; omega
  refine list_append_plainL (s := { s with heap := h'', toks := tk' }) hpD (fun h₃ hp₃ hs₃ => ?_) hsz
  refine byC fun hnC2 => ?_
  obtain ⟨oD, nD, eD, cD, dD, aD⟩ := hpD
  refine hnC2 ?_
  have hp₃' := hp₃
  refine byC fun hnC3 => ?_
  obtain ⟨oD₃, nD₃, eD₃, cD₃, dD₃, aD₃⟩ := hp₃
  refine hnC3 ?_
  have xD : Sim S.B Fs [D] h'' h₃ := by
    refine .of_but (fun b o hm e => (hs₃.2 b fun q => hm (by rw [q]; exact .head _)).trans e) (fun b hm o e => ?_) (fun b hm o e => ?_) fun b hm => ?_
    · cases List.mem_singleton.mp hm
      exact ⟨oD₃, eD₃, fun _ vs q => by rw [aD₃] at q; cases q⟩
    · cases List.mem_singleton.mp hm
      rw [eD] at e; cases e
      rintro ⟨q, _⟩
      exact absurd (Value.type.inj (cD.symm.trans q)) (by decide)
    · cases List.mem_singleton.mp hm
      exact none_base hB hbD
  have mD : ∀ {a : Addr}, a ∈ [D] → a = D := fun q => List.mem_singleton.mp q
  have hDY : ∀ a ∈ [D], a ∈ Y := fun a q => mD q ▸ hD.y
  have hDY' : ∀ h : Heap, ∀ a ∈ [D], a ∈ Y ∨ h.get? a = none := fun h a q => .inl (hDY a q)
  have P₃ : Pre S b sc A cenv Fs h₀ Xr Y Xs δ₁ μ₁ { s with heap := h₃, toks := tk' } :=
    P''.shift (tk := tk') xD hDY (fun a q z => hD.x (mD z ▸ q)) ⟨fun q => hD.l (mD q).symm, fun z c e q => hD.c z c e (mD q)⟩ fun a q => mD q ▸ hbk D hbD
  have j'' := I.sim _ _ _ _ _ _ _ (fun y q => (hy y q).1) P''.fsY hXY j' x''
  have j₃ := I.sim _ _ _ _ _ _ _ (fun y q => (hy y q).1) P''.fsY hDY j'' xD
  have D₃ : DatasIn Y h₃ (items.push w).toList (acc ++ [y]) := by
    rw [Array.toList_push]
    exact (DsD.imp fun _ _ q => q.sim xD (hDY' _)).append ⟨Dw.sim xD (hDY' _), trivial⟩
  refine r A cenv Fs h₀ Xr Y Xs _ R it ys J hb X D (items.push w) (acc ++ [y]) iter scope pos Inv P₃ hc I j₃ hy hbk hB hbC hX ((x'.trans x'' hX).trans xD fun a q => mD q ▸ .inr hbD) hp₃' D₃ hD hbD (by have := hz; simp only [List.length_append, List.length_cons, List.length_nil] at this ⊢; omega) St0 (St0.sim _ _ _ (fun a q => .inr (.inl (mD q))) xD (St0.sim _ _ _ (fun a q => .inr (.inr q)) x'' inv')) ?_
  cases out with
  | ok rs => exact fun h' tk items x m hp Ds N inv => K h' tk items x m hp (by rw [List.append_assoc] at Ds; exact Ds) N inv
  | exc u t => exact fun e h' tk L h₁ hL x X f a N => K e h' tk L h₁ hL x X f a N

theorem EvL.exc (ha : EvA S b sc δ μ target d δ₁) (he : EvE S b sc δ₁ μ elt (.exc u t) μ₁) : EvL S b sc δ μ target elt (d :: ds) (.exc u t) μ' := by
  with_unfolding_all
  intro A cenv Fs h₀ Xr Y Xs s R it ys J hb X D items acc iter scope pos Inv P hc I j hy hbk hB hbC hX x hp Ds hD hbD hz St0 inv K
  refine EvL.enter St0 inv ha P hc I j hy hB hbC x hp Ds hD fun h' tk P' j' x' hp' Ds' hf' inv' => ?_
  refine he A cenv Fs h₀ Xr Y Xs _ _ _ P' fun e h'' tk' x'' Xe => ?_
  refine byC fun hnC4 => ?_
  obtain ⟨fenv, outer, L, h1, h2, h3, h4, h5, h6⟩ := P'.stack
  refine hnC4 ?_
  rw [h3] at Xe
  refine exc_note (s := { s with heap := h'', toks := tk' }) (Fs := Fs) h1 (funFrames_sim x'' h5) h2 h3 h4 Xe P'.stat (fun a q => x''.fresh q) fun h₃ st X' => ?_
  obtain ⟨m, N⟩ := P'.loc.ns
  have N'' := Ns.sim x'' N P'.sepN.1
  refine K e h₃ tk' L h' h3 (x'.trans (st.sim x'') hX) X' (fun a q => x'.fresh q) (let ⟨o, _, _, e, _⟩ := N; ⟨o, e⟩) ?_
  obtain ⟨zs, hz, q⟩ := st
  exact ⟨m, Ns.sim q N'' fun z => by
    refine byC fun hnC5 => ?_
    obtain ⟨_, o, vs, e, hd⟩ := hz _ z
    obtain ⟨o', es, ep, e', hd', _⟩ := N''
    refine hnC5 ?_
    rw [e] at e'; cases e'; rw [hd] at hd'; cases hd'⟩
theorem EvL.weak {out : Out (List PyData)} (h : EvL S b sc δ₁ μ target elt ds out μ') (w : Sub δ₁ δ) : EvL S b sc δ μ target elt ds out μ' := by
 with_unfolding_all exact
  fun A cenv Fs h₀ Xr Y Xs s R it ys J hb X D items acc iter scope pos Inv P => h A cenv Fs h₀ Xr Y Xs s R it ys J hb X D items acc iter scope pos Inv (P.weak w)
end
end
section
variable [Pm]

structure CompOk (scope : Scope) : Prop where
  kind : scope.kind = .function
  cell : ∀ y ∈ scope.names, y.2 ≠ .cell
  loc : ∀ y ∈ scope.names, y.2 = .local → scope.names.lookup y.1 = some .local
  comp : ∀ sc, isComp (inner scope sc) = true
theorem isComp_map {f : Str × NameKind → Str × NameKind} (hf : ∀ x, (f x).1 = x.1) : ∀ {l : List (Str × NameKind)} {n : Str}, (l.lookup n).isSome = true → ((l.map f).lookup n).isSome = true
  | [], _, h => by simp at h
  | x :: l, n, h => by
    have e : (f x) = (x.1, (f x).2) := by rw [← hf x]
    rw [List.map_cons, e, List.lookup_cons]
    cases z : n == x.1 with
    | true => rfl
    | false =>
      obtain ⟨x1, x2⟩ := x
      rw [List.lookup_cons, z] at h
      exact isComp_map hf h
theorem CompOk.of {scope : Scope} (h : (scope.kind == .function && scope.names.all (fun x => x.2 != .cell && (x.2 != .local || scope.names.lookup x.1 == some .local)) && (scope.names.lookup (".0" : Str)).isSome) = true) : CompOk scope := by
  simp only [Bool.and_eq_true, List.all_eq_true, beq_iff_eq, bne_iff_ne, Bool.or_eq_true] at h
  obtain ⟨⟨h1, h2⟩, h3⟩ := h
  refine ⟨h1, fun y hy => (h2 y hy).1, fun y hy hl => ((h2 y hy).2).elim (fun q => absurd hl q) id, fun sc => ?_⟩
  unfold isComp inner
  exact isComp_map (fun x => by obtain ⟨n, k⟩ := x; dsimp only; split <;> rfl) h3

noncomputable def isFree (scope sc : Scope) (n : Str) : Bool := scope.names.lookup n == some .free && sc.names.lookup n == some .cell
theorem inner_lookup {scope sc : Scope} (hk : sc.kind = .function) {n : Str} (h : isFree scope sc n = true) : (inner scope sc).names.lookup n = some .cell ∧ (n, NameKind.free) ∈ scope.names := by
  unfold isFree at h
  simp only [Bool.and_eq_true, beq_iff_eq] at h
  obtain ⟨h1, h2⟩ := h
  unfold inner
  simp only [hk, beq_self_eq_true, Bool.and_true]
  generalize scope.names = l at h1
  induction l with
  | nil => simp at h1
  | cons x l ih =>
    obtain ⟨m, k⟩ := x
    rw [List.lookup_cons] at h1
    cases z : n == m with
    | true =>
      rw [z] at h1; cases h1
      have e := beq_iff_eq.mp z
      subst e
      refine ⟨?_, .head _⟩
      simp [h2]
    | false =>
      rw [z] at h1
      obtain ⟨a, c⟩ := ih h1
      refine ⟨?_, .tail _ c⟩
      rw [List.map_cons]
      split
      · rw [List.lookup_cons, z]; exact a
      · rw [List.lookup_cons, z]; exact a

/-- the part of the data that a comprehension sees -/
noncomputable def Seen (scope sc : Scope) (δ : List (Str × PyData)) : List (Str × PyData) → Prop
  | [] => True
  | p :: r => δ.lookup p.1 = some p.2 ∧ isFree scope sc p.1 = true ∧ Seen scope sc δ r
theorem Seen.look {scope sc : Scope} {δ : List (Str × PyData)} : ∀ {δc : List (Str × PyData)}, Seen scope sc δ δc → ∀ x d, δc.lookup x = some d → δ.lookup x = some d ∧ isFree scope sc x = true
  | [], _, _, _, e => by simp at e
  | (k, a) :: r, ⟨h, hf, hr⟩, x, d, e => by
    rw [List.lookup_cons] at e
    cases z : x == k with
    | true => rw [z] at e; cases e; rw [beq_iff_eq.mp z]; exact ⟨h, hf⟩
    | false => rw [z] at e; exact Seen.look hr x d e
noncomputable def Closed (sc : Scope) (δ : List (Str × PyData)) (μ : List (Str × Mut)) : List Str → Prop
  | [] => True
  | n :: r => sc.names.lookup n = some .cell ∧ ((δ.lookup n).isSome = true ∨ (μ.lookup n).isSome = true) ∧ Closed sc δ μ r
theorem Closed.mem {sc : Scope} {δ : List (Str × PyData)} {μ : List (Str × Mut)} : ∀ {l : List Str}, Closed sc δ μ l → ∀ n ∈ l, sc.names.lookup n = some .cell ∧ ((δ.lookup n).isSome = true ∨ (μ.lookup n).isSome = true)
  | _ :: _, ⟨a, b, r⟩, n, hm => by
    rcases List.mem_cons.mp hm with rfl | hm
    · exact ⟨a, b⟩
    · exact r.mem n hm

section
variable {S : St} {b : Nat} {sc scope : Scope} {δ δ' δ₁ δ₂ δc : List (Str × PyData)} {μ μ₁ μ₂ μ' μc μd : List (Str × Mut)} {e target iter elt : Expr} {es : List Expr} {pos p np : Pos} {d x y : PyData} {u : Bool} {t : Str} {ds acc rs : List PyData} {n : Str} {ys : List Addr} {it : Value} {J : List Addr → Heap → List PyData → Prop}
  {A : Around} {env cenv : Env} {Fs X : List Addr} {h₀ hb : Heap} {nr : Nat} {Xr Y₀ Y : List Addr} {Xs : List (List Addr)} {s : Shared} {R : Value → Shared → Prop} {E : Value → Shared → Prop} {Rr : Result → Shared → Prop} {D : Addr} {items : Array Value}

theorem muts_holds {h : Heap} : ∀ {μ : List (Str × Mut)} {Xs : List (List Addr)}, Muts Y env h μ Xs → (μ.lookup n).isSome = true → ∃ v, Holds h env n v
  | [], _, _, e => by simp at e
  | (k, m) :: r, _ :: _, ⟨⟨v, a, c⟩, q⟩, e => by
    rw [List.lookup_cons] at e
    cases z : n == k with
    | true => rw [beq_iff_eq.mp z]; exact ⟨v, a⟩
    | false => rw [z] at e; exact muts_holds q e
  | _ :: _, [], q, _ => q.elim
theorem holds_cell {h : Heap} {v : Value} (hk : env.scope.names.lookup n = some .cell) (H : Holds h env n v) : ∃ c, env.cells.lookup n = some c ∧ h.IsCell c (some v) := by
  rcases H with ⟨k, _⟩ | ⟨_, c, e, q⟩
  · unfold Env.kindOf at k; rw [hk] at k; cases k
  · exact ⟨c, e, q⟩

theorem Pre.closed (P : Pre S b sc A env Fs h₀ Xr Y Xs δ μ s) (hc : Closed sc δ μ (freeNames scope)) : ∀ n ∈ freeNames scope, ∃ c, env.cells.lookup n = some c := by
  intro n hn
  obtain ⟨hk, h⟩ := hc.mem n hn
  rw [← P.sco] at hk
  rcases h with h | h
  · obtain ⟨d, e⟩ := Option.isSome_iff_exists.mp h
    refine byC fun hnC1 => ?_
    obtain ⟨v, H, _⟩ := P.loc.dat n d e
    obtain ⟨c, e, _⟩ := holds_cell hk H
    refine hnC1 ?_
    exact ⟨c, e⟩
  · obtain ⟨v, H⟩ := muts_holds P.muts h
    obtain ⟨c, e, _⟩ := holds_cell hk H
    exact ⟨c, e⟩

noncomputable abbrev cEnv (scope : Scope) (C : Addr) (env : Env) : Env := compEnvC scope (goCl env scope.names []) C env

theorem cells_sub {C : Addr} {x : Str} {c : Addr} (e : (cEnv scope C env).cells.lookup x = some c) : env.cells.lookup x = some c := goCl_sub (l := scope.names) (cs := []) (fun n c e => by simp at e) x c e
theorem holds_in {h : Heap} {v : Value} {C : Addr} (hs : env.scope = sc) (hk : sc.kind = .function) (hf : isFree scope sc n = true) (H : Holds h env n v) : Holds h (cEnv scope C env) n v := by
  subst hs
  obtain ⟨i1, i2⟩ := inner_lookup hk hf
  have hk' : env.scope.names.lookup n = some .cell := by unfold isFree at hf; simp only [Bool.and_eq_true, beq_iff_eq] at hf; exact hf.2
  obtain ⟨c, e, q⟩ := holds_cell hk' H
  exact .inr ⟨i1, c, goCl_has e (fun n c e => by simp at e) i2, q⟩
theorem holds_out {h : Heap} {v : Value} {C : Addr} (hs : env.scope = sc) (hk : sc.kind = .function) (hf : isFree scope sc n = true) (H : Holds h (cEnv scope C env) n v) : Holds h env n v := by
  subst hs
  obtain ⟨i1, i2⟩ := inner_lookup hk hf
  have hk' : env.scope.names.lookup n = some .cell := by unfold isFree at hf; simp only [Bool.and_eq_true, beq_iff_eq] at hf; exact hf.2
  obtain ⟨c, e, q⟩ := holds_cell (env := cEnv scope C env) i1 H
  exact .inr ⟨hk', c, cells_sub e, q⟩
theorem muts_in {h : Heap} {C : Addr} (hs : env.scope = sc) (hk : sc.kind = .function) : ∀ {μ : List (Str × Mut)} {Xs : List (List Addr)}, (∀ p ∈ μ, isFree scope sc p.1 = true) → Muts Y env h μ Xs → Muts Y (cEnv scope C env) h μ Xs
  | [], [], _, _ => trivial
  | _ :: _, _ :: _, hf, ⟨⟨v, a, c⟩, r⟩ => ⟨⟨v, holds_in hs hk (hf _ (.head _)) a, c⟩, muts_in hs hk (fun p q => hf p (.tail _ q)) r⟩
  | [], _ :: _, _, q => q.elim
  | _ :: _, [], _, q => q.elim
theorem muts_out {h : Heap} {C : Addr} (hs : env.scope = sc) (hk : sc.kind = .function) : ∀ {μ : List (Str × Mut)} {Xs : List (List Addr)}, (∀ p ∈ μ, isFree scope sc p.1 = true) → Muts Y (cEnv scope C env) h μ Xs → Muts Y env h μ Xs
  | [], [], _, _ => trivial
  | _ :: _, _ :: _, hf, ⟨⟨v, a, c⟩, r⟩ => ⟨⟨v, holds_out hs hk (hf _ (.head _)) a, c⟩, muts_out hs hk (fun p q => hf p (.tail _ q)) r⟩
  | [], _ :: _, _, q => q.elim
  | _ :: _, [], _, q => q.elim

noncomputable def compEnds (M : Model) (A : Around) (E : Value → Shared → Prop) (use : Option (Value → Sem Unit)) (Q : Value → Shared → Prop) (acc : Value) (cenv : Env) (r : Result) (s' : Shared) : Prop :=
  match r, use with
  | .ok _, none => ∃ m, s'.heap.Ns cenv.locals m ∧ ∀ h' m', h'.Ns cenv.locals m' → Heap.SameBut cenv.locals s'.heap h' → Q acc { s' with heap := h' }
  | .ok _, some u => wpAny M A (u acc) (fun _ s'' => ∃ m, s''.heap.Ns cenv.locals m ∧ ∀ h' m', h'.Ns cenv.locals m' → Heap.SameBut cenv.locals s''.heap h' → Q .none { s'' with heap := h' }) E s'
  | .error x, _ => ∃ m, s'.heap.Ns cenv.locals m ∧ ∀ h' m', h'.Ns cenv.locals m' → Heap.SameBut cenv.locals s'.heap h' → wpAny M A (passOn "comprehension.variables-let-go" x cenv : Sem Value) Q E { s' with heap := h' }

/-- how a comprehension runs -/
theorem comp_runs {M : Model} {e : Expr} {first newAcc : Sem Value} {g : Comprehension} {gs : List Comprehension} {cl : List (Str × Addr)} {use : Option (Value → Sem Unit)} {Q : Value → Shared → Prop}
    (hcl : clausesOf e = g :: gs) (hs : ∀ x, foldedSetIterable g.iter env x = pure x) (hclos : closureFor scope env = pure cl) (ok : CompOk scope)
    (h : wpAny M A first (fun x s₁ => wpAny M A (pyIter x) (fun it s₂ => wpAny M A newAcc (fun acc s₃ => wpAny M A (newFunctionEnv scope env.globals cl [] env.qual none .none (some env)) (fun cenv s₄ =>
      codeAny M A (.compStart e 0 it acc { cenv with scope := relabel scope env }) (compEnds M A E use Q acc { cenv with scope := relabel scope env }) s₄) E s₃) E s₂) E s₁) E s) :
    wpAny M A (comprehension e scope env pos newAcc false first use) Q E s := by
  have hlr : ∀ (cenv : Env), ∀ x ∈ (scope.names.filter fun x => (x.2 == .local || x.2 == .cell) && x.1 != (".0" : Str)).reverse, x.2 = .local → Env.kindOf { cenv with scope := relabel scope env } x.1 = some .local :=
    fun cenv x hx hl => lookup_relabel_local (ok.loc x (List.mem_filter.mp (List.mem_reverse.mp hx)).1 hl)
  unfold comprehension
  rw [hclos, hcl]
  refine wpAny_bind (wpAny_mono h (fun x s₁ h₁ => wpAny_bind (wpAny_standAt (wpAny_bind (wpAny_of_eq (hs x) (wpAny_bind (wpAny_holding (wpAny_mono h₁ (fun it s₂ h₂ =>
    wpAny_standIf (wpAny_bind (wpAny_mono h₂ (fun acc s₃ h₃ => wpAny_bind (wpAny_pure (wpAny_bind (wpAny_mono h₃ (fun cenv s₄ h₄ => ?_) fun _ _ z => z)))) fun _ _ z => z)))
      fun _ _ z => z))))))) fun _ _ z => z)
  refine wpAny_holding (wpAny_bind (wpAny_attempt (wpAny_holding (wpAny_run (codeAny_mono h₄ fun r s' hr => ?_)))))
  cases r with
  | error x =>
    have hr : ∃ m, s'.heap.Ns cenv.locals m ∧ ∀ h' m', h'.Ns cenv.locals m' → Heap.SameBut cenv.locals s'.heap h' → wpAny M A (passOn "comprehension.variables-let-go" x { cenv with scope := relabel scope env } : Sem Value) Q E { s' with heap := h' } := by cases use <;> exact hr
    obtain ⟨m, hn, hr⟩ := hr
    exact wpAny_bind (wpAny_holding (wpAny_comp_letGo (cenv := { cenv with scope := relabel scope env }) ok.kind _ s' m (hlr cenv) hn fun h' m' hn' hs' => hr h' m' hn' hs'))
  | ok f =>
    cases use with
    | none =>
      obtain ⟨m, hn, hr⟩ := hr
      exact wpAny_bind (wpAny_holding (wpAny_comp_letGo (cenv := { cenv with scope := relabel scope env }) ok.kind _ s' m (hlr cenv) hn fun h' m' hn' hs' => wpAny_pure (hr h' m' hn' hs')))
    | some u =>
      refine wpAny_bind (wpAny_rule (wpAny_bind (wpAny_holding (wpAny_mono hr (fun _ s'' hr' => ?_) fun _ _ z => z))))
      obtain ⟨m, hn, hr'⟩ := hr'
      refine wpAny_bind (wpAny_comp_letGo (cenv := { cenv with scope := relabel scope env }) ok.kind _ s'' m (fun x hx hl => ?_) hn fun h' m' hn' hs' => wpAny_pure (hr' h' m' hn' hs'))
      rcases List.mem_append.mp hx with q | q
      · exact hlr cenv x (List.mem_of_mem_drop q) hl
      · exact hlr cenv x (List.mem_of_mem_take q) hl
end
end
section
variable [Pm]

section
variable {S : St} {b : Nat} {sc scope : Scope} {δ δ' δ₁ δ₂ δc : List (Str × PyData)} {μ μ₁ μ₂ μ' μc μd : List (Str × Mut)} {e target iter elt : Expr} {es : List Expr} {pos p np : Pos} {d x y : PyData} {u : Bool} {t : Str} {ds acc rs : List PyData} {n : Str} {ys : List Addr} {it : Value} {J : List Addr → Heap → List PyData → Prop}
  {A : Around} {env cenv : Env} {Fs X : List Addr} {h₀ hb : Heap} {nr : Nat} {Xr Y₀ Y : List Addr} {Xs Xc : List (List Addr)} {s : Shared} {R : Value → Shared → Prop} {E : Value → Shared → Prop} {Rr : Result → Shared → Prop} {D C : Addr} {items : Array Value}

/-- which things a comprehension sees: all that there are, or none -/
inductive Kept (scope sc : Scope) (μ : List (Str × Mut)) (Xs : List (List Addr)) (μd μ' : List (Str × Mut)) : List (Str × Mut) → List (List Addr) → Prop where
  | all (h : ∀ p ∈ μ, isFree scope sc p.1 = true) (h' : ∀ p ∈ μd, isFree scope sc p.1 = true) (e : μ' = μd) : Kept scope sc μ Xs μd μ' μ Xs
  | none (e : μ' = μ) : Kept scope sc μ Xs μd μ' [] []

theorem Pre.inner (P : Pre S b sc A env Fs h₀ Xr Y Xs δ μ s) (ok : CompOk scope) (hs : Seen scope sc δ δc) (k : Kept scope sc μ Xs μd μ' μc Xc) {h' : Heap} {tk : Nat} (kk : ∀ b o, s.heap.get? b = some o → h'.get? b = some o)
    (hD : s.heap.get? D = none) (hC : s.heap.get? C = none) (hDC : D ≠ C) (aD : ∃ o, h'.get? D = some o) (N : h'.Ns C fun _ => none) :
    Pre S b (inner scope sc) A (cEnv scope C env) Fs h₀ Xr (D :: C :: Y) Xc δc μc { s with heap := h', toks := tk } := by
  have x : Sim S.B Fs [] s.heap h' := .of_keeps kk
  have gY : ∀ a ∈ D :: C :: Y, a ∈ Y ∨ s.heap.get? a = none := fun a q => by
    rcases List.mem_cons.mp q with rfl | q
    · exact .inr hD
    · rcases List.mem_cons.mp q with rfl | q
      · exact .inr hC
      · exact .inl q
  have hCY : C ∉ Y := fun q => by obtain ⟨o, e⟩ := P.alloc _ q; rw [hC] at e; cases e
  have M : Muts (D :: C :: Y) (cEnv scope C env) h' μc Xc := by
    cases k with
    | all h h2 e => exact muts_in P.sco P.kind h ((P.muts.grow gY).sim x ⟨(fun q => nomatch q), (fun _ _ _ q => nomatch q)⟩ (fun _ q => nomatch q) fun _ _ q => nomatch q)
    | none e => trivial
  have sub : ∀ a ∈ Xc.flatten, a ∈ Xs.flatten := by cases k with
    | all => exact fun _ q => q
    | none => exact fun _ q => nomatch q
  have nd : Xc.flatten.Nodup := by cases k with
    | all => exact P.nodup
    | none => exact List.nodup_nil
  exact {
    depth := P.depth, units := P.units, handled := P.handled
    sco := by show relabel scope env = _; rw [inner_eq, P.sco]
    kind := ok.kind
    globals := P.globals
    builtins := P.builtins
    stack := let ⟨f, o, L, a, b, c, d, e, g⟩ := P.stack; ⟨f, o, L, a, b, c, d, funFrames_sim x e, g⟩
    base := P.base
    stat := x.st P.stat
    hist := P.hist.trans x fun _ q => nomatch q
    loc := ⟨⟨_, N⟩, fun z dz e => by
      refine byC fun hnC1 => ?_
      obtain ⟨e', hf⟩ := hs.look z dz e
      obtain ⟨v, H, Dv⟩ := P.loc.dat z dz e'
      refine hnC1 ?_
      exact ⟨v, holds_in P.sco P.kind hf (H.sim x ⟨(fun q => nomatch q), (fun _ _ _ q => nomatch q)⟩), (Dv.grow gY).sim x fun _ q => nomatch q⟩⟩
    locY := ⟨.tail _ (.head _), P.hist.fresh hC⟩
    cellY := fun z c e => ⟨.tail _ (.tail _ (P.cellY z c (cells_sub e)).1), (P.cellY z c (cells_sub e)).2⟩
    cellI := fun n m c e e' => P.cellI n m c (cells_sub e) (cells_sub e')
    cellE := fun q => by rw [ok.comp] at q; cases q
    muts := M
    nodup := nd
    sepY := fun a q => .tail _ (.tail _ (P.sepY a (sub a q)))
    sepF := fun a q => P.sepF a (sub a q)
    yB := fun a q => by
      rcases List.mem_cons.mp q with rfl | q
      · exact none_base P.stat hD
      · rcases List.mem_cons.mp q with rfl | q
        · exact none_base P.stat hC
        · exact P.yB a q
    fsY := fun a q => .tail _ (.tail _ (P.fsY a q))
    sepN := ⟨fun q => hCY (P.sepY _ (sub _ q)), fun z c e q => P.sepN.2 z c (cells_sub e) (sub _ q)⟩
    sepH := fun a q => P.sepH a (sub a q)
    alloc := fun a q => by
      rcases List.mem_cons.mp q with rfl | q
      · exact aD
      · rcases List.mem_cons.mp q with rfl | q
        · obtain ⟨o, _, _, e, _⟩ := N; exact ⟨o, e⟩
        · let ⟨o, e⟩ := P.alloc a q; exact ⟨o, kk _ _ e⟩ }

theorem comp_core {out : Out (List PyData)} (hi : EvI S b sc δ μ target iter (.ok ds) μ₁) (ok : CompOk scope) (hcl : Closed sc δ μ (freeNames scope)) (hs : Seen scope sc δ δc) (hl : EvL S b (inner scope sc) δc μc target elt ds out μd) (hz : ds.length ≤ sizeLine)
    {use : Option (Value → Sem Unit)} {p₁ : Pos} (P : Pre S b sc A env Fs h₀ Xr Y Xs δ μ s) (k : Kept scope sc μ₁ Xs μd μ' μc Xc)
    (K : match out with
      | .ok rs => ∀ D C h' tk, s.heap.get? D = none → s.heap.get? C = none → C ∉ Y → Sim S.B Fs Xs.flatten s.heap h' → Muts (C :: Y) env h' μ' Xs → DataIn (C :: Y) h' (.ref D) (.list rs) → (∃ m, h'.Ns C m) → compEnds S.M A E use R (.ref D) (cEnv scope C env) (.ok .next) { s with heap := h', toks := tk }
      | .exc u t => ∀ e h' tk, Sim S.B Fs Xs.flatten s.heap h' → ExcSt S env.frame s.heap h' e u t → E (.ref e) { s with heap := h', toks := tk })
    (hst : ∀ env x, foldedSetIterable iter env x = pure x := by intro _ _; rfl) :
    wpAny S.M A (comprehension (.ListComp elt [⟨target, iter, [], 0⟩] scope pos) scope env p₁ (newList []) false (eval iter env) use) R E s := by
  with_unfolding_all
  refine comp_runs (g := ⟨target, iter, [], 0⟩) (gs := []) (cl := goCl env scope.names []) rfl (hst env) (closure_go (P.closed hcl)) ok ?_
  refine hi A env Fs h₀ Xr Y Xs s _ E P fun it ys J h' tk x m hn I j => ?_
  have P₁ := P.next (tk := tk) x m
  refine wpAny_newObj_type (wpAny_newFunctionEnv ok.cell (by intro y hy; simp at hy) (fun h₁ N hsb => ?_) ok.kind)
  generalize hH : h'.push { cls := .type "list", dict := none, data := .seq ([] : List Value).toArray } = H at N hsb ⊢
  have hC : H.objs.size = h'.objs.size + 1 := by rw [← hH, Heap.size_push]
  have fresh : ∀ a, h'.objs.size ≤ a → h'.get? a = none := fun a ha => Heap.get?_none_of_le ha
  have hDn := fresh h'.objs.size (Nat.le_refl _)
  have hCn := fresh H.objs.size (by rw [hC]; exact Nat.le_succ _)
  have hDC : h'.objs.size ≠ H.objs.size := by rw [hC]; exact Nat.ne_of_lt (Nat.lt_succ_self _)
  have kk : ∀ b o, h'.get? b = some o → h₁.get? b = some o := fun b o e => by
    have hlt := Heap.lt_size e
    exact hsb.extBut b o (Nat.ne_of_lt (by show b < H.objs.size; rw [hC]; exact Nat.lt_succ_of_lt hlt)) (Heap.get?_push_of_some _ (hH ▸ Heap.get?_push_of_some _ e))
  have hpD : PlainL h₁ h'.objs.size #[] := ⟨_, _, hsb.extBut _ _ hDC (Heap.get?_push_of_some _ (hH ▸ Heap.get?_push_size _ rfl)), rfl, rfl, rfl⟩
  have Pi : Pre S b (inner scope sc) A (cEnv scope H.objs.size env) Fs h₀ Xr (h'.objs.size :: H.objs.size :: Y) Xc δc μc { s with heap := h₁, toks := tk + ([] : List (Str × Value)).length } :=
    P₁.inner (tk := tk + ([] : List (Str × Value)).length) ok hs k kk hDn hCn hDC (let ⟨o, _, e, _⟩ := hpD; ⟨o, e⟩) N
  have gY : ∀ a ∈ h'.objs.size :: H.objs.size :: Y, a ∈ Y ∨ h'.get? a = none := fun a q => by
    rcases List.mem_cons.mp q with rfl | q
    · exact .inr hDn
    · rcases List.mem_cons.mp q with rfl | q
      · exact .inr hCn
      · exact .inl q
  have alloc : ∀ a ∈ Y, ∃ o, h'.get? a = some o := P₁.alloc
  have hDY : h'.objs.size ∉ Y := fun q => by obtain ⟨o, e⟩ := alloc _ q; rw [hDn] at e; cases e
  have hCY : H.objs.size ∉ Y := fun q => by obtain ⟨o, e⟩ := alloc _ q; rw [hCn] at e; cases e
  have hf : Fielded ys h' := I.fld _ _ _ j
  have hyn : ∀ y ∈ ys, ∃ o, h'.get? y = some o := fun y q => let ⟨o, _, e, _⟩ := hf y q; ⟨o, e⟩
  have hyY : ∀ y ∈ ys, y ∉ h'.objs.size :: H.objs.size :: Y := fun y q z => by
    rcases gY y z with w | w
    · obtain ⟨o, e⟩ := P.alloc y w; rw [hn y q] at e; cases e
    · obtain ⟨o, e⟩ := hyn y q; rw [w] at e; cases e
  have j₁ : J (h'.objs.size :: H.objs.size :: Y) h₁ ds := I.sim S.B Fs [] _ _ _ _ hyY (fun a q => .tail _ (.tail _ (P₁.fsY a q))) (fun _ q => nomatch q) (I.grow _ _ _ _ gY j) (.of_keeps kk)
  have xx : Sim S.B Fs Xs.flatten s.heap h₁ := x.trans (X' := []) (.of_keeps kk) fun _ q => nomatch q
  have sub : ∀ a ∈ Xc.flatten, a ∈ Xs.flatten := by cases k with
    | all => exact fun _ q => q
    | none => exact fun _ q => nomatch q
  have M₁ : Muts (h'.objs.size :: H.objs.size :: Y) env h₁ μ₁ Xs := (m.grow gY).sim (B := S.B) (Fs := Fs) (X := []) (.of_keeps kk) ⟨(fun q => nomatch q), (fun _ _ _ q => nomatch q)⟩ (fun _ q => nomatch q) fun _ _ q => nomatch q
  have hDX : h'.objs.size ∉ Xs.flatten := fun q => hDY (P.sepY _ q)
  have hCX : H.objs.size ∉ Xs.flatten := fun q => hCY (P.sepY _ q)
  -- what stays: the things that the comprehension does not see
  have st : Stays S Fs ys (cEnv scope H.objs.size env) h'.objs.size Xc (fun h => Xc = [] → Muts (h'.objs.size :: H.objs.size :: Y) env h μ₁ Xs) := by
    refine ⟨fun h h₂ M hf o e => (M e).off hf o (fun q => hyY _ q (.tail _ (.tail _ P.locY.1))) (fun z c e q => hyY _ q (.tail _ (.tail _ (P.cellY z c e).1))) fun a q z => hyY a z (.tail _ (.tail _ (P.sepY a q))), fun h h₂ Z hZ y M e => ?_⟩
    have hZ : ∀ a ∈ Z, a = H.objs.size ∨ a = h'.objs.size := fun a q => by
      rcases hZ a q with w | w | w
      · exact .inl w
      · exact .inr w
      · rw [e] at w; cases w
    refine (M e).sim y ⟨fun q => ?_, fun z c e q => ?_⟩ (fun a q => .inl ?_) fun a q z => ?_
    · rcases hZ _ q with w | w
      · exact hCY (w ▸ P.locY.1)
      · exact hDY (w ▸ P.locY.1)
    · rcases hZ _ q with w | w
      · exact hCY (w ▸ (P.cellY z c e).1)
      · exact hDY (w ▸ (P.cellY z c e).1)
    · rcases hZ _ q with rfl | rfl
      · exact .tail _ (.head _)
      · exact .head _
    · rcases hZ _ z with w | w
      · exact hCX (w ▸ q)
      · exact hDX (w ▸ q)
  have hkb : ∀ a, s.heap.get? a = none → h₀.get? a = none := fun a q => P.hist.fresh q
  have hDs : s.heap.get? h'.objs.size = none := x.fresh hDn
  have hCs : s.heap.get? H.objs.size = none := x.fresh hCn
  have loop : ∀ (s₃ : Shared), s₃ = { s with heap := h₁, toks := tk + ([] : List (Str × Value)).length } → codeAny S.M A (.compLoop (.ListComp elt [⟨target, iter, [], 0⟩] scope pos) 0 it (.ref h'.objs.size) (cEnv scope H.objs.size env)) (compEnds S.M A E use R (.ref h'.objs.size) (cEnv scope H.objs.size env)) s₃ := by
    rintro s₃ rfl
    refine hl A _ Fs h₀ Xr _ Xc _ _ it ys J s.heap Xs.flatten h'.objs.size #[] [] iter scope pos _ Pi (ok.comp sc) I j₁ (fun y q => ⟨hyY y q, hkb _ (hn y q), hn y q⟩) hkb P.stat hCs (fun a q => .inl (sub a q)) xx hpD trivial
      ⟨.head _, fun q => hDX (sub _ q), hDC, fun z c e q => hDY (q ▸ (P.cellY z c (cells_sub e)).1)⟩ hDs (by simpa using hz) st (fun _ => M₁) ?_
    cases out with
    | ok rs =>
      intro h₄ tk₄ items x₄ m₄ hp₄ D₄ N₄ inv
      have lessY : ∀ a ∈ H.objs.size :: Y, a ∈ h'.objs.size :: H.objs.size :: Y := fun a q => .tail _ q
      refine K h'.objs.size H.objs.size h₄ tk₄ hDs hCs hCY x₄ ?_ ?_ N₄
      · cases k with
        | all hk hk' e => subst e; exact (muts_out P.sco P.kind hk' m₄).grow fun a q => .inl (lessY a q)
        | none e => subst e; exact (inv rfl).grow fun a q => .inl (lessY a q)
      · obtain ⟨o, n, e1, e2, e3, e4⟩ := hp₄
        exact .list ⟨o, e1, e2, n, e4⟩ (D₄.imp fun _ _ q => q.less lessY) (fun q => (List.mem_cons.mp q).elim hDC hDY)
    | exc u t =>
      intro e h₄ tk₄ L hh hL x₄ X₄ fr₄ al₄ N₄
      obtain ⟨m₄, N₄⟩ := N₄
      refine ⟨m₄, N₄, fun h₅ m₅ N₅ hs₅ => ?_⟩
      have xC : Sim S.B Fs [H.objs.size] h₄ h₅ := sim_local N₄ N₅ hs₅ (none_base P.stat hCs)
      have X₅ : ExcW S s.heap h₅ e u t (some (rawInt L)) := by
        refine byC fun hnC2 => ?_
        obtain ⟨o, vs, dx, od, ents, n, g1, g2, g3, g4, g5, g6, g7, g8, g9, g10, g11, T, oT, ts, a1, a2, a3, a4, a5, a6⟩ := X₄
        obtain ⟨oC, esC, epC, eC, dC, _⟩ := N₄
        refine hnC2 ?_
        have ne : ∀ {a : Addr} {oa : Obj}, h₄.get? a = some oa → (∀ es n, oa.data ≠ .dict es n) → h₅.get? a = some oa := fun {a oa} ea hna => (hs₅.2 a fun q => by subst q; rw [eC] at ea; cases ea; exact hna _ _ dC).trans ea
        have hdx : h₅.get? dx = some od := (hs₅.2 dx fun q => by
          subst q
          obtain ⟨oc, ec⟩ := al₄
          rw [g7] at ec; cases ec).trans g8
        exact ⟨o, vs, dx, od, ents, n, ne g1 (fun _ _ q => by rw [g3] at q; cases q), g2, g3, g4, g5, fr₄ _ g6, fr₄ _ g7, hdx, g9, g10, ents_rt g11, T, oT, ts, a1, fr₄ _ a2, a3, ne a4 (fun _ _ q => by rw [a5] at q; cases q), a5, a6⟩
      have X₆ := X₅
      refine byC fun hnC3 => ?_
      obtain ⟨o, vs, dx, od, ents, n, g1, g2, g3, g4, g5, g6, g7, g8, g9, g10, g11, T, oT, ts, a1, a2, a3, a4, a5, a6⟩ := X₅
      refine hnC3 ?_
      unfold PySem.passOn
      refine wpAny_bind (wpAny_field (s := { s with heap := h₅, toks := tk₄ }) g1 g3 a1 ?_)
      rw [if_neg (by simp)]
      refine wpAny_bind (exc_flight (s := { s with heap := h₅, toks := tk₄ }) (Fs := Fs) env.frame X₆ P.stat fun h₆ st X₇ => ?_)
      refine wpAny_throw (K e h₆ tk₄ (st.sim ((x₄.trans xC fun a q => by cases List.mem_singleton.mp q; exact .inr hCs))) (.inr (.inr ⟨L, hL, ?_⟩)))
      have hL : env.frame = some L := hL
      rw [hL] at X₇; exact X₇
  exact codeAny_compStart_list (loop _ rfl) (I.self A _ _ _ _ _ j₁ (loop _ rfl))

theorem Muts.less {Y' : List Addr} {h : Heap} (hy : ∀ a ∈ Y', a ∈ Y) (M : Muts Y env h μ Xs) : Muts Y' env h μ Xs := M.grow fun a q => .inl (hy a q)
theorem EvE.compG (hi : EvI S b sc δ μ target iter (.ok ds) μ₁) (ok : CompOk scope) (hcl : Closed sc δ μ (freeNames scope)) (hs : Seen scope sc δ δc) (hl : EvL S b (inner scope sc) δc μc target elt ds (.ok rs) μd) (hz : ds.length ≤ sizeLine)
    (k : ∀ Xs, ∃ Xc, Kept scope sc μ₁ Xs μd μ' μc Xc) (hst : ∀ env x, foldedSetIterable iter env x = pure x := by intro _ _; rfl) : EvE S b sc δ μ (.ListComp elt [⟨target, iter, [], 0⟩] scope pos) (.ok (.list rs)) μ' := by
  with_unfolding_all
  intro A env Fs h₀ Xr Y Xs s R E P K
  obtain ⟨Xc, k⟩ := k Xs
  rw [eval_ListComp]
  refine comp_core (use := none) hi ok hcl hs hl hz P k (fun D C h' tk hD hC hCY x m Dv N => ?_) hst
  obtain ⟨m₀, N⟩ := N
  refine ⟨m₀, N, fun h'' m₂ N₂ hs₂ => ?_⟩
  have xC : Sim S.B Fs [C] h' h'' := sim_local N N₂ hs₂ (none_base P.stat hC)
  have mC : ∀ {a : Addr}, a ∈ [C] → a = C := fun q => List.mem_singleton.mp q
  have hC' : ∀ a ∈ [C], a ∈ C :: Y ∨ h'.get? a = none := fun a q => .inl (mC q ▸ .head _)
  refine K _ h'' tk (x.trans xC fun a q => mC q ▸ .inr hC) (Muts.less (fun a q => .tail _ q) (m.sim xC ⟨fun q => hCY (mC q ▸ P.locY.1), fun z c e q => hCY (mC q ▸ (P.cellY z c e).1)⟩ hC' fun a q z => hCY (mC z ▸ P.sepY a q))) ((Dv.sim xC hC').less fun a q => .tail _ q)
theorem EvE.compX (hi : EvI S b sc δ μ target iter (.ok ds) μ₁) (ok : CompOk scope) (hcl : Closed sc δ μ (freeNames scope)) (hs : Seen scope sc δ δc) (hl : EvL S b (inner scope sc) δc μc target elt ds (.exc u t) μd) (hz : ds.length ≤ sizeLine)
    (k : ∀ Xs, ∃ Xc, Kept scope sc μ₁ Xs μd μ₂ μc Xc) (hst : ∀ env x, foldedSetIterable iter env x = pure x := by intro _ _; rfl) : EvE S b sc δ μ (.ListComp elt [⟨target, iter, [], 0⟩] scope pos) (.exc u t) μ' := by
  with_unfolding_all
  intro A env Fs h₀ Xr Y Xs s R E P K
  obtain ⟨Xc, k⟩ := k Xs
  rw [eval_ListComp]
  exact comp_core (use := none) hi ok hcl hs hl hz P k K hst
theorem kept_none (h : ∀ Xs : List (List Addr), True := fun _ => trivial) : ∀ Xs, ∃ Xc, Kept scope sc μ Xs [] μ [] Xc := fun Xs => ⟨[], .none rfl⟩
theorem kept_all (h : ∀ p ∈ μ, isFree scope sc p.1 = true) (h' : ∀ p ∈ μd, isFree scope sc p.1 = true) : ∀ Xs, ∃ Xc, Kept scope sc μ Xs μd μd μ Xc := fun Xs => ⟨Xs, .all h h' rfl⟩

/-- x = [.. for ..], in one with its store -/
theorem EvS.setComp {py : Pos} (hi : EvI S b sc δ μ target iter (.ok ds) μ₁) (ok : CompOk scope) (hcl : Closed sc δ μ (freeNames scope)) (hs : Seen scope sc δ δc) (hl : EvL S b (inner scope sc) δc μc target elt ds (.ok rs) μd) (hz : ds.length ≤ sizeLine)
    (k : ∀ Xs, ∃ Xc, Kept scope sc μ₁ Xs μd μ' μc Xc) (hk : sc.names.lookup n = some .local) (hμ : μ'.lookup n = none) (hsw : ∀ env, env.scope = sc → swapsWith (.ListComp elt [⟨target, iter, [], 0⟩] scope p) (some (.Name n py)) pos.line env = pure true)
    (hst : ∀ env x, foldedSetIterable iter env x = pure x := by intro _ _; rfl) : EvS S b sc δ μ (.Assign [.Name n py] (.ListComp elt [⟨target, iter, [], 0⟩] scope p) pos) (.next ((n, .list rs) :: δ) μ') := by
  with_unfolding_all
  intro A env Fs h₀ nr Xr Y₀ Y Xs s R E P K
  obtain ⟨Xc, k⟩ := k Xs
  rw [exec_Assign_Name_used _ _ _ _ (hsw env P.pre.sco)]
  refine wpAny_bind (wpAny_standAt (wpAny_bind ?_))
  show wpAny _ A (do let _ ← comprehension (.ListComp elt [⟨target, iter, [], 0⟩] scope p) scope env _ (newList []) false (eval iter env) (some (assign (.Name n py) env))) _ _ s
  refine wpAny_bind (wpAny_mono (comp_core (use := some (assign (.Name n py) env)) (R := fun _ s' => R .next s') hi ok hcl hs hl hz P.pre k (fun D C h' tk hD hC hCY x m Dv N => ?_) hst) (fun _ s' hq => wpAny_pure (wpAny_pure hq)) fun _ _ q => q)
  obtain ⟨m₀, N⟩ := N
  have gY : ∀ a ∈ C :: Y, a ∈ Y ∨ s.heap.get? a = none := fun a q => (List.mem_cons.mp q).elim (fun e => .inr (e ▸ hC)) .inl
  have mY : ∀ a ∈ Xs.flatten, a ∈ C :: Y ∨ s.heap.get? a = none := fun a q => .inl (.tail _ (P.pre.sepY a q))
  have P₁ : Pre S b sc A env Fs h₀ Xr (C :: Y) Xs δ μ' { s with heap := h', toks := tk } :=
    have Q := P.pre.next (tk := tk) x (Muts.less (fun a q => .tail _ q) m)
    { Q with
      loc := ⟨Q.loc.ns, fun z dz e => let ⟨v, H, Dz⟩ := P.pre.loc.dat z dz e; ⟨v, H.sim x P.pre.sepN, (Dz.grow gY).sim x mY⟩⟩
      locY := ⟨.tail _ P.pre.locY.1, P.pre.locY.2⟩
      cellY := fun z c e => ⟨.tail _ (P.pre.cellY z c e).1, (P.pre.cellY z c e).2⟩
      muts := m
      sepY := fun a q => .tail _ (P.pre.sepY a q)
      yB := fun a q => (List.mem_cons.mp q).elim (fun e => e ▸ none_base P.pre.stat hC) (P.pre.yB a)
      fsY := fun a q => .tail _ (P.pre.fsY a q)
      alloc := fun a q => (List.mem_cons.mp q).elim (fun e => e ▸ (let ⟨o, _, _, w, _⟩ := N; ⟨o, w⟩)) (Q.alloc a) }
  show wpAny S.M A (assign (.Name n py) env (.ref D)) _ E _
  refine assign_Name (P₁.bind hk (keys_ne hμ) Dv fun h₂ tk₂ x₂ P₂ => ?_)
  have mC : ∀ {a : Addr}, a ∈ [C] → a = C := fun q => List.mem_singleton.mp q
  have N₂ := Ns.sim x₂ N fun q => hCY (List.mem_singleton.mp q ▸ P.pre.locY.1)
  refine ⟨m₀, N₂, fun h₃ m₃ N₃ hs₃ => ?_⟩
  have xC : Sim S.B Fs [C] h₂ h₃ := sim_local N₂ N₃ hs₃ (none_base P.pre.stat hC)
  have P₃ := P₂.shift (tk := tk₂) xC (fun a q => mC q ▸ .head _) (fun a q z => hCY (mC z ▸ P.pre.sepY a q)) ⟨fun q => hCY (mC q ▸ P.pre.locY.1), fun z c e q => hCY (mC q ▸ (P.pre.cellY z c e).1)⟩ fun a q => mC q ▸ P.pre.hist.fresh hC
  refine K h₃ tk₂ (C :: Y) Xs (((x.mono P.pre.sepY).trans x₂ fun a q => ?_).trans xC fun a q => mC q ▸ .inr hC) gY ⟨P₃, P.xr, fun a q => ⟨.tail _ (P.y0 a q).1, (P.y0 a q).2⟩⟩
  cases List.mem_singleton.mp q
  exact .inl P.pre.locY.1
end
end
section
variable [Pm]

noncomputable def putD (n : Str) (d : PyData) : List (Str × PyData) → List (Str × PyData)
  | [] => [(n, d)]
  | p :: r => if p.1 == n then (p.1, d) :: r else p :: putD n d r

theorem isStr_key {k : Value} {p n : Str} (h : ∃ tk, k = .str p tk) : k.isStr n = (p == n) := by obtain ⟨tk, rfl⟩ := h; rfl
theorem ents_put {Y : List Addr} {h : Heap} {n : Str} {hs : Int} {tk : Tok} {v : Value} {d : PyData} (D : DataIn Y h v d) : ∀ {es : List DictEntry} {ps : List (Str × PyData)}, EntsAre Y h es ps → EntsAre Y h (putL n hs (.str n tk) v es) (putD n d ps)
  | [], [], _ => ⟨⟨tk, rfl⟩, D, trivial⟩
  | e :: r, p :: q, ⟨k, a, x⟩ => by
    unfold putL putD
    rw [isStr_key k]
    cases p.1 == n with
    | true => exact ⟨k, D, x⟩
    | false => exact ⟨k, a, ents_put D x⟩
  | [], _ :: _, x => x.elim
  | _ :: _, [], x => x.elim
theorem ents_len {Y : List Addr} {h : Heap} : ∀ {es : List DictEntry} {ps : List (Str × PyData)}, EntsAre Y h es ps → es.length = ps.length
  | [], [], _ => rfl
  | _ :: _, _ :: _, ⟨_, _, x⟩ => congrArg (· + 1) (ents_len x)
  | [], _ :: _, x => x.elim
  | _ :: _, [], x => x.elim
theorem ents_find {Y : List Addr} {h : Heap} {n : Str} {d : PyData} : ∀ {es : List DictEntry} {ps : List (Str × PyData)}, EntsAre Y h es ps → ps.lookup n = some d → ∃ e, es.find? (·.key.isStr n) = some e ∧ DataIn Y h e.val d
  | [], [], _, e => by simp at e
  | e :: r, (k, x) :: q, ⟨hk, a, rest⟩, l => by
    rw [List.lookup_cons] at l
    rw [List.find?_cons, isStr_key hk]
    cases z : n == k with
    | true => rw [z] at l; cases l; rw [beq_iff_eq.mp z, beq_self_eq_true]; exact ⟨e, rfl, a⟩
    | false =>
      rw [z] at l
      have : (k == n) = false := by rw [beq_eq_false_iff_ne] at z ⊢; exact fun q => z q.symm
      simp only [this]
      exact ents_find rest l
  | [], _ :: _, x, _ => x.elim
  | _ :: _, [], x, _ => x.elim
theorem ents_miss {Y : List Addr} {h : Heap} {n : Str} : ∀ {es : List DictEntry} {ps : List (Str × PyData)}, EntsAre Y h es ps → ps.lookup n = none → es.find? (·.key.isStr n) = none
  | [], [], _, _ => rfl
  | e :: r, (k, x) :: q, ⟨hk, a, rest⟩, l => by
    rw [List.lookup_cons] at l
    rw [List.find?_cons, isStr_key hk]
    cases z : n == k with
    | true => rw [z] at l; cases l
    | false =>
      rw [z] at l
      have : (k == n) = false := by rw [beq_eq_false_iff_ne] at z ⊢; exact fun q => z q.symm
      simp only [this]
      exact ents_miss rest l
  | [], _ :: _, x, _ => x.elim
  | _ :: _, [], x, _ => x.elim
theorem ents_refs {Y : List Addr} {h : Heap} : ∀ {es : List DictEntry} {ps : List (Str × PyData)}, EntsAre Y h es ps → es.any (·.refKey) = false
  | [], [], _ => rfl
  | e :: r, _ :: _, ⟨⟨tk, k⟩, _, rest⟩ => by
    have : e.refKey = false := by unfold DictEntry.refKey; rw [k]
    rw [List.any_cons, this, ents_refs rest]; rfl
  | [], _ :: _, x => x.elim
  | _ :: _, [], x => x.elim
theorem putL_len {n : Str} {hs : Int} {key v : Value} : ∀ {es : List DictEntry}, (putL n hs key v es).length ≤ es.length + 1
  | [] => Nat.le_refl _
  | e :: r => by
    unfold putL
    split
    · exact Nat.le_succ _
    · exact Nat.succ_le_succ (putL_len (es := r))

/-- a name is laid in a dict of names -/
theorem dict_store {prog : Program} {w : World} {A : Around} {E : Value → Shared → Prop} {s : Shared} {dx : Addr} {dd : Option Addr} {ents : Array DictEntry} {n : Nat} {sl : Array (Option Value)} {name : Str} {v : Value} {tk : Tok} {Y : List Addr} {ps : List (Str × PyData)} {Q : Fin → Shared → Prop}
    (ho : s.heap.get? dx = some ⟨.type "dict", dd, .dict ents n, sl⟩) (he : EntsAre Y s.heap ents.toList ps) (hz : ps.length ≤ 1000)
    (k : ∀ h' hs n', h'.get? dx = some ⟨.type "dict", dd, .dict (putL name hs (.str name s.toks) v ents.toList).toArray n', sl⟩ → h'.objs.size = s.heap.objs.size → (∀ b, b ≠ dx → h'.get? b = s.heap.get? b) → Q (.done (.ret .none)) { s with heap := h', toks := s.toks + 1 }) :
    wpAny (model prog w) A (Builtin.ObjectAttr.storeInDict dx (.str name tk) name v) Q E s := by
  unfold Builtin.ObjectAttr.storeInDict Builtin.ObjectAttr.newKeyGuard
  refine wpAny_bind (wpAny_pure (wpAny_bind ?_))
  unfold nsSet
  refine wpAny_bind (wpAny_bind (wpAny_askSetting (wpAny_pure (wpAny_bind (wpAny_mkText (wpAny_bind (wpAny_loadPart ho ?_)))))))
  dsimp only
  have c : (!ents.any (·.key.isStr name) && ents.any (·.refKey)) = false := by
    rw [← Array.any_toList, ← Array.any_toList, ents_refs he, Bool.and_false]
  rw [aRefKeyMayBeTheName_at, c]
  refine wpAny_updatePart ho ?_
  have e1 : ∀ hs, Obj.putName name hs (.str name s.toks) v ⟨.type "dict", dd, .dict ents n, sl⟩ = ⟨.type "dict", dd, .dict (putL name hs (.str name s.toks) v ents.toList).toArray (putN name ents.toList n), sl⟩ := by
    intro hs
    have := putName_dict name hs (.str name s.toks) v ents.toList n
    rw [Obj.putName_eq] at this ⊢
    unfold Obj.putNameByArray dictOf at this
    unfold Obj.putNameByArray
    have ea : ents = ents.toList.toArray := rfl
    dsimp only at this ⊢
    cases q : ents.findIdx? (fun x => x.key.isStr name) with
    | none => rw [← ea, q] at this; simp only [Obj.mk.injEq] at this ⊢; exact ⟨trivial, trivial, this.2.2.1, trivial⟩
    | some i => rw [← ea, q] at this; simp only [Obj.mk.injEq] at this ⊢; exact ⟨trivial, trivial, this.2.2.1, trivial⟩
  have D' := Heap.get?_update_self (h := s.heap) (a := dx) (fun o => Obj.putName name (PyData.keyHash w.params name) (.str name s.toks) v o) ho (by rw [e1]; rfl)
  rw [e1] at D'
  refine wpAny_bind (wpAny_lookBehind (s := { s with heap := _, toks := s.toks + 1 }) D' (pastItsLine_dict (by rw [List.size_toArray, sizeLine_eq]; have := @putL_len _ name (PyData.keyHash w.params name) (.str name s.toks) v ents.toList; rw [ents_len he] at this; omega)) ?_)
  exact wpAny_pure (k _ _ _ D' (Heap.size_update ..) fun b hb => Heap.get?_update_other _ _ (Ne.symm hb))

structure InstK (K : Frag) (C : Addr) : Prop where
  cd : ∃ cd, clsIn K C = some cd ∧ cd.hasDict = true
  ga : findIn K (.ref C) "__getattribute__" = some (some (.builtin "object.__getattribute__"))
  gt : findIn K (.ref C) "__getattr__" = some none
  sa : findIn K (.ref C) "__setattr__" = some (some (.builtin "object.__setattr__"))
  over : plainOver K C = true

section
variable {S : St} {b : Nat} {sc scope : Scope} {δ δ' δ₁ δ₂ δc : List (Str × PyData)} {μ μ₁ μ₂ μ' μa μb : List (Str × Mut)} {e value : Expr} {es : List Expr} {pos p np ap : Pos} {d x y : PyData} {u : Bool} {t : Str} {ds : List PyData} {n attr : Str} {ps : List (Str × PyData)} {C : Addr} {K : Frag} {m m' m₁ : Mut} {out : Out PyData}
  {A : Around} {env : Env} {Fs X : List Addr} {h₀ hb : Heap} {nr : Nat} {Xr Y₀ Y : List Addr} {Xs : List (List Addr)} {s : Shared} {R : Value → Shared → Prop} {E : Value → Shared → Prop}

theorem data_handed {h : Heap} {v : Value} (D : DataIn Y h v d) : handedIn v = true := by
  obtain ⟨as, r, _⟩ := D
  cases r <;> rfl

theorem inst_at {h : Heap} {v : Value} {xs : List Addr} (M : HasMut Y h v xs (.inst C ps)) : ∃ a dx o od ents n, v = .ref a ∧ xs = [dx, a] ∧ InstAt h a o C (some od) ∧ o.dict = some dx ∧ h.get? dx = some od ∧ od.cls = .type "dict" ∧ od.data = .dict ents n ∧ EntsAre Y h ents.toList ps := by
  refine byC fun hnC1 => ?_
  obtain ⟨a, dx, o, od, ents, n, hv, hxs, ho, hc, hd, hdat, hod, hoc, hodd, hode, hE⟩ := M
  refine hnC1 ?_
  refine ⟨a, dx, o, od, ents, n, hv, hxs, ⟨ho, hc, by unfold notCls; rw [hdat], by rw [hd]; exact hod⟩, hd, hod, hoc, hode, hE⟩
theorem look_ents {h : Heap} {od : Obj} {ents : Array DictEntry} {n : Nat} (hd : od.data = .dict ents n) (hE : EntsAre Y h ents.toList ps) (hl : ps.lookup attr = some d) : ∃ v, lookIn attr od = some (some v) ∧ DataIn Y h v d := by
  obtain ⟨e, q, D⟩ := ents_find hE hl
  exact ⟨e.val, by unfold lookIn; rw [hd]; dsimp only; rw [q], D⟩

theorem inst_get {h : Heap} {v : Value} {xs : List Addr} {Q : Value → Shared → Prop} (X : K.In S.B) (I : InstK K C) (hf : findIn K (.ref C) attr = some none) (hs : S.B.StaysIn s.heap) (M : HasMut Y s.heap v xs (.inst C ps)) (hl : ps.lookup attr = some d)
    (k : ∀ r, DataIn Y s.heap r d → Q r { s with toks := s.toks + 1 }) : wpAny S.M A (getAttr v attr true) Q E s := by
  refine byC fun hnC2 => ?_
  obtain ⟨a, dx, o, od, ents, n, rfl, _, IA, hd, hod, hoc, hode, hE⟩ := inst_at M
  obtain ⟨r, hr, D⟩ := look_ents hode hE hl
  obtain ⟨cd, hc, hh⟩ := I.cd
  refine hnC2 ?_
  refine get_value (X.keeps hs) IA I.ga (v := r) ?_ (data_handed D) (k r D)
  unfold findObj
  rw [hc, Option.bind_some, hf, Option.bind_some]
  simp only [Option.bind_some]
  unfold W.ownOf
  rw [hh, if_pos rfl]
  dsimp only
  rw [hr]
  rfl

theorem EvE.fld (μa μb : List (Str × Mut)) (X : K.In S.B) (I : InstK K C) (hf : findIn K (.ref C) attr = some none) (hl : ps.lookup attr = some d) (hn : (n == ("__debug__" : Str)) = false := by decide)
    (he : ∀ env, eval (.Attribute (.Name n np) attr pos) env = (do
      let o ← eval (.Name n np) env
      standAt pos.atName
      let r ← holding [o] (getAttr o attr true)
      letTemporaryGo (.Name n np) o r
      pure r) := by intro _; with_unfolding_all rfl) : EvE S b sc δ (μa ++ (n, .inst C ps) :: μb) (.Attribute (.Name n np) attr pos) (.ok d) (μa ++ (n, .inst C ps) :: μb) := by
  with_unfolding_all
  intro A env Fs h₀ Xr Y Xs s R E P K
  refine byC fun hnC3 => ?_
  obtain ⟨v, xs, sub, H, M, _⟩ := P.one
  refine hnC3 ?_
  refine Attribute_Name_ (wpAny_Name (load_holds P.sk H ?_) hn) (he env)
  exact inst_get (h := s.heap) X I hf P.stat M hl fun r D => K.keeps P keepsSame D

theorem sim_dict {B h h' : Heap} {dx : Addr} {dd : Option Addr} {ents ents' : Array DictEntry} {k k' : Nat} {sl : Array (Option Value)} (ho : h.get? dx = some ⟨.type "dict", dd, .dict ents k, sl⟩) (ho' : h'.get? dx = some ⟨.type "dict", dd, .dict ents' k', sl⟩) (hk : ∀ b, b ≠ dx → h'.get? b = h.get? b) (hb : B.get? dx = none) : Sim B Fs [dx] h h' := by
  refine .of_but (fun b o hm e => (hk b fun q => hm (by rw [q]; exact .head _)).trans e) (fun b hm o e => ?_) (fun b hm o e => ?_) fun b hm => ?_
  · cases List.mem_singleton.mp hm
    exact ⟨_, ho', fun _ vs q => by cases q⟩
  · cases List.mem_singleton.mp hm
    rw [ho] at e; cases e
    rintro ⟨_, vs, n, q⟩
    cases q
  · cases List.mem_singleton.mp hm
    exact hb

theorem inst_set {v w : Value} {xs : List Addr} {Q : Unit → Shared → Prop} (X : K.In S.B) (I : InstK K C) (hf : findIn K (.ref C) attr = some none) (hs : S.B.StaysIn s.heap) (M : HasMut Y s.heap v xs (.inst C ps)) (D : DataIn Y s.heap w d) (hz : ps.length ≤ 1000) (hxs : ∀ a ∈ xs, a ∈ Y) (hnd : xs.Nodup) (hB : ∀ a ∈ Y, S.B.get? a = none) (hF : ∀ a ∈ Fs, a ∈ Y)
    (k : ∀ h' tk, Sim S.B Fs xs s.heap h' → HasMut Y h' v xs (.inst C (putD attr d ps)) → Q () { s with heap := h', toks := tk }) : wpAny S.M A (setAttr v attr w) Q E s := by
  refine byC fun hnC4 => ?_
  obtain ⟨a, dx, o, od, ents, n, hv, hxe, ho, hc, hd, hdat, hod, hoc, hodd, hode, hE⟩ := M
  refine hnC4 ?_
  subst hv; subst hxe
  refine byC fun hnC5 => ?_
  obtain ⟨oc, od1, od2, osl⟩ := od
  refine hnC5 ?_
  simp only at hoc hodd hode
  subst hoc hodd hode
  have IA : InstAt s.heap a o C (some ⟨.type "dict", none, .dict ents n, osl⟩) := ⟨ho, hc, by unfold notCls; rw [hdat], by rw [hd]; exact hod⟩
  obtain ⟨cd, hcd, hh⟩ := I.cd
  have XK := X.keeps hs
  refine set_plain XK IA I.sa ?_
  refine osa_open (s := { s with toks := s.toks + 1 }) (r := none) XK IA I.over (by unfold takerIn; rw [hf]; rfl) fun b => ?_
  unfold Builtin.ObjectAttr.storeInOwnDict
  refine byC fun hnC6 => ?_
  obtain ⟨c1, c2, c3, c4⟩ := o
  refine hnC6 ?_
  simp only at hc hd hdat
  subst hc hd hdat
  refine wpAny_bind (wpAny_pure (wpAny_bind (wpAny_bind (wpAny_loadPart ho (wpAny_bind (Looks.here (s := { s with toks := s.toks + 1 }) (looks_clsIn XK hcd) ?_))))))
  rw [hh]
  refine wpAny_pure (a := some dx) ?_
  refine dict_store (s := { s with toks := s.toks + 1 }) hod hE hz fun h' hs' n' hd' hsz hk => ?_
  have hbd : S.B.get? dx = none := hB dx (hxs _ (.head _))
  have x1 : Sim S.B Fs [dx] s.heap h' := sim_dict hod hd' hk hbd
  have x2 := x1.mono (X' := [dx, a]) fun q h => by cases List.mem_singleton.mp h; exact .head _
  have hne : a ≠ dx := fun q => (List.nodup_cons.mp hnd).1 (q ▸ .head _)
  have hX : ∀ q ∈ [dx], q ∈ Y ∨ s.heap.get? q = none := fun q h => .inl (by cases List.mem_singleton.mp h; exact hxs _ (.head _))
  refine k h' (s.toks + 1 + 1) x2 ⟨a, dx, _, _, _, _, rfl, rfl, (hk a hne).trans ho, rfl, rfl, rfl, hd', rfl, rfl, rfl, ?_⟩
  exact (ents_put D hE).imp fun _ _ q => q.sim x1 hX fun a z => .inl (hF a z)

theorem EvS.setAttr (μa μb : List (Str × Mut)) (X : K.In S.B) (I : InstK K C) (hf : findIn K (.ref C) attr = some none) (h : EvE S b sc δ μ value (.ok d) (μa ++ (n, .inst C ps) :: μb)) (hz : ps.length ≤ 1000 := by decide) (hn : (n == ("__debug__" : Str)) = false := by decide)
    (hs : ∀ env, swapsWith value (some (.Attribute (.Name n np) attr ap)) pos.line env = pure false := by intro _; rfl) : EvS S b sc δ μ (.Assign [.Attribute (.Name n np) attr ap] value pos) (.next δ (μa ++ (n, .inst C (putD attr d ps)) :: μb)) := by
  with_unfolding_all
  intro A env Fs h₀ nr Xr Y₀ Y Xs s R E P Kk
  refine plainObj_wpAny_Assign_Attribute (h A env Fs h₀ Xr Y Xs s _ E P.pre fun w h' tk x m D => ?_) (hs env)
  have P' := P.next (tk := tk) x m
  refine byC fun hnC7 => ?_
  obtain ⟨v, xs, sub, nd, H, M, turn⟩ := P'.pre.oneN
  refine hnC7 ?_
  refine wpAny_Name (load_holds P.pre.sk H ?_) hn
  refine inst_set (Fs := Fs) X I hf P'.pre.stat M D hz (fun a q => P.pre.sepY a (sub a q)) nd P.pre.yB P.pre.fsY fun h'' tk' x' M' => ?_
  have x'' := x'.mono sub
  exact Kk h'' tk' Y Xs ((x.trans x'' fun a q => .inl q).mono P.pre.sepY) (fun a q => .inl q) (P'.next x'' (turn h'' _ x' M'))

theorem EvS.augAttr {op : Operator} (μa μb : List (Str × Mut)) (X : K.In S.B) (I : InstK K C) (hf : findIn K (.ref C) attr = some none) (hl : ps.lookup attr = some x) (h : EvE S b sc δ (μa ++ (n, .inst C ps) :: μb) value (.ok y) (μa ++ (n, .inst C ps) :: μb)) (pr : Prim S (two (inplaceOp op)) [x, y] d) (hz : ps.length ≤ 1000 := by decide) (hn : (n == ("__debug__" : Str)) = false := by decide) :
    EvS S b sc δ (μa ++ (n, .inst C ps) :: μb) (.AugAssign (.Attribute (.Name n np) attr ap) op value pos) (.next δ (μa ++ (n, .inst C (putD attr d ps)) :: μb)) := by
  with_unfolding_all
  intro A env Fs h₀ nr Xr Y₀ Y Xs s R E P Kk
  refine byC fun hnC8 => ?_
  obtain ⟨v, xs, sub, nd, H, M, turn⟩ := P.pre.oneN
  refine hnC8 ?_
  refine wpAny_AugAssign_AttributeAny (wpAny_Name (load_holds P.pre.sk H ?_) hn)
  refine inst_get (h := s.heap) X I hf P.pre.stat M hl fun r Dr => ?_
  refine h A env Fs h₀ Xr Y Xs { s with toks := s.toks + 1 } _ E (P.pre.next (tk := s.toks + 1) (.refl ..) P.pre.muts) fun w h' tk x m D => ?_
  have P' := P.next (tk := tk) x m
  refine pr A Y [r, w] _ E { s with heap := h', toks := tk } P'.pre.handled (by have := P'.pre.units; omega) P'.pre.stat P'.pre.alloc ⟨Dr.sim x fun a q => .inl (P.pre.sepY a q), D, trivial⟩ fun r' h'' tk' k D'' => ?_
  have P'' : PreS S b sc A env Fs h₀ nr Xr Y₀ Y Xs δ (μa ++ (n, .inst C ps) :: μb) { s with heap := h'', toks := tk' } := P'.next (tk := tk') (.of_keeps k) (P'.pre.muts.sim (X := []) (B := S.B) (Fs := Fs) (.of_keeps k) ⟨(fun q => nomatch q), (fun _ _ _ q => nomatch q)⟩ (fun _ q => nomatch q) fun _ _ q => nomatch q)
  refine byC fun hnC9 => ?_
  obtain ⟨v', xs', sub', nd', H', M', turn'⟩ := P''.pre.oneN
  refine hnC9 ?_
  have hv : v = v' := holds_same ((H.sim x P.pre.sepN).sim (B := S.B) (Fs := Fs) (X := []) (.of_keeps k) ⟨(fun q => nomatch q), (fun _ _ _ q => nomatch q)⟩) H'
  subst hv
  refine inst_set (Fs := Fs) X I hf P''.pre.stat M' D'' hz (fun a q => P.pre.sepY a (sub' a q)) nd' P.pre.yB P.pre.fsY fun h₃ tk₃ x₃ M₃ => ?_
  have x₃' := x₃.mono sub'
  have xk : Sim S.B Fs Xs.flatten h' h'' := .of_keeps k
  exact Kk h₃ tk₃ Y Xs (((x.trans xk fun a q => .inl q).trans x₃' fun a q => .inl q).mono P.pre.sepY) (fun a q => .inl q) (P''.next x₃' (turn' h₃ _ x₃ M₃))
end
end
section
variable [Pm]

section
variable {S : St} {b b' : Nat} {sc scope : Scope} {δ δ' δ₁ δ₂ δc : List (Str × PyData)} {μ μ₁ μ₂ μ' μa μb : List (Str × Mut)} {e value : Expr} {es : List Expr} {pos p np ap : Pos} {d x y : PyData} {u : Bool} {t : Str} {ds : List PyData} {n name : Str} {ps qs : List (Str × PyData)} {C : Addr} {K : Frag} {m m' m₁ : Mut} {out : Out PyData}
  {A : Around} {env : Env} {Fs X : List Addr} {h₀ hb : Heap} {nr : Nat} {Xr Y₀ Y : List Addr} {Xs : List (List Addr)} {s : Shared} {R : Value → Shared → Prop} {E : Value → Shared → Prop}

/-- the method of that name -/
noncomputable def MethN (S : St) (K : Frag) (C : Addr) (b : Nat) (name : Str) (m : Mut) (ds : List PyData) (out : Out PyData) (m' : Mut) : Prop :=
  ∃ f o fd, findIn K (.ref C) name = some (some (.ref f)) ∧ typeIn K (.ref f) = some (.type "function") ∧ S.B.get? f = some o ∧ o.data = .func fd ∧ CalR S b f m ds out m'
noncomputable def FnM (S : St) (K : Frag) (C : Addr) (name : Str) (ps : List Str) (body : List Stmt) (sc : Scope) : Prop := ∃ f, findIn K (.ref C) name = some (some (.ref f)) ∧ typeIn K (.ref f) = some (.type "function") ∧ HasFn S f ps body sc
theorem MethN.mk {p : Str} {ps : List Str} {body : List Stmt} (O : S.Ok) (hf : FnM S K C name (p :: ps) body sc) (ok : ScOk sc (p :: ps)) (so : SO) (h : EvSs S b sc (ps.zip ds) [(p, m)] body so) (ho : Ends p m' so out) (hl : ds.length = ps.length := by rfl) (hby : byRef sc = true := by rfl) (hcomp : isComp sc = false := by rfl) : MethN S K C (b + 1) name m ds out m' := by
  refine byC fun hnC1 => ?_
  obtain ⟨f, hm, ht, hf⟩ := hf
  refine hnC1 ?_
  have c := CalR.mk O hf so ho hl ok hby hcomp h
  refine byC fun hnC2 => ?_
  obtain ⟨o, fd, h1, h2, _⟩ := hf
  refine hnC2 ?_
  exact ⟨f, o, fd, hm, ht, h1, h2, c⟩
theorem shadow_miss {Y : List Addr} {h : Heap} {od : Obj} {ents : Array DictEntry} {k : Nat} (hd : od.data = .dict ents k) (hE : EntsAre Y h ents.toList ps) (hl : ps.lookup name = none) : shadowIn (some od) name = some false := by
  unfold shadowIn lookIn
  dsimp only
  rw [hd]
  dsimp only
  rw [ents_miss hE hl]
  dsimp only
  rw [ents_refs hE]
  rfl

theorem EvE.meth (μa μb : List (Str × Mut)) (X : K.In S.B) (I : InstK K C) (c : MethN S K C b name m₁ ds out m') (h : EvEs S b sc δ (μa ++ (n, .inst C ps) :: μb) es (.ok ds) (μa ++ (n, m₁) :: μb)) (hm : ps.lookup name = none := by rfl) (hn : (n == ("__debug__" : Str)) = false := by decide) (hs : noStar es := by intro _; rfl)
    {pl : Env → Sem Bool} (he : ∀ env, eval (.Call (.Attribute (.Name n np) name ap) es [] pos) env = (do
      let ov ← eval (.Name n np) env
      standAt ap.atName
      let (f, first) ← holding [ov] (getMethod ov name (pl env))
      callWith pos f first (backTo pos (starEach es env)) []) := by intro _; rfl) :
    EvE S b sc δ (μa ++ (n, .inst C ps) :: μb) (.Call (.Attribute (.Name n np) name ap) es [] pos) out (μa ++ (n, m') :: μb) := by
  with_unfolding_all
  refine byC fun hnC3 => ?_
  obtain ⟨f, o, fd, hf, ht, hB, hdat, c⟩ := c
  refine hnC3 ?_
  intro A env Fs h₀ Xr Y Xs s R E P Kk
  refine byC fun hnC4 => ?_
  obtain ⟨v, xs, sub, nd, H, M, turn⟩ := P.oneN
  refine hnC4 ?_
  have XK := X.keeps P.stat
  refine MethodCall_ (pl := pl env) (wpAny_Name (load_holds P.sk H ?_) hn) (he env)
  refine byC fun hnC5 => ?_
  obtain ⟨a, dx, ox, od, ents, k, rfl, hxs, IA, hd, hod, hoc, hode, hE⟩ := inst_at M
  refine hnC5 ?_
  refine method_fn XK IA I.ga I.gt hf ht (shadow_miss hode hE hm) ?_
  have fin : wpAny S.M A (spliced (backTo pos (starEach es env))) (fun vs s₁ => (∀ b o, S.B.get? b = some o → s₁.heap.get? b = some o) ∧ wpAny S.M A (PySem.call (.ref f) ([.ref a] ++ vs)) R E s₁) E s := by
    rw [hs env]
    refine spliced_WEs (h A env Fs h₀ Xr Y Xs s _ E P fun vs h' tk x m D => ?_)
    have P' := P.next (tk := tk) x m
    exact ⟨P'.stat, calR_use c P' (Kk.seq (tk := tk) x) (H.sim x P.sepN) D⟩
  cases es with
  | nil =>
    refine callWith_meth0 hdat (P.stat _ _ hB) ?_
    have q := h A env Fs h₀ Xr Y Xs s (fun vs s₁ => wpAny S.M A (PySem.call (.ref f) ([.ref a] ++ vs)) R E s₁) E P fun vs h' tk x m D => calR_use c (P.next (tk := tk) x m) (Kk.seq (tk := tk) x) (H.sim x P.sepN) D
    exact q
  | cons e₀ er => exact callWith_meth (h₀ := S.B) hdat hB fin (noStar_head hs env)

theorem Pre.moreL {Z : List Addr} (P : Pre S b sc A env Fs h₀ Xr Y Xs δ μ s) {h' : Heap} {tk : Nat} (k : ∀ b o, s.heap.get? b = some o → h'.get? b = some o) (hn : ∀ a ∈ Z, s.heap.get? a = none) (al : ∀ a ∈ Z, ∃ o, h'.get? a = some o) : Pre S b sc A env Fs h₀ Xr (Z ++ Y) Xs δ μ { s with heap := h', toks := tk } :=
  have hy : ∀ c ∈ Z ++ Y, c ∈ Y ∨ s.heap.get? c = none := fun c q => (List.mem_append.mp q).elim (fun q => .inr (hn c q)) .inl
  have sub : ∀ c ∈ Y, c ∈ Z ++ Y := fun c q => List.mem_append.mpr (.inr q)
  have x : Sim S.B Fs [] s.heap h' := .of_keeps k
  have hfs : ∀ a ∈ Fs, a ∈ Z ++ Y ∨ s.heap.get? a = none := fun a q => .inl (sub a (P.fsY a q))
  { P with
    stack := let ⟨f, o, L, a, b, c, d, e, g⟩ := P.stack; ⟨f, o, L, a, b, c, d, funFrames_sim x e, g⟩
    stat := x.st P.stat
    hist := P.hist.trans x fun _ q => nomatch q
    loc := Loc.sim (Y := Z ++ Y) x ⟨(fun q => nomatch q), (fun _ _ _ q => nomatch q)⟩ (fun _ q => nomatch q) ⟨P.loc.ns, fun z dz e => let ⟨v, H, D⟩ := P.loc.dat z dz e; ⟨v, H, D.grow hy⟩⟩
    locY := ⟨sub _ P.locY.1, P.locY.2⟩
    cellY := fun z c e => ⟨sub _ (P.cellY z c e).1, (P.cellY z c e).2⟩
    cellE := fun q n h => (P.cellE q n h).keeps k
    muts := (P.muts.grow hy).sim x ⟨(fun q => nomatch q), (fun _ _ _ q => nomatch q)⟩ (fun _ q => nomatch q) fun _ _ q => nomatch q
    sepY := fun c q => sub _ (P.sepY c q)
    yB := fun c q => (List.mem_append.mp q).elim (fun q => none_base P.stat (hn c q)) (P.yB c)
    fsY := fun c q => sub _ (P.fsY c q)
    alloc := fun c q => (List.mem_append.mp q).elim (al c) fun q => let ⟨o, e⟩ := P.alloc c q; ⟨o, k _ _ e⟩ }

theorem Pre.bindM {v : Value} {xs : List Addr} (P : Pre S b sc A env Fs h₀ Xr Y Xs δ μ s) (hk : sc.names.lookup n = some .local) (hμ : μ.lookup n = none) (hδ : δ.lookup n = none) (hxY : ∀ a ∈ xs, a ∈ Y) (hxX : ∀ a ∈ xs, a ∉ Xs.flatten) (hxF : ∀ a ∈ xs, a ∉ Fs) (ap : apart xs env) (hx0 : ∀ a ∈ xs, h₀.get? a = none) (nd : xs.Nodup) (M : HasMut Y s.heap v xs m)
    {Q : Unit → Shared → Prop} (Kk : ∀ h' tk, Sim S.B Fs [env.locals] s.heap h' → Pre S b sc A env Fs h₀ Xr Y (Xs ++ [xs]) δ (μ ++ [(n, m)]) { s with heap := h', toks := tk } → Q () { s with heap := h', toks := tk }) : wpAny S.M A (storeName env n v) Q E s := by
  obtain ⟨mm, N⟩ := P.loc.ns
  have hl : env.kindOf n = some .local := by unfold Env.kindOf; rw [P.sco]; exact hk
  refine wpAny_storeName_local hl N (fun h' N' hs => ?_) (by show (env.scope.kind == .class || (env.scope.kind == .module && env.locals != env.globals)) = false; rw [P.sk]; rfl)
  have x : Sim S.B Fs [env.locals] s.heap h' := sim_local N N' hs (P.yB _ P.locY.1)
  have hx : ∀ a ∈ [env.locals], a ∈ Y ∨ s.heap.get? a = none := fun a q => by cases List.mem_singleton.mp q; exact .inl P.locY.1
  refine Kk h' _ x ?_
  have fl : (Xs ++ [xs]).flatten = Xs.flatten ++ xs := by simp
  have both : ∀ {Pp : Addr → Prop}, (∀ a ∈ Xs.flatten, Pp a) → (∀ a ∈ xs, Pp a) → ∀ a ∈ (Xs ++ [xs]).flatten, Pp a := fun h1 h2 a q => by
    rw [fl] at q
    exact (List.mem_append.mp q).elim (h1 a) (h2 a)
  exact { P with
    stack := let ⟨f, o, L, a, b, c, d, e, g⟩ := P.stack; ⟨f, o, L, a, b, c, d, funFrames_sim x e, g⟩
    stat := x.st P.stat
    hist := P.hist.trans x fun a q => by cases List.mem_singleton.mp q; exact .inr P.locY.2
    loc := ⟨⟨_, N'⟩, fun z dz e => by
      have hz : z ≠ n := fun q => by rw [q, hδ] at e; cases e
      obtain ⟨w, H, Dw⟩ := P.loc.dat z dz e
      exact ⟨w, holds_local N N' hs H hz, Dw.sim x hx⟩⟩
    cellE := fun q n h => (P.cellE q n h).loc x P.loc.ns
    muts := muts_app (muts_local N N' hs x P.locY.1 (fun a q => .inl (P.fsY a q)) (keys_ne hμ) (fun a q e => P.sepN.1 (e ▸ q)) P.muts) (.inl ⟨hl, _, N', by simp⟩) (M.sim x hx fun a q z => ap.1 (List.mem_singleton.mp z ▸ q))
    nodup := by rw [fl]; exact List.nodup_append.mpr ⟨P.nodup, nd, fun c q c' q' e => hxX c' q' (e ▸ q)⟩
    sepY := both P.sepY hxY
    sepF := both P.sepF hxF
    sepN := ⟨fun q => both (Pp := fun a => a ≠ env.locals) (fun a q e => P.sepN.1 (e ▸ q)) (fun a q e => ap.1 (e ▸ q)) _ q rfl, fun z c e q => both (Pp := fun a => a ≠ c) (fun a q e' => P.sepN.2 z c e (e' ▸ q)) (fun a q e' => ap.2 z c e (e' ▸ q)) _ q rfl⟩
    sepH := both P.sepH fun a q => .inr (hx0 a q)
    alloc := fun a h => let ⟨o, e⟩ := P.alloc a h; let ⟨o', e', _⟩ := x.on a o e; ⟨o', e'⟩ }

theorem under_make (A : Around) (C : Addr) (vs : List Value) : (A.under (.builtin "type.__call__" ⟨.ref C :: vs, []⟩)).depth = A.depth + 1 ∧ (A.under (.builtin "type.__call__" ⟨.ref C :: vs, []⟩)).units = A.units + 1 ∧ (A.under (.builtin "type.__call__" ⟨.ref C :: vs, []⟩)).frames = A.frames ∧ (A.under (.builtin "type.__call__" ⟨.ref C :: vs, []⟩)).handled = A.handled := by
  have hw : (Code.builtin "type.__call__" ⟨.ref C :: vs, []⟩).weight = 1 := by kernel_rfl
  have hu : (Code.builtin "type.__call__" ⟨.ref C :: vs, []⟩).cUnits = 1 := by kernel_rfl
  have he : (Code.builtin "type.__call__" ⟨.ref C :: vs, []⟩).envs = [] := by kernel_rfl
  refine byC fun hnC6 => ?_
  obtain ⟨a, d, f, g, u⟩ := A
  refine hnC6 ?_
  unfold Around.under
  simp only [hw, hu, he]
  refine ⟨trivial, trivial, ?_, trivial⟩
  cases f <;> rfl

/-- x = C(..) -/
theorem EvS.make {cn : Str} {cp : Pos} {e₀ : Expr} (O : S.Ok) (X : K.In S.B) (hmk : makesIn K C = true) (hkp : keepIn K (.ref C) = true) (hm : S.mg cn = some (.ref C)) (c : MethN S K C b "__init__" (.inst C []) ds (.ok .none) (.inst C qs)) (h : EvEs S (b + 1) sc δ μ (e₀ :: es) (.ok ds) μ') (hk : sc.names.lookup cn = some .globalImplicit) (hn : sc.names.lookup n = some .local)
    (hμ : μ'.lookup n = none := by rfl) (hδ : δ.lookup n = none := by rfl) (hs : noStar (e₀ :: es) := by intro _; rfl) (hd : (cn == ("__debug__" : Str)) = false := by decide) (hsw : ∀ env, swapsWith (.Call (.Name cn cp) (e₀ :: es) [] p) (some (.Name n np)) pos.line env = pure false := by intro _; rfl)
    (hplain : ∀ env, (backTo p (starEach es env)).any (·.1) = false := by intro _; rfl) (hcomp : isComp sc = false := by rfl) :
    EvS S (b + 1) sc δ μ (.Assign [.Name n np] (.Call (.Name cn cp) (e₀ :: es) [] p) pos) (.next δ (μ' ++ [(n, .inst C qs)])) := by
  with_unfolding_all
  refine byC fun hnC7 => ?_
  obtain ⟨fI, oI, fd, hf, ht, hB, hdat, c⟩ := c
  refine hnC7 ?_
  intro A env Fs h₀ nr Xr Y₀ Y Xs s R E P Kk
  refine wpAny_Assign_Name ?_ (hsw env)
  refine wpAny_Call_Name_kw (O.global P.pre hm hk ?_ hd)
  refine callWith_K (h₀ := S.B) X hkp ?_ (noStar_head hs env) (hplain env)
  rw [hs env]
  refine spliced_WEs (h A env Fs h₀ Xr Y Xs s _ E P.pre fun vs h₁ tk x m D => ?_)
  have P₁ := P.next (tk := tk) x m
  have XK := X.keeps P₁.pre.stat
  refine ⟨XK, wpAny_call ?_⟩
  have hDn : h₁.get? h₁.objs.size = none := Heap.get?_none_of_le (Nat.le_refl _)
  have hXn : h₁.get? (h₁.objs.size + 1) = none := Heap.get?_none_of_le (Nat.le_succ _)
  have k2 : ∀ b o, h₁.get? b = some o → ((h₁.push emptyDict).push (instObj C h₁.objs.size)).get? b = some o := fun b o e => Heap.get?_push_of_some _ (Heap.get?_push_of_some _ e)
  have gD : ((h₁.push emptyDict).push (instObj C h₁.objs.size)).get? h₁.objs.size = some emptyDict := Heap.get?_push_of_some _ (Heap.get?_push_size _ rfl)
  have gX : ((h₁.push emptyDict).push (instObj C h₁.objs.size)).get? (h₁.objs.size + 1) = some (instObj C h₁.objs.size) := by
    have := Heap.get?_push_size (h₁.push emptyDict) (o := instObj C h₁.objs.size) rfl
    rwa [Heap.size_push] at this
  refine make_core (rest := vs) (makes_of XK hmk) (looks_findIn XK hf) (fun self => bind_fn XK self ht) (.inl rfl) ?_
  refine byC fun hnC8 => ?_
  obtain ⟨u1, u2, u3, u4⟩ := under_make A C vs
  refine hnC8 ?_
  revert u1 u2 u3 u4
  generalize A.under (.builtin "type.__call__" ⟨.ref C :: vs, []⟩) = A₁
  intro u1 u2 u3 u4
  have mZ : ∀ {a : Addr}, a ∈ [h₁.objs.size, h₁.objs.size + 1] → a = h₁.objs.size ∨ a = h₁.objs.size + 1 := fun q => by
    rcases List.mem_cons.mp q with q | q
    · exact .inl q
    · exact .inr (List.mem_singleton.mp q)
  have zn : ∀ a ∈ [h₁.objs.size, h₁.objs.size + 1], h₁.get? a = none := fun a q => by rcases mZ q with rfl | rfl <;> assumption
  have P₂ := P₁.pre.moreL (Z := [h₁.objs.size, h₁.objs.size + 1]) (tk := tk) k2 zn fun a q => by
    rcases mZ q with e | e
    · rw [e]; exact ⟨_, gD⟩
    · rw [e]; exact ⟨_, gX⟩
  have ynot : ∀ a ∈ [h₁.objs.size, h₁.objs.size + 1], a ∉ Y := fun a q z => by obtain ⟨o, e⟩ := P₁.pre.alloc a z; rw [zn a q] at e; cases e
  have zX : ∀ a ∈ [h₁.objs.size, h₁.objs.size + 1], a ∉ Xs.flatten := fun a q z => ynot a q (P.pre.sepY a z)
  have zF : ∀ a ∈ [h₁.objs.size, h₁.objs.size + 1], a ∉ Fs := fun a q z => ynot a q (P.pre.fsY a z)
  have zA : apart [h₁.objs.size, h₁.objs.size + 1] env := ⟨fun q => ynot _ q P.pre.locY.1, fun z c e q => ynot _ q (P.pre.cellY z c e).1⟩
  have z0 : ∀ a ∈ [h₁.objs.size, h₁.objs.size + 1], h₀.get? a = none := fun a q => P₁.pre.hist.fresh (zn a q)
  have zs : ∀ a ∈ [h₁.objs.size, h₁.objs.size + 1], s.heap.get? a = none := fun a q => x.fresh (zn a q)
  obtain ⟨outer, hat, hFs⟩ := P₂.at
  have hat' : At S b A₁ outer ([h₁.objs.size, h₁.objs.size + 1] ++ Y) { s with heap := (h₁.push emptyDict).push (instObj C h₁.objs.size), toks := tk } := { hat with handled := u4.trans P.pre.handled, depth := by have := hat.depth; omega, units := by have := hat.units; omega, frames := u3.trans hat.frames }
  subst hFs
  have M₀ : HasMut ([h₁.objs.size, h₁.objs.size + 1] ++ Y) ((h₁.push emptyDict).push (instObj C h₁.objs.size)) (.ref (h₁.objs.size + 1)) [h₁.objs.size, h₁.objs.size + 1] (.inst C []) := ⟨_, _, _, _, #[], 0, rfl, rfl, gX, rfl, rfl, rfl, gD, rfl, rfl, rfl, trivial⟩
  refine codeAny_mono (c A₁ outer (.ref (h₁.objs.size + 1)) [h₁.objs.size, h₁.objs.size + 1] vs ([h₁.objs.size, h₁.objs.size + 1] ++ Y) { s with heap := (h₁.push emptyDict).push (instObj C h₁.objs.size), toks := tk }
    (fun r s' => r = .none ∧ wpAny S.M A (storeName env n (.ref (h₁.objs.size + 1))) (fun _ => R .next) E s') E hat' M₀ (fun a q => List.mem_append.mpr (.inl q)) (by simp) zF ((D.imp fun _ _ z => z.grow fun a q => (List.mem_append.mp q).elim (fun q => .inr (zn a q)) .inl).push k2) (fun r h₃ tk₃ x₃ M₃ D₃ => ?_)) fun r s' z => ?_
  · refine ⟨D₃.none, ?_⟩
    have P₃ := P₂.shift (tk := tk₃) x₃ (fun a q => List.mem_append.mpr (.inl q)) (fun a q z => zX a z q) zA z0
    refine P₃.bindM hn hμ hδ (fun a q => List.mem_append.mpr (.inl q)) zX zF zA z0 (by simp) M₃ fun h₄ tk₄ x₄ P₄ => ?_
    refine Kk h₄ tk₄ _ _ ((((x.mono P.pre.sepY).trans (X' := []) (.of_keeps k2) fun _ q => nomatch q).trans x₃ fun a q => .inr (zs a q)).trans x₄ fun a q => ?_) (fun a q => (List.mem_append.mp q).elim (fun q => .inr (zs a q)) .inl) ⟨P₄, fun hc => let q := P.xr hc; ⟨?_, ?_, q.2.2⟩, fun a q => ⟨List.mem_append.mpr (.inr (P.y0 a q).1), (P.y0 a q).2⟩⟩
    · cases List.mem_singleton.mp q; exact .inl P.pre.locY.1
    · rw [List.take_append_of_le_length q.2.1]; exact q.1
    · rw [List.length_append]; have := q.2.1; omega
  · unfold backTo' at z
    unfold InitBack
    rcases r with e | (v | _ | _ | _) <;> exact z
end
end
section
variable [Pm]

/-- own exception classes: C the class, bm what its mro holds behind it -/
structure ExcC (K : Frag) (C : Addr) (bm : List Value) (fI : Addr) : Prop where
  obj : ∃ nm q N bs sn sub ab col dd k0 k1 k2 k3 k5, K.lookup C = some (excClassObj nm q C N bs bm true sn sub ab col dd k0 k1 k2 k3 k5 "Exception.__new__")
  e : bm.contains (.type "Exception") = true
  a : bm.contains (.type "AttributeError") = false
  n : bm.contains (.type "NameError") = false
  b : bm.contains (.type "BaseException") = true
  o : bm.contains (.type "object") = true
  pass : ∀ self, refuseLoop self "__setattr__" (.ref C :: bm) = pure ()
  init : findIn K (.ref C) "__init__" = some (some (.ref fI))
  initT : typeIn K (.ref fI) = some (.type "function")
  ga : findIn K (.ref C) "__getattribute__" = some (some (.builtin "object.__getattribute__")) ∨ findIn K (.ref C) "__getattribute__" = some (some (.builtin "BaseException.__getattribute__"))
  gt : findIn K (.ref C) "__getattr__" = some none
  sa : findIn K (.ref C) "__setattr__" = some (some (.builtin "object.__setattr__")) ∨ findIn K (.ref C) "__setattr__" = some (some (.builtin "BaseException.__setattr__"))
  row : findIn K (.ref C) "row" = some none
  text : findIn K (.ref C) "text" = some none

section
variable {prog : Program} {w : World} {A : Around} {E : Value → Shared → Prop} {R : Result → Shared → Prop} {h : Heap} {g : Array GenState} {d : Drawn} {t : Nat} {os : OsState}
variable {nm q : Str} {C N fI : Addr} {bs bm : List Value} {hdct : Bool} {sn : List Str} {sub : List Value} {ab : Bool} {col : Option Bool} {dd : Option Addr} {k0 k1 k2 k3 k5 : Option Value} {B newId initId : String} {bmB : List Value}

theorem exc_check_new (F : ExcBaseFacts B newId initId bmB) (hB : bm.contains (.type B) = true) {M : Model} {rest : List Value} {Q : Unit → Shared → Prop} (hC : h.get? C = some (excClassObj nm q C N bs bm hdct sn sub ab col dd k0 k1 k2 k3 k5 newId))
    (hq : Q () ⟨h, g, d, t, os⟩) : wpAny M A (checkBuiltinCall newId ⟨.ref C :: rest, []⟩) Q E ⟨h, g, d, t, os⟩ := by
  have hcont : (Value.ref C :: bm).contains (.type B) = true := by rw [List.contains_cons, hB, Bool.or_true]
  have hstar := F.noStar
  simp only [checkBuiltinCall, F.newKind, F.newSplit, F.newRow]
  repeat (first | refine wpAny_loadPart_at hC ?_ | (refine wpAny_isSubtype_exc hC ?_; rw [hcont]) | refine wpAny_staticBase_exc hC ?_ | refine wpAny_madeBy_exc hC ?_ | simp only [bne_self_eq_false, Bool.false_eq_true, if_false] | wp_step)
  exact hq

theorem exc_new (F : ExcBaseFacts B newId initId bmB) (hB : bm.contains (.type B) = true) (hA : bm.contains (.type "AttributeError") = false) (hN : bm.contains (.type "NameError") = false) {rest : List Value} (hC : h.get? C = some (excClassObj nm q C N bs bm hdct sn sub ab col dd k0 k1 k2 k3 k5 newId))
    (hq : R (.ok (.ret (.ref (h.objs.size + 1)))) ⟨(h.push { cls := .type "tuple", data := .seq rest.toArray }).push { cls := .ref C, data := .fields #[.ref h.objs.size, .none, .none, .none, .bool false, .none] }, g, d, t, os⟩) (hrest : rest.length ≤ sizeLine) :
    codeAny (model prog w) A (.builtin newId ⟨.ref C :: rest, []⟩) R ⟨h, g, d, t, os⟩ := by
  have hends := F.ends
  have hcB : (Value.ref C :: bm).contains (.type B) = true := by rw [List.contains_cons, hB, Bool.or_true]
  have hcA : (Value.ref C :: bm).contains (.type "AttributeError") = false := by rw [List.contains_cons, hA]; rfl
  have hcN : (Value.ref C :: bm).contains (.type "NameError") = false := by rw [List.contains_cons, hN]; rfl
  refine codeAny_builtinAt F.entry ?_
  unfold Builtin.«BaseException.__new__»
  refine PySem.wpAt_bind ?_
  show PySem.wpAt _ _ _ (stack >>= _) _ _ _
  refine PySem.wpAt_bind (PySem.wpAt_stack fun p below => PySem.wpAt_of_wpAny ?_)
  wp_walk
  refine PySem.wpAt_of_wpAny ?_
  rw [F.owner]
  repeat (first | with_reducible refine wpAny_madeHere_exc F.canon hC ?_ | with_reducible refine wpAny_loadPart_at hC ?_ | (with_reducible refine wpAny_isSubtype_exc hC ?_; first | rw [hcB] | rw [hcA] | rw [hcN]) | wp_step)
  show R _ _
  rw [Heap.size_push]
  exact hq

noncomputable abbrev excObj (C T : Addr) : Obj := { cls := .ref C, data := .fields #[.ref T, .none, .none, .none, .bool false, .none] }

theorem exc_type_call (F : ExcBaseFacts B newId initId bmB) (hB : bm.contains (.type B) = true) (hA : bm.contains (.type "AttributeError") = false) (hN : bm.contains (.type "NameError") = false) {rest : List Value} {Q : Fin → Shared → Prop}
    (hC : h.get? C = some (excClassObj nm q C N bs bm hdct sn sub ab col dd k0 k1 k2 k3 k5 newId)) (hi : Looks (model prog w) h (typeLookup (.ref C) "__init__") (some (.ref fI))) (hf : Looks (model prog w) h (typeOf (.ref fI)) (.type "function")) (hrest : rest.length ≤ sizeLine)
    (hq : wpAny (model prog w) A (call (.ref fI) (.ref (h.objs.size + 1) :: rest)) (fun r s' => r = .none ∧ Q (.done (.ret (.ref (h.objs.size + 1)))) s') E
      ⟨(h.push { cls := .type "tuple", data := .seq rest.toArray }).push (excObj C h.objs.size), g, d, t, os⟩) :
    wpAny (model prog w) A (Builtin.«type.__call__» ⟨.ref C :: rest, []⟩) Q E ⟨h, g, d, t, os⟩ := by
  repeat (first | with_reducible refine wpAny_loadPart_at hC ?_ | with_reducible refine wpAny_madeBy_exc hC ?_ | wp_step)
  refine codeAny_call_builtin_code (Code.quiet_builtin _ F.quiet) (exc_check_new F hB hC ?_)
  refine exc_new F hB hA hN hC ?_ hrest
  show wpAny _ _ _ _ _ _
  have k2 : ∀ b o, h.get? b = some o → ((h.push { cls := .type "tuple", data := .seq rest.toArray }).push { cls := .ref C, data := .fields #[.ref h.objs.size, .none, .none, .none, .bool false, .none] }).get? b = some o := fun b o e => Heap.get?_push_of_some _ (Heap.get?_push_of_some _ e)
  have hC₁ := k2 _ _ hC
  have hget : ((h.push { cls := .type "tuple", data := .seq rest.toArray }).push { cls := .ref C, data := .fields #[.ref h.objs.size, .none, .none, .none, .bool false, .none] }).get? (h.objs.size + 1) = some { cls := .ref C, data := .fields #[.ref h.objs.size, .none, .none, .none, .bool false, .none] } := by
    have := Heap.get?_push_size (h.push { cls := .type "tuple", data := .seq rest.toArray }) (o := excObj C h.objs.size) rfl
    rwa [Heap.size_push] at this
  have hcC : (Value.ref C :: bm).contains (.ref C) = true := by simp
  unfold isInstance
  repeat (first | with_reducible refine wpAny_loadPart_at hget ?_ | (with_reducible refine wpAny_isSubtype_exc hC₁ ?_; rw [hcC]) | wp_step)
  show wpAny _ _ (typeLookup (.ref C) _) _ _ _
  refine (hi.keeps k2).at ?_
  refine wpAny_holding (wpAny_bind ?_)
  unfold bindSpecial
  refine wpAny_bind ((hf.keeps k2).at ?_)
  rw [if_pos (by decide)]
  refine wpAny_pure (wpAny_bind (wpAny_mono hq (fun r s' hr => ?_) fun _ _ x => x))
  obtain ⟨rfl, hQ⟩ := hr
  wp_walk
  exact hQ

theorem exc_make (F : ExcBaseFacts B newId initId bmB) (hB : bm.contains (.type B) = true) (hA : bm.contains (.type "AttributeError") = false) (hN : bm.contains (.type "NameError") = false) {rest : List Value} {Q : Value → Shared → Prop}
    (hC : h.get? C = some (excClassObj nm q C N bs bm hdct sn sub ab col dd k0 k1 k2 k3 k5 newId)) (hi : Looks (model prog w) h (typeLookup (.ref C) "__init__") (some (.ref fI))) (hf : Looks (model prog w) h (typeOf (.ref fI)) (.type "function")) (hrest : rest.length ≤ sizeLine)
    (hq : wpAny (model prog w) (A.under (.builtin "type.__call__" ⟨.ref C :: rest, []⟩)) (call (.ref fI) (.ref (h.objs.size + 1) :: rest)) (fun r s' => r = .none ∧ Q (.ref (h.objs.size + 1)) s') E
      ⟨(h.push { cls := .type "tuple", data := .seq rest.toArray }).push (excObj C h.objs.size), g, d, t, os⟩) :
    wpAny (model prog w) A (call (.ref C) rest) Q E ⟨h, g, d, t, os⟩ := by
  have f1 := tc_lookup
  have f2 := tc_bind (.ref C)
  have hT : (⟨h, g, d, t, os⟩ : Shared).TypeIs (.ref C) "type" := ⟨_, hC, rfl⟩
  refine wpAny_call (codeAny_of_tree ?_)
  show wpAny _ _ (callAny (.ref C) _) _ _ _
  repeat (any_goals (first | assumption | with_reducible refine wpAny_loadPart_at hC ?_ | wp_step))
  refine ⟨rfl, ?_⟩
  exact codeAny_call_builtin_at (Code.quiet_builtin _ (by decide +kernel)) entry_typeCall (wpAny_check_type_call_sub hC (exc_type_call F hB hA hN hC hi hf hrest hq))
end
end
section
variable [Pm]

section
variable {prog : Program} {w : World} {A : Around} {E : Value → Shared → Prop} {R : Result → Shared → Prop} {s : Shared} {K : Frag} {C x fI : Addr} {bm : List Value} {ox : Obj} {od : Option Obj} {name : Str} {tk : Tok} {v : Value}

theorem ExcC.cls (X : ExcC K C bm fI) : ∃ cd, clsIn K C = some cd ∧ cd.mro = .ref C :: bm ∧ cd.hasDict = true := by
  refine byC fun hnC1 => ?_
  obtain ⟨nm, q, N, bs, sn, sub, ab, col, dd, k0, k1, k2, k3, k5, e⟩ := X.obj
  refine hnC1 ?_
  exact ⟨_, by unfold clsIn; rw [e], rfl, rfl⟩

theorem exc_osa (X : K.In s.heap) (EC : ExcC K C bm fI) (I : InstAt s.heap x ox C od) (hf : findIn K (.ref C) name = some none)
    (h : ∀ b, wpAny (model prog w) A.in1 (Builtin.ObjectAttr.storeInOwnDict (.ref x) (.ref C) (.str name tk) name v b) (fun fin s' => match fin with | .done f => R (.ok f) s' | .again c' => c'.quiet = true ∧ codeAny (model prog w) A c' R s') (fun e s' => R (.error e) s') s) :
    codeAny (model prog w) A (.call (.builtin "object.__setattr__") ⟨[.ref x, .str name tk, v], []⟩) R s := by
  have SF := PySem.F.store_object
  refine byC fun hnC2 => ?_
  obtain ⟨cd, hc, hm0, hd⟩ := EC.cls
  refine hnC2 ?_
  have ne : cd.mro.isEmpty = false := by rw [hm0]; rfl
  have sub : Looks (model prog w) s.heap (isInstance (.ref x) (.type "object")) true := I.type.andThen (looks_mroIn X (by unfold mroIn; rw [hc, Option.bind_some, if_neg (by rw [ne]; decide), hm0, List.contains_cons, EC.o, Bool.or_true]))
  refine codeAny_call_builtin SF.slot.plain SF.entry (@check_slot (model prog w) _ _ s "object.__setattr__" "object" "__setattr__" (.ref x) [.str name tk, v] [] _ SF.kind SF.split sub (SF.args (.ref x) (.str name tk) v) ?_)
  have hm : Looks (model prog w) s.heap (mroOf (.ref C)) cd.mro := (looks_clsIn X hc).andThen .now
  rw [osa_eq, refuse_eq]
  refine wpAny_bind (wpAny_bind (I.type.here (wpAny_bind (hm.here ?_))))
  rw [hm0, EC.pass]
  refine wpAny_pure (wpAny_bind (I.type.here (wpAny_bind ((looks_findIn X hf).here (wpAny_bind (Looks.here (r := none) Looks.now ?_))))))
  exact h _

theorem exc_setAttr {Q : Unit → Shared → Prop} (X : K.In s.heap) (EC : ExcC K C bm fI) (hsa : findIn K (.ref C) "__setattr__" = some (some (.builtin "object.__setattr__"))) (I : InstAt s.heap x ox C od) (hf : findIn K (.ref C) name = some none)
    (h : ∀ b, wpAny (model prog w) A.in1 (Builtin.ObjectAttr.storeInOwnDict (.ref x) (.ref C) (.str name s.toks) name v b) (fun fin s' => fin = .done (.ret .none) ∧ Q () s') (fun _ _ => False) { s with toks := s.toks + 1 }) :
    wpAny (model prog w) A (setAttr (.ref x) name v) Q E s := by
  refine set_plain X I hsa (exc_osa (s := { s with toks := s.toks + 1 }) X EC I hf fun b => wpAny_mono (h b) (fun fin s' z => ?_) fun _ _ z => z.elim)
  obtain ⟨rfl, z⟩ := z
  exact z

/-- the first field of an exception -/
theorem exc_set0 {Q : Unit → Shared → Prop} {fs : Array Value} {sl : Array (Option Value)} (X : K.In s.heap) (EC : ExcC K C bm fI) (hsa : findIn K (.ref C) "__setattr__" = some (some (.builtin "object.__setattr__"))) (hf : findIn K (.ref C) name = some none) (hx : s.heap.get? x = some ⟨.ref C, none, .fields fs, sl⟩)
    (k : ∀ h' D hs n', s.heap.get? D = none → h'.get? x = some ⟨.ref C, some D, .fields fs, sl⟩ → h'.get? D = some ⟨.type "dict", none, .dict #[⟨hs, .str name (s.toks + 1), v⟩] n', #[]⟩ → (∀ b o, b ≠ x → s.heap.get? b = some o → h'.get? b = some o) → Q () { s with heap := h', toks := s.toks + 2 }) :
    wpAny (model prog w) A (setAttr (.ref x) name v) Q E s := by
  refine byC fun hnC3 => ?_
  obtain ⟨cd, hc, hm0, hd⟩ := EC.cls
  refine hnC3 ?_
  refine exc_setAttr X EC hsa (od := none) ⟨hx, rfl, rfl, trivial⟩ hf fun b => ?_
  unfold Builtin.ObjectAttr.storeInOwnDict
  refine byC fun hnC4 => ?_
  obtain ⟨hp, g, d, t, os⟩ := s
  refine hnC4 ?_
  refine wpAny_bind (wpAny_pure (wpAny_bind (wpAny_bind (wpAny_loadPart hx (wpAny_bind (Looks.at (looks_clsIn X hc) ?_))))))
  rw [hd]
  have hx₁ : (hp.push { cls := .type "dict", data := .dict #[] }).get? x = some ⟨.ref C, none, .fields fs, sl⟩ := Heap.get?_push_of_some _ hx
  have hxs : x ≠ hp.objs.size := Nat.ne_of_lt (Heap.lt_size hx)
  simp only [Bool.not_true, Bool.false_eq_true, if_false, typeHasDict, Bool.or_self]
  refine wpAny_bind (wpAny_alloc' ?_)
  refine wpAny_bind (wpAny_update' hx₁ ?_)
  refine wpAny_pure ?_
  have hgx : ((hp.push { cls := .type "dict", data := .dict #[] }).update x fun o => { o with dict := some hp.objs.size }).get? x = some ⟨.ref C, some hp.objs.size, .fields fs, sl⟩ := Heap.get?_update_self _ hx₁ rfl
  have hgd : ((hp.push { cls := .type "dict", data := .dict #[] }).update x fun o => { o with dict := some hp.objs.size }).get? hp.objs.size = some { cls := .type "dict", data := .dict #[] } := (Heap.get?_update_ne _ _ _ _ hxs.symm).trans (Heap.get?_push_at rfl rfl)
  refine dict_store (Y := []) (ps := []) hgd trivial (by decide) fun h' hs n' e1 e2 e3 => ⟨rfl, k h' hp.objs.size hs n' (Heap.get?_none_of_le (Nat.le_refl _)) ((e3 x hxs).trans hgx) e1 fun b o hb e => ?_⟩
  have hbs : b ≠ hp.objs.size := Nat.ne_of_lt (Heap.lt_size e)
  exact (e3 b hbs).trans ((Heap.get?_update_ne _ _ _ _ hb).trans (Heap.get?_push_of_some _ e))

/-- a further field of an exception -/
theorem exc_set1 {Q : Unit → Shared → Prop} {fs : Array Value} {sl sl' : Array (Option Value)} {D : Addr} {ents : Array DictEntry} {n : Nat} {Y : List Addr} {ps : List (Str × PyData)} (X : K.In s.heap) (EC : ExcC K C bm fI) (hsa : findIn K (.ref C) "__setattr__" = some (some (.builtin "object.__setattr__"))) (hf : findIn K (.ref C) name = some none) (hx : s.heap.get? x = some ⟨.ref C, some D, .fields fs, sl⟩)
    (hD : s.heap.get? D = some ⟨.type "dict", none, .dict ents n, sl'⟩) (hE : EntsAre Y s.heap ents.toList ps) (hz : ps.length ≤ 1000)
    (k : ∀ h' hs n', h'.get? D = some ⟨.type "dict", none, .dict (putL name hs (.str name (s.toks + 1)) v ents.toList).toArray n', sl'⟩ → (∀ b, b ≠ D → h'.get? b = s.heap.get? b) → Q () { s with heap := h', toks := s.toks + 2 }) :
    wpAny (model prog w) A (setAttr (.ref x) name v) Q E s := by
  refine byC fun hnC5 => ?_
  obtain ⟨cd, hc, hm0, hd⟩ := EC.cls
  refine hnC5 ?_
  refine exc_setAttr X EC hsa (od := some ⟨.type "dict", none, .dict ents n, sl'⟩) ⟨hx, rfl, rfl, hD⟩ hf fun b => ?_
  unfold Builtin.ObjectAttr.storeInOwnDict
  refine byC fun hnC6 => ?_
  obtain ⟨hp, g, d, t, os⟩ := s
  refine hnC6 ?_
  refine wpAny_bind (wpAny_pure (wpAny_bind (wpAny_bind (wpAny_loadPart hx (wpAny_bind (Looks.at (looks_clsIn X hc) ?_))))))
  rw [hd]
  refine wpAny_pure (a := some D) ?_
  exact dict_store hD hE hz fun h' hs n' e1 e2 e3 => ⟨rfl, k h' hs n' e1 e3⟩
end
end
section
variable [Pm]

noncomputable abbrev bmE : List Value := [.type "Exception", .type "BaseException", .type "object"]
/-- what the own exceptions' __init__ does -/
structure InitIs (body : List Stmt) : Prop where
  eq : ∃ p1 p2 p3 p4 q1 q2 q3 q4, body = [.Assign [.Attribute (.Name "self" p1) "row" p2] (.Name "row" p3) p4, .Assign [.Attribute (.Name "self" q1) "text" q2] (.Name "text" q3) q4]

structure ExcS (S : St) (K : Frag) : Prop where
  X : K.In S.B
  init : ∃ fI body sc, HasFn S fI ["self", "row", "text"] body sc ∧ ScOk sc ["self", "row", "text"] ∧ InitIs body ∧ ExcC K S.cA bmE fI ∧ ExcC K S.cU (.ref S.cA :: bmE) fI
  sA : findIn K (.ref S.cA) "__setattr__" = some (some (.builtin "object.__setattr__"))
  sU : findIn K (.ref S.cU) "__setattr__" = some (some (.builtin "object.__setattr__"))

noncomputable def St.cls (S : St) (u : Bool) : Addr := if u then S.cU else S.cA
noncomputable def bmOf (S : St) (u : Bool) : List Value := if u then .ref S.cA :: bmE else bmE

theorem ExcS.of {S : St} {K : Frag} (H : ExcS S K) (u : Bool) : ∃ fI body sc, HasFn S fI ["self", "row", "text"] body sc ∧ ScOk sc ["self", "row", "text"] ∧ InitIs body ∧ ExcC K (S.cls u) (bmOf S u) fI ∧ findIn K (.ref (S.cls u)) "__setattr__" = some (some (.builtin "object.__setattr__")) := by
  refine byC fun hnC1 => ?_
  obtain ⟨fI, body, sc, h1, h2, h3, h4, h5⟩ := H.init
  refine hnC1 ?_
  cases u with
  | false => exact ⟨fI, body, sc, h1, h2, h3, h4, H.sA⟩
  | true => exact ⟨fI, body, sc, h1, h2, h3, h5, H.sU⟩

section
variable {S : St} {b : Nat} {A : Around} {outer : List Env} {Y : List Addr} {s : Shared} {E : Value → Shared → Prop} {K : Frag} {u : Bool} {t : Str} {t0 t1 : Tok}

theorem ns_but {h h' : Heap} {L x : Addr} {m : Str → Option Value} (N : h.Ns L m) (hL : L ≠ x) (k : ∀ b o, b ≠ x → h.get? b = some o → h'.get? b = some o) : h'.Ns L m := let ⟨o, es, ep, e, r⟩ := N; ⟨o, es, ep, k L o hL e, r⟩

theorem exc_built (O : S.Ok) (H : ExcS S K) (hat : At S b A outer Y s) (hb : 2 ≤ b) {Q : Value → Shared → Prop}
    (k : ∀ e h' tk, (∀ b o, s.heap.get? b = some o → h'.get? b = some o) → ExcW S s.heap h' e u t none → (∃ T D sl, h'.get? e = some ⟨.ref (S.cls u), some D, .fields #[.ref T, .none, .none, .none, .bool false, .none], sl⟩) → Q (.ref e) { s with heap := h', toks := tk }) :
    wpAny S.M A (PySem.call (.ref (S.cls u)) [.int 0 t0, .str t t1]) Q E s := by
  refine byC fun hnC2 => ?_
  obtain ⟨fI, body, sc, hf, ok, hbody, EC, hsa⟩ := H.of u
  refine hnC2 ?_
  have XK := H.X.keeps hat.stat
  refine byC fun hnC3 => ?_
  obtain ⟨nm, q, N, bs, sn, sub, ab, col, dd, k0, k1, k2, k3, k5, eC⟩ := EC.obj
  obtain ⟨o, fd, h1, h2, h3, h4, h5, h6, h7, h8, h9⟩ := hf
  obtain ⟨hp, g, d, tk, os⟩ := s
  refine hnC3 ?_
  have hfI := H.X
  refine exc_make PySem.F.excBase_Exception EC.e EC.a EC.n (XK _ _ eC) (looks_findIn XK EC.init) (looks_typeIn XK EC.initT) (show 2 ≤ sizeLine from by decide) ?_
  refine byC fun hnC4 => ?_
  obtain ⟨u1, u2, u3, u4⟩ := under_make A (S.cls u) [.int 0 t0, .str t t1]
  refine hnC4 ?_
  revert u1 u2 u3 u4
  generalize A.under (.builtin "type.__call__" ⟨.ref (S.cls u) :: [.int 0 t0, .str t t1], []⟩) = A₁
  intro u1 u2 u3 u4
  generalize hH : (hp.push { cls := .type "tuple", data := .seq [Value.int 0 t0, .str t t1].toArray }).push (excObj (S.cls u) hp.objs.size) = H₁
  have kH : ∀ b o, hp.get? b = some o → H₁.get? b = some o := fun b o e => by rw [← hH]; exact Heap.get?_push_of_some _ (Heap.get?_push_of_some _ e)
  have he : H₁.get? (hp.objs.size + 1) = some (excObj (S.cls u) hp.objs.size) := by
    have := Heap.get?_push_size (hp.push { cls := .type "tuple", data := .seq [Value.int 0 t0, .str t t1].toArray }) (o := excObj (S.cls u) hp.objs.size) rfl
    rw [Heap.size_push] at this
    rw [← hH]; exact this
  have hen : hp.get? (hp.objs.size + 1) = none := Heap.get?_none_of_le (Nat.le_succ _)
  have st₁ : S.B.StaysIn H₁ := fun b o e => kH _ _ (hat.stat _ _ e)
  refine wpAny_call (codeAny_call_def (fd := fd) (body := body) (binds := (["self", "row", "text"] : List Str).zip [.ref (hp.objs.size + 1), .int 0 t0, .str t t1]) (by have := hat.depth; omega) (st₁ _ _ h1) h2 (O.nolimit.keeps st₁) (h3.keeps st₁) h4 (h9 _ _ rfl) (by rw [h5]; exact ok.cell) (fun x hx => ?_) (fun h₁ hN hk => ?_) (by rw [h5]; exact ok.co) (by rw [h5]; exact ok.gen) (by rw [h5]; exact ok.kind))
  · rw [h5]
    refine ok.loc _ ?_
    have := List.mem_map_of_mem (f := (·.1)) hx
    simpa using this
  refine byC fun hnC5 => ?_
  obtain ⟨p1, p2, p3, p4, q1, q2, q3, q4, rfl⟩ := hbody.eq
  refine hnC5 ?_
  have envE : callEnv fd H₁.objs.size fI = { scope := sc, locals := H₁.objs.size, globals := mainGlobals, cells := [], qual := fd.qualname ++ ".<locals>.", func := some fI, code := fd.code, frame := some H₁.objs.size, builtins := builtinsNs } := by
    unfold callEnv newEnv
    rw [h5, h6, h7, h8]
  generalize hE : callEnv fd H₁.objs.size fI = env at envE hN ⊢
  have hko : env.scope.kind = .function := by rw [envE]; exact ok.kind
  have hloc : ∀ n ∈ (["self", "row", "text"] : List Str), env.kindOf n = some .local := fun n hn => by rw [envE]; exact ok.loc n hn
  have hlo : env.locals = H₁.objs.size := by rw [envE]
  have hL : H₁.get? H₁.objs.size = none := Heap.get?_none_of_le (Nat.le_refl _)
  have he₁ := hk _ _ he
  have st₂ : S.B.StaysIn h₁ := fun b o e => hk _ _ (st₁ _ _ e)
  have hLe : H₁.objs.size ≠ hp.objs.size + 1 := fun q => by rw [q, he] at hL; cases hL
  have N : h₁.Ns env.locals fun x => ((["self", "row", "text"] : List Str).zip [Value.ref (hp.objs.size + 1), .int 0 t0, .str t t1]).reverse.lookup x := by rw [hlo]; exact hN
  refine wpAny_execs_cons (plainObj_wpAny_Assign_Attribute (wpAny_Name (wpAny_loadName_local hko (hloc _ (by simp)) N (by rfl) ?_) (by decide)))
  refine wpAny_Name (wpAny_loadName_local hko (hloc _ (by simp)) N (by rfl) ?_) (by decide)
  refine exc_set0 (s := ⟨h₁, g, d, _, os⟩) (H.X.keeps st₂) EC hsa EC.row he₁ fun h₂ D hs n₁ dn e2 d2 k2 => ?_
  have hLD : env.locals ≠ hp.objs.size + 1 := by rw [hlo]; exact hLe
  have N₂ := ns_but N hLD k2
  have st₃ : S.B.StaysIn h₂ := fun b o e => k2 _ _ (fun q => by subst q; rw [hat.stat _ _ e] at hen; cases hen) (st₂ _ _ e)
  refine wpAny_execs_cons (plainObj_wpAny_Assign_Attribute (wpAny_Name (wpAny_loadName_local hko (hloc _ (by simp)) N₂ (by rfl) ?_) (by decide)))
  refine wpAny_Name (wpAny_loadName_local hko (hloc _ (by simp)) N₂ (by rfl) ?_) (by decide)
  refine exc_set1 (s := ⟨h₂, g, d, _, os⟩) (Y := []) (ps := [("row", .int 0)]) (H.X.keeps st₃) EC hsa EC.text e2 d2 ⟨⟨_, rfl⟩, dataInt, trivial⟩ (by decide) fun h₃ hs₂ n₂ d3 k3 => ?_
  refine wpAny_execs_nil ⟨rfl, ?_⟩
  have hDx : D ≠ hp.objs.size + 1 := fun q => by subst q; rw [he₁] at dn; cases dn
  have e3 := (k3 _ hDx.symm).trans e2
  have old : ∀ b o, hp.get? b = some o → h₃.get? b = some o := fun b o e => by
    have hb1 : b ≠ hp.objs.size + 1 := fun q => by subst q; rw [hen] at e; cases e
    have e1 := hk _ _ (kH _ _ e)
    have hb2 : b ≠ D := fun q => by subst q; rw [e1] at dn; cases dn
    exact (k3 b hb2).trans (k2 _ _ hb1 e1)
  have hDn : hp.get? D = none := by
    cases q : hp.get? D with
    | none => rfl
    | some o => rw [hk _ _ (kH _ _ q)] at dn; cases dn
  refine k _ h₃ _ old ⟨_, _, D, _, _, _, e3, rfl, rfl, (show 4 < 6 from by decide), rfl, hen, hDn, d3, rfl, rfl, ?_, rfl⟩ ⟨_, D, _, e3⟩
  have hp2 : putD "text" (.str t) [("row", .int 0)] = ([("row", .int 0), ("text", .str t)] : List (Str × PyData)) := by
    unfold putD putD
    rw [if_neg (by decide)]
  rw [← hp2]
  exact ents_put (n := "text") (d := .str t) (v := .str t t1) dataStr (es := [⟨hs, .str "row" _, .int 0 t0⟩]) (ps := [("row", .int 0)]) ⟨⟨_, rfl⟩, dataInt, trivial⟩
end
end
section
variable [Pm]

section
variable {S : St} {b : Nat} {sc : Scope} {δ δ' : List (Str × PyData)} {μ μ' : List (Str × Mut)} {e : Expr} {es : List Expr} {pos p np cp cpos : Pos} {d : PyData} {u : Bool} {t : Str} {n cn : Str} {K : Frag}
  {A : Around} {env : Env} {s : Shared} {E : Value → Shared → Prop} {C : Addr} {bm : List Value} {fI : Addr}

theorem exc_raise {x : Sem Value} {Q : Flow → Shared → Prop} (EC : ExcC K C bm fI) (hh : A.handled = none)
    (h : wpAny S.M A x (fun v s₁ => ∃ e T D sl, v = .ref e ∧ K.In s₁.heap ∧ s₁.heap.get? e = some ⟨.ref C, some D, .fields #[.ref T, .none, .none, .none, .bool false, .none], sl⟩ ∧ E (.ref e) s₁) E s) :
    wpAny S.M A (raiseStmt env (some x) none) Q E s := by
  have hcB : (Value.ref C :: bm).contains (.type "BaseException") = true := by rw [List.contains_cons, EC.b, Bool.or_true]
  refine byC fun hnC1 => ?_
  obtain ⟨nm, q, N, bs, sn, sub, ab, col, dd, k0, k1, k2, k3, k5, eC⟩ := EC.obj
  refine hnC1 ?_
  unfold raiseStmt
  refine wpAny_bind (wpAny_mono h (fun v s₁ h₁ => ?_) fun _ _ x => x)
  refine byC fun hnC2 => ?_
  obtain ⟨e, T, D, sl, rfl, XK, he, hE⟩ := h₁
  refine hnC2 ?_
  have hC := XK _ _ eC
  refine byC fun hnC3 => ?_
  obtain ⟨hp, g, d, tk, os⟩ := s₁
  refine hnC3 ?_
  repeat (first | with_reducible refine wpAny_loadPart_at he ?_ | with_reducible refine wpAny_loadPart_at hC ?_ | (with_reducible refine wpAny_isSubtype_exc hC ?_; rw [hcB]) | wp_step)
  exact wpAny_raiseNew_none hh hE

theorem EvS.raise {c0 msg : Expr} (O : S.Ok) (H : ExcS S K) (hm : S.mg cn = some (.ref (S.cls u))) (hkp : keepIn K (.ref (S.cls u)) = true) (h : EvEs S b sc δ μ [c0, msg] (.ok [.int 0, .str t]) μ') (hk : sc.names.lookup cn = some .globalImplicit) (hb : 2 ≤ b)
    (hs : noStar [c0, msg] := by intro _; rfl) (hd : (cn == ("__debug__" : Str)) = false := by decide) (hplain : ∀ env, (backTo cpos (starEach [msg] env)).any (·.1) = false := by intro _; rfl) :
    EvS S b sc δ μ (.Raise (some (.Call (.Name cn cp) [c0, msg] [] cpos)) none pos) (.exc u t) := by
  with_unfolding_all
  refine byC fun hnC4 => ?_
  obtain ⟨fI, body, sc', _, _, _, EC, _⟩ := H.of u
  refine hnC4 ?_
  intro A env Fs h₀ nr Xr Y₀ Y Xs s R E P Kk
  rw [arm_exec_Raise]
  refine wpAny_bind (wpAny_standAt (exc_raise (K := K) EC P.pre.handled ?_))
  show wpAny S.M A (do let v ← eval (.Call (.Name cn cp) [c0, msg] [] cpos) env; standAt _; pure v) _ _ s
  refine wpAny_bind (wpAny_mono (Q := fun v s₁ => ∃ e T D sl, v = .ref e ∧ K.In s₁.heap ∧ s₁.heap.get? e = some ⟨.ref (S.cls u), some D, .fields #[.ref T, .none, .none, .none, .bool false, .none], sl⟩ ∧ E (.ref e) s₁) ?_ (fun v s₃ h₃ => wpAny_bind (wpAny_standAt (wpAny_pure h₃))) fun _ _ x => x)
  refine wpAny_Call_Name_kw (O.global P.pre hm hk ?_ hd)
  refine callWith_K (h₀ := S.B) H.X hkp ?_ (noStar_head hs env) (hplain env)
  rw [hs env]
  refine spliced_WEs (h A env Fs h₀ Xr Y Xs s _ E P.pre fun vs h₁ tk x m D => ?_)
  have P₁ := P.next (tk := tk) x m
  refine byC fun hnC5 => ?_
  obtain ⟨v1, v2, rfl, D1, D2⟩ := datas2 D
  obtain ⟨t0, rfl⟩ := D1.int
  obtain ⟨t1, rfl⟩ := D2.str
  refine hnC5 ?_
  refine ⟨H.X.keeps P₁.pre.stat, ?_⟩
  obtain ⟨outer, hat, hFs⟩ := P₁.pre.at
  refine exc_built O H hat hb fun e h₂ tk₂ kk X₂ he => ?_
  refine byC fun hnC6 => ?_
  obtain ⟨T, D, sl, he⟩ := he
  refine hnC6 ?_
  have x₂ : Sim S.B Fs Xs.flatten h₁ h₂ := .of_keeps kk
  have xx := P₁.pre.hist.trans x₂ P.pre.sepH
  refine ⟨e, T, D, sl, rfl, H.X.keeps (x₂.st P₁.pre.stat), he, Kk e h₂ tk₂ xx (P₁.pre.frames x₂) (x₂.st P₁.pre.stat) (.inl (X₂.older fun a q => ?_))⟩
  exact P₁.pre.hist.fresh q
end
end
section
variable [Pm]

section
variable {prog : Program} {w : World} {A : Around} {E : Value → Shared → Prop} {R : Result → Shared → Prop} {s : Shared} {K : Frag} {C x fI : Addr} {bm : List Value} {ox : Obj} {od : Obj} {name : Str} {tk : Tok} {v : Value}

theorem bexc_plain : plainId "BaseException.__getattribute__" = true := by decide +kernel
theorem bexc_kind : builtinKind "BaseException.__getattribute__" = some .slot := by decide +kernel
theorem bexc_split : splitId "BaseException.__getattribute__" = some ("BaseException", "__getattribute__") := by decide +kernel
theorem bexc_bind (self : Value) : bindSpecial (.builtin "BaseException.__getattribute__") self = pure (.builtin "BaseException.__getattribute__", [self]) :=
  PySem.Slot.bind (T := "Exception") (name := "__getattribute__") (.of (owner := "BaseException") (n := "__getattribute__") (by rw [typeLookup_type, builtinLookup_eq_fast]; kernel_rfl) (by decide +kernel) (by decide +kernel) (by decide +kernel)
    (by first | exact .inl (by decide +kernel) | exact .inr (by decide +kernel)) (by rw [isSubtype_type]; kernel_rfl)) self

theorem exc_get {Q : Value → Shared → Prop} {expr : Bool} (X : K.In s.heap) (EC : ExcC K C bm fI) (hga : findIn K (.ref C) "__getattribute__" = some (some (.builtin "BaseException.__getattribute__"))) (I : InstAt s.heap x ox C (some od)) (hf : findIn K (.ref C) name = some none) (hv : lookIn name od = some (some v)) (hh : handedIn v = true)
    (h : Q v { s with toks := s.toks + 1 }) : wpAny (model prog w) A (getAttr (.ref x) name expr) Q E s := by
  refine byC fun hnC1 => ?_
  obtain ⟨cd, hc, hm0, hd⟩ := EC.cls
  refine hnC1 ?_
  have hfo : findObj K C (some od) name = some (.value v) := by
    unfold findObj
    rw [hc, Option.bind_some, hf, Option.bind_some]
    simp only [Option.bind_some]
    unfold W.ownOf
    rw [hd, if_pos rfl]
    dsimp only
    rw [hv]
    rfl
  refine byC fun hnC2 => ?_
  obtain ⟨hp, g, d, t, os⟩ := s
  refine hnC2 ?_
  have L0 := I.type (M := model prog w)
  have L1 := looks_findIn (M := model prog w) X hga
  have L2 := looks_find (M := model prog w) X I hfo
  have L3 : Looks (model prog w) hp (hookBefore (.ref C)) none := looks_hook X (by rw [if_pos (by rfl)]; exact EC.gt)
  have sub : Looks (model prog w) hp (isInstance (.ref x) (.type "BaseException")) true := I.type.andThen (looks_mroIn X (by unfold mroIn; rw [hc, Option.bind_some, if_neg (by rw [hm0]; intro q; cases q), hm0, List.contains_cons, EC.b, Bool.or_true]))
  have hx2 : (onTheHeap (Value.ref C) && Value.builtin "BaseException.__getattribute__" == Value.builtin "object.__getattribute__") = false := by
    rw [show (Value.builtin "BaseException.__getattribute__" == Value.builtin "object.__getattribute__") = false from by decide +kernel]; rfl
  have f3 := bexc_bind (.ref x)
  have hx0 : (expr && onTheHeap (Value.builtin "BaseException.__getattribute__")) = false := by cases expr <;> rfl
  unfold getAttr getAttrBy
  refine wpAny_bind (wpAny_mkText (wpAny_holding (wpAny_bind (L0.at (wpAny_bind (L1.at ?_))))))
  dsimp only
  rw [hx2, if_neg (by decide)]
  unfold getAttrByItsOwn
  refine wpAny_bind (L3.at (wpAny_bind (wpAny_attempt (wpAny_holding ?_))))
  unfold callGetattribute
  rw [hx0]
  repeat (any_goals (first | assumption | wp_step))
  refine codeAny_call_builtin bexc_plain PySem.F.entry_bexc_ga (@check_slot (model prog w) _ _ ⟨hp, g, d, t + 1, os⟩ "BaseException.__getattribute__" "BaseException" "__getattribute__" (.ref x) [.str name t] [] _ bexc_kind bexc_split sub (PySem.F.args_bexc_ga _ _) ?_)
  unfold Builtin.«object.__getattribute__»
  repeat (any_goals (first | assumption | with_reducible refine Looks.at L0 ?_ | with_reducible refine Looks.at L2 ?_ | wp_step))
  show wpAny _ _ (handedOut v) _ _ _
  rw [handedOut_of hh]
  exact wpAny_pure h
end

structure ExcT (S : St) (K : Frag) : Prop extends ExcS S K where
  gA : findIn K (.ref S.cA) "__getattribute__" = some (some (.builtin "BaseException.__getattribute__"))
  gU : findIn K (.ref S.cU) "__getattribute__" = some (some (.builtin "BaseException.__getattribute__"))
  tyA : instIn K (.ref S.cA) (.type "type") = some true ∧ instIn K (.ref S.cA) (.type "tuple") = some false
  tyU : instIn K (.ref S.cU) (.type "type") = some true ∧ instIn K (.ref S.cU) (.type "tuple") = some false
  mAA : mroIn K S.cA (.ref S.cA) = some true
  mAU : mroIn K S.cA (.ref S.cU) = some false
  mUA : mroIn K S.cU (.ref S.cA) = some true
  mUU : mroIn K S.cU (.ref S.cU) = some true
  bA : mroIn K S.cA (.type "BaseException") = some true
  bU : mroIn K S.cU (.type "BaseException") = some true

section
variable {S : St} {b : Nat} {sc : Scope} {δ δ' : List (Str × PyData)} {μ μ' : List (Str × Mut)} {e : Expr} {es : List Expr} {pos p np cp cpos : Pos} {d : PyData} {u c : Bool} {t : Str} {n cn : Str} {K : Frag}
  {A : Around} {env : Env} {s : Shared} {E : Value → Shared → Prop}

/-- does an exception match a clause: u its kind, c the clause's -/
noncomputable def caught (u c : Bool) : Bool := u || !c
theorem ExcT.mro (H : ExcT S K) (u c : Bool) : mroIn K (S.cls u) (.ref (S.cls c)) = some (caught u c) := by
  cases u <;> cases c
  · exact H.mAA
  · exact H.mAU
  · exact H.mUA
  · exact H.mUU
theorem ExcT.base (H : ExcT S K) (u : Bool) : mroIn K (S.cls u) (.type "BaseException") = some true := by
  cases u
  · exact H.bA
  · exact H.bU
theorem ExcT.ty (H : ExcT S K) (u : Bool) : instIn K (.ref (S.cls u)) (.type "type") = some true ∧ instIn K (.ref (S.cls u)) (.type "tuple") = some false := by
  cases u
  · exact H.tyA
  · exact H.tyU

theorem exc_matches {x : Addr} {o : Obj} {Q : Bool → Shared → Prop} (H : ExcT S K) (hs : S.B.StaysIn s.heap) (hx : s.heap.get? x = some o) (hc : o.cls = .ref (S.cls u)) (h : Q (caught u c) s) : wpAny S.M A (excMatches (.ref x) (.ref (S.cls c))) Q E s := by
  have XK := H.X.keeps hs
  refine byC fun hnC3 => ?_
  obtain ⟨hp, g, d, tk, os⟩ := s
  refine hnC3 ?_
  have L0 : Looks S.M hp (typeOf (.ref x)) (.ref (S.cls u)) := hc ▸ (Looks.ld hx).andThen .now
  have L1 := looks_instIn (M := S.M) XK (H.ty c).2
  have L2 := looks_instIn (M := S.M) XK (H.ty c).1
  have L3 := looks_mroIn (M := S.M) XK (H.base c)
  have L4 := looks_mroIn (M := S.M) XK (H.mro u c)
  refine byC fun hnC4 => ?_
  obtain ⟨fI, body, sc', _, _, _, EC, _⟩ := H.toExcS.of c
  obtain ⟨nm, q, N, bs, sn, sub, ab, col, dd, k0, k1, k2, k3, k5, eC⟩ := EC.obj
  refine hnC4 ?_
  have hC := XK _ _ eC
  unfold excMatches isExcClass PySem.isType
  repeat (any_goals (first | with_reducible refine wpAny_loadPart_at hC ?_ | with_reducible refine Looks.at L0 ?_ | with_reducible refine Looks.at L1 ?_ | with_reducible refine Looks.at L2 ?_ | with_reducible refine Looks.at L3 ?_ | with_reducible refine Looks.at L4 ?_ | wp_step))
  cases q : caught u c <;> (rw [q] at h; wp_walk; exact h)
end
end
section
variable [Pm]

section
variable {S : St} {b : Nat} {sc : Scope} {δ δ' : List (Str × PyData)} {μ μ' : List (Str × Mut)} {e : Expr} {es : List Expr} {pos p np cp cpos hp : Pos} {d : PyData} {u c : Bool} {t : Str} {n cn : Str} {K : Frag} {st : Stmt} {body orelse : List Stmt}
  {A A' : Around} {env : Env} {Fs : List Addr} {h₀ h₁ : Heap} {nr : Nat} {Xr Y₀ Y : List Addr} {Xs : List (List Addr)} {s : Shared} {E : Value → Shared → Prop} {Q : Flow → Shared → Prop} {x : Addr} {so : SO}

theorem glob_any (O : S.Ok) (P : Pre S b sc A env Fs h₀ Xr Y Xs δ μ s) {Q E : Value → Shared → Prop} {v : Value} (hn : S.mg n = some v) (hk : sc.names.lookup n = some .globalImplicit) (h : Q v s) (hd : (n == ("__debug__" : Str)) = false := by decide) : wpAny S.M A' (eval (.Name n np) env) Q E s := by
  refine Name_function_global P.sk (by unfold Env.kindOf; rw [P.sco]; exact hk) (loadGlobal_global (mg := S.mg) ?_ hn h) hd
  rw [P.globals]; exact O.g.keeps P.stat

theorem EvS.tryRet {h₀ : ExceptHandler} {hs : List ExceptHandler} (h : EvSs S b sc δ μ body (.ret d μ')) : EvS S b sc δ μ (.Try body (h₀ :: hs) orelse [] pos) (.ret d μ') := by
  with_unfolding_all
  intro A env Fs g₀ nr Xr Y₀ Y Xs s R E P Kk
  exact wpAny_Try_except (h A env Fs g₀ nr Xr Y₀ Y Xs s _ _ P fun v h' tk δ' Y' Xs' P' D => Kk v h' tk δ' Y' Xs' P' D)
theorem EvS.tryNext {h₀ : ExceptHandler} {hs : List ExceptHandler} (h : EvSs S b sc δ μ body (.next δ' μ')) : EvS S b sc δ μ (.Try body (h₀ :: hs) [] [] pos) (.next δ' μ') := by
  with_unfolding_all
  intro A env Fs g₀ nr Xr Y₀ Y Xs s R E P Kk
  exact wpAny_Try_except (h A env Fs g₀ nr Xr Y₀ Y Xs s _ _ P fun h' tk Y' Xs' x hY P' => wpAny_execs_nil (Kk h' tk Y' Xs' x hY P'))

/-- a body that raises, and nothing else -/
@[irreducible] def Raises (S : St) (b : Nat) (sc : Scope) (δ : List (Str × PyData)) (st : Stmt) (u : Bool) (t : Str) : Prop :=
  ∀ A env Fs h₀ Xr Y s R E, Pre S b sc A env Fs h₀ Xr Y [] δ [] s → (∀ e h' tk, Sim S.B Fs [] s.heap h' → ExcSt S env.frame s.heap h' e u t → E (.ref e) { s with heap := h', toks := tk }) → wpAny S.M A (exec st env) R E s
theorem Raises.ret (h : EvE S b sc δ [] e (.exc u t) μ') : Raises S b sc δ (.Return (some e) pos) u t := by
 with_unfolding_all exact fun A env Fs h₀ Xr Y s R E P Kk => wpAny_Return_some (h A env Fs h₀ Xr Y [] s _ E P Kk)
theorem Raises.expr (h : EvE S b sc δ [] e (.exc u t) μ') (hs : ∀ env, swapsWith e none pos.line env = pure false := by intro _; rfl) : Raises S b sc δ (.Expr e pos) u t := by
  with_unfolding_all
  intro A env Fs h₀ Xr Y s R E P Kk
  refine wpAny_Expr_any (h A env Fs h₀ Xr Y [] s _ E P Kk) ?_ (hs env)
  unfold interactive
  rw [P.sk]; rfl

theorem try_core {hd₀ : ExceptHandler} {hs : List ExceptHandler} (hb : Raises S b sc δ st u t) (P : Pre S b sc A env Fs h₀ Xr Y [] δ [] s)
    (Kk : ∀ e h' tk, Pre S b sc A env Fs h₀ Xr Y [] δ [] { s with heap := h', toks := tk } → Sim S.B Fs [] s.heap h' → ExcW S s.heap h' e u t (some .none) → wpAny S.M A (handleBy (.ref e) env (hd₀ :: hs)) Q E { s with heap := h', toks := tk }) :
    wpAny S.M A (exec (.Try [st] (hd₀ :: hs) orelse [] pos) env) Q E s := by
  with_unfolding_all
  refine wpAny_Try_except ?_
  show wpAny S.M A (do
    match ← exec st env with
    | .next => execs [] env
    | f => pure f) _ _ s
  refine wpAny_bind (hb A env Fs h₀ Xr Y s _ _ P fun e h' tk x X => ?_)
  refine byC fun hnC1 => ?_
  obtain ⟨fenv, outer, L, h1, h2, h3, h4, h5, h6⟩ := P.stack
  refine hnC1 ?_
  rw [h3] at X
  refine exc_note (s := { s with heap := h', toks := tk }) (Fs := Fs) h1 (funFrames_sim x h5) h2 h3 h4 X P.stat (fun a q => x.fresh q) fun h₂ st₂ X₂ => ?_
  have x₂ := st₂.sim x
  refine exc_flight (s := { s with heap := h₂, toks := tk }) (Fs := Fs) none X₂ P.stat fun h₃ st₃ X₃ => ?_
  have x₃ := st₃.sim x₂
  exact Kk e h₃ tk (P.next x₃ trivial) x₃ X₃

theorem clause {name : Option Str} {suite : List Stmt} {rest : List ExceptHandler} (O : S.Ok) (H : ExcT S K) (P : Pre S b sc A env Fs h₀ Xr Y Xs δ μ s) (hm : S.mg cn = some (.ref (S.cls c))) (hk : sc.names.lookup cn = some .globalImplicit) {fl : Option Value} (X : ExcW S h₁ s.heap x u t fl)
    (K1 : caught u c = true → codeAny S.M (A.mark (some (.ref x))) (.handlers (.ref x) [.ExceptHandler none name suite hp] env) (fun r s₂ => match r with
          | .ok f => (match name with
            | none => Q f s₂
            | some n => wpAny S.M A (do bindName env n .none; unbindBehindTheSuite env n hp) (fun _ s₃ => Q f s₃) E s₂)
          | .error x => cameBackBy S.M A env E x s₂) s)
    (K2 : caught u c = false → wpAny S.M A (handleBy (.ref x) env rest) Q E s) (hd : (cn == ("__debug__" : Str)) = false := by decide) :
    wpAny S.M A (handleBy (.ref x) env (.ExceptHandler (some (.Name cn np)) name suite hp :: rest)) Q E s := by
  refine wpAny_handleBy_cons (codeAny_handlers_test (glob_any O P hm hk ?_ hd)) (by intro q; cases q)
  refine byC fun hnC2 => ?_
  obtain ⟨o, vs, dx, od, ents, n, g1, g2, _⟩ := X
  refine hnC2 ?_
  refine exc_matches (u := u) H P.stat g1 (by cases u <;> exact g2) ?_
  cases q : caught u c with
  | true => exact K1 q
  | false => exact K2 q

theorem EvS.tryPass {suite : List Stmt} {name : Option Str} (O : S.Ok) (H : ExcT S K) (hb : Raises S b sc δ st u t) (hm : S.mg cn = some (.ref (S.cls c))) (hk : sc.names.lookup cn = some .globalImplicit) (hc : caught u c = false) (hd : (cn == ("__debug__" : Str)) = false := by decide) :
    EvS S b sc δ [] (.Try [st] [.ExceptHandler (some (.Name cn np)) name suite hp] orelse [] pos) (.exc u t) := by
  with_unfolding_all
  intro A env Fs h₀ nr Xr Y₀ Y Xs s R E P Kk
  have hXs : Xs = [] := by match Xs, P.pre.muts with | [], _ => rfl
  subst hXs
  refine try_core hb P.pre fun e h' tk P' x X => ?_
  refine clause O H P' hm hk X (fun q => by rw [hc] at q; cases q) (fun _ => wpAny_handleBy_nil ?_) hd
  have X' := X
  refine byC fun hnC3 => ?_
  obtain ⟨o, vs, dx, od, ents, n, g1, g2, g3, g4, g5, g6, g7, g8, g9, g10, g11, T, oT, ts, a1, a2, a3, a4, a5, a6⟩ := X
  obtain ⟨fenv, outer, L, h1, h2, h3, h4, h5, h6⟩ := P'.stack
  refine hnC3 ?_
  unfold PySem.passOn
  refine wpAny_bind (wpAny_field (s := { s with heap := h', toks := tk }) g1 g3 a1 ?_)
  rw [if_neg (by simp)]
  refine wpAny_bind (exc_flight (s := { s with heap := h', toks := tk }) (Fs := Fs) env.frame X' P.pre.stat fun h₂ st X₂ => ?_)
  have x₂ := st.sim x
  have X₃ : ExcSt S env.frame s.heap h₂ e u t := .inr (.inr ⟨L, h3, by rw [h3] at X₂; exact X₂⟩)
  exact wpAny_throw (Kk e h₂ tk (P.pre.hist.trans x₂ fun _ q => nomatch q) (P.pre.frames x₂) (x₂.st P.pre.stat) (X₃.older fun a q => P.pre.hist.fresh q))

theorem isNone_val {h : Heap} {v : Value} (D : DataIn Y h v d) : (v == .none) = isNone d := isNone_of D

/-- except C: if x is None: raise; return x -/
theorem EvS.tryKnown {un : Str} {p1 p2 p3 p4 p5 p6 p7 : Pos} {k : Nat} (O : S.Ok) (H : ExcT S K) (hb : Raises S b sc δ st u t) (hm : S.mg cn = some (.ref (S.cls c))) (hk : sc.names.lookup cn = some .globalImplicit) (hc : caught u c = true) (hl : δ.lookup un = some d) (hd : (cn == ("__debug__" : Str)) = false := by decide) (hd' : (un == ("__debug__" : Str)) = false := by decide) :
    EvS S b sc δ [] (.Try [st] [.ExceptHandler (some (.Name cn np)) none [.If (.Compare (.Name un p1) [.Is] [.Constant .none k p2] p3) [.Raise none none p4] [] p5, .Return (some (.Name un p6)) p7] hp] orelse [] pos) (if isNone d then .exc u t else .ret d []) := by
  with_unfolding_all
  intro A env Fs h₀ nr Xr Y₀ Y Xs s R E P Kk
  have hXs : Xs = [] := by match Xs, P.pre.muts with | [], _ => rfl
  subst hXs
  refine try_core hb P.pre fun e h' tk P' x X => ?_
  refine clause O H P' hm hk X (fun _ => ?_) (fun q => by rw [hc] at q; cases q) hd
  refine codeAny_handlers_suite ?_
  refine exc_flight (s := { s with heap := h', toks := tk }) (Fs := Fs) none X P.pre.stat fun h₂ st₂ X₂ => ?_
  have x₂ := st₂.sim x
  have P₂ := P.next (tk := tk) (μ' := []) x₂ trivial
  refine byC fun hnC4 => ?_
  obtain ⟨v, Hv, D⟩ := P₂.pre.loc.dat un d hl
  obtain ⟨fenv, outer, L, h1, h2, h3, h4, h5, h6⟩ := P₂.pre.stack
  refine hnC4 ?_
  refine wpAny_execs_cons (wpAny_If (wpAny_isTrue_Compare1 (wpAny_Name (load_holds P₂.pre.sk Hv (wpAny_Constant_none (PySem.is_none (wpAny_truthy_bool ?_)))) hd') (by with_unfolding_all rfl)))
  rw [isNone_val D]
  cases hd0 : isNone d with
  | false =>
    rw [hd0] at Kk
    simp only [Bool.false_eq_true, if_false] at Kk ⊢
    refine wpAny_execs_nil (wpAny_execs_cons (wpAny_Return_some (wpAny_Name (load_holds P₂.pre.sk Hv ?_) hd')))
    exact Kk v h₂ tk δ Y [] P₂ (D.less fun a q => (P.y0 a q).1)
  | true =>
    rw [hd0] at Kk
    simp only [if_true] at Kk ⊢
    refine wpAny_execs_cons ?_
    rw [arm_exec_Raise]
    refine wpAny_bind (wpAny_standAt ?_)
    show wpAny S.M _ (raiseStmt env none none) _ _ _
    unfold raiseStmt
    refine wpAny_bind (wpAny_handled ?_)
    show wpAny S.M _ (do
      rule "raise.bare"
      if (← field (.ref e) 1) == .none then PySem.unsupported s!"raise.bare:exception-without-traceback"
      setFlight (.ref e) env.frame
      throw (.ref e)) _ _ _
    have X₂' := X₂
    refine byC fun hnC5 => ?_
    obtain ⟨o, vs, dx, od, ents, n, g1, g2, g3, g4, g5, g6, g7, g8, g9, g10, g11, T, oT, ts, a1, a2, a3, a4, a5, a6⟩ := X₂
    refine hnC5 ?_
    refine wpAny_bind (wpAny_rule (wpAny_bind (wpAny_field (s := { s with heap := h₂, toks := tk }) g1 g3 a1 ?_)))
    rw [if_neg (by simp)]
    refine wpAny_bind (exc_flight (s := { s with heap := h₂, toks := tk }) (Fs := Fs) env.frame X₂' P.pre.stat fun h₃ st₃ X₃ => ?_)
    have x₃ := st₃.sim x₂
    rw [h3] at X₃
    refine wpAny_throw ?_
    have hst : ∀ h : Heap, Sim S.B Fs [] s.heap h → h.FunFrames S.B (fenv :: outer) := fun h q => P.pre.frames q _ h1
    refine exc_note (A := A.mark (some (.ref e))) (s := { s with heap := h₃, toks := tk }) (Fs := Fs) h1 (hst _ x₃) h2 h3 h4 (.inr (.inr ⟨L, rfl, X₃⟩)) P.pre.stat (fun a q => x₃.fresh q) fun h₅ st₅ X₅ => ?_
    have x₅ := st₅.sim x₃
    refine cameBack_of (s := s) P Kk h3 (P.pre.hist.trans x₅ fun _ q => nomatch q) (P.pre.frames x₅) (x₅.st P.pre.stat) (X₅.older fun a q => P.pre.hist.fresh q)
end
end
section
variable [Pm]

section
variable {S : St} {b : Nat} {sc : Scope} {δ δ' : List (Str × PyData)} {μ μ' : List (Str × Mut)} {e : Expr} {es : List Expr} {pos p np cp cpos hp : Pos} {d : PyData} {u c : Bool} {t : Str} {n cn en : Str} {K : Frag} {st : Stmt} {body orelse : List Stmt}
  {A A' : Around} {env : Env} {Fs : List Addr} {h₀ h₁ : Heap} {nr : Nat} {Xr Y₀ Y : List Addr} {Xs : List (List Addr)} {s : Shared} {E : Value → Shared → Prop} {Q : Flow → Shared → Prop} {x : Addr} {so : SO}

theorem builtin_any (O : S.Ok) (P : Pre S b sc A env Fs h₀ Xr Y Xs δ μ s) {Q E : Value → Shared → Prop} {v : Value} (hn : S.mg n = none) (hb : S.mb n = some v) (hk : sc.names.lookup n = some .globalImplicit) (h : Q v s) (hd : (n == ("__debug__" : Str)) = false := by decide) : wpAny S.M A' (eval (.Name n np) env) Q E s := by
  refine Name_function_global P.sk (by unfold Env.kindOf; rw [P.sco]; exact hk) (loadGlobal_builtin (mg := S.mg) (mb := S.mb) ?_ hn ?_ hb h) hd
  · rw [P.globals]; exact O.g.keeps P.stat
  · rw [P.builtins]; exact O.b.keeps P.stat

/-- the names of the frame are lost -/
theorem Pre.lost {m' : Str → Option Value} (P : Pre S b sc A env Fs h₀ Xr Y [] δ [] s) {h' : Heap} {tk : Nat} (x : Sim S.B Fs [env.locals] s.heap h') (N : h'.Ns env.locals m') : Pre S b sc A env Fs h₀ Xr Y [] [] [] { s with heap := h', toks := tk } :=
  { P with
    stack := let ⟨f, o, L, a, b, c, d, e, g⟩ := P.stack; ⟨f, o, L, a, b, c, d, funFrames_sim x e, g⟩
    stat := x.st P.stat
    hist := P.hist.trans x fun a q => by cases List.mem_singleton.mp q; exact .inr P.locY.2
    loc := ⟨⟨_, N⟩, fun _ _ e => by simp at e⟩
    cellE := fun q n h => (P.cellE q n h).loc x P.loc.ns
    muts := trivial
    nodup := List.nodup_nil
    sepY := fun _ q => nomatch q
    sepF := fun _ q => nomatch q
    sepN := ⟨(fun q => nomatch q), (fun _ _ _ q => nomatch q)⟩
    sepH := fun _ q => nomatch q
    alloc := fun a h => let ⟨o, e⟩ := P.alloc a h; let ⟨o', e', _⟩ := x.on a o e; ⟨o', e'⟩ }

/-- an own exception, told field by field -/
structure Told (S : St) (K : Frag) (h : Heap) (e : Addr) (u : Bool) (t : Str) : Prop where
  o : ∃ o dx od ents n vs, h.get? e = some o ∧ o.cls = .ref (S.cls u) ∧ o.data = .fields vs ∧ o.dict = some dx ∧ h.get? dx = some od ∧ od.data = .dict ents n ∧ EntsAre [] h ents.toList [("row", .int 0), ("text", .str t)]
theorem told_get {attr : Str} {Q : Value → Shared → Prop} (H : ExcT S K) (T : Told S K s.heap x u t) (hs : S.B.StaysIn s.heap) (hf : attr = "row" ∨ attr = "text") (hl : ([("row", .int 0), ("text", .str t)] : List (Str × PyData)).lookup attr = some d) (k : ∀ r, DataIn [] s.heap r d → Q r { s with toks := s.toks + 1 }) :
    wpAny S.M A' (getAttr (.ref x) attr true) Q E s := by
  refine byC fun hnC2 => ?_
  obtain ⟨o, dx, od, ents, n, vs, g1, g2, g3, g4, g5, g6, g7⟩ := T.o
  obtain ⟨fI, body, sc', _, _, _, EC, _⟩ := H.toExcS.of u
  obtain ⟨r, hr, D⟩ := look_ents g6 g7 hl
  refine hnC2 ?_
  refine exc_get (H.X.keeps hs) EC (by cases u with | false => exact H.gA | true => exact H.gU) (od := od) ⟨g1, g2, by unfold notCls; rw [g3], by rw [g4]; exact g5⟩ (hf.elim (fun q => by rw [q]; exact EC.row) fun q => by rw [q]; exact EC.text) hr (data_handed D) (k r D)
end
end
section
variable [Pm]

section
variable {prog : Program} {w : World} {A : Around} {E : Value → Shared → Prop} {R : Result → Shared → Prop} {s : Shared} {K : Frag} {C x fI : Addr} {bm : List Value} {ox : Obj} {od : Obj} {name : Str} {tk : Tok} {v : Value}

theorem exc_cls {Q : Option Value → Shared → Prop} (X : K.In s.heap) (EC : ExcC K C bm fI) (hga : findIn K (.ref C) "__getattribute__" = some (some (.builtin "BaseException.__getattribute__"))) (I : InstAt s.heap x ox C (some od))
    (ha : findIn K (.ref C) "__class__" = some (some (.builtin "object.__class__"))) (hn : specialIn K (.builtin "object.__class__") "__get__" = some (some (.builtin "getset_descriptor.__get__"))) (htk : takesIn K (.builtin "object.__class__") = some true) (hm : mroIn K C (.type "object") = some true)
    (h : Q (some (.ref C)) { s with toks := s.toks + 1 }) : wpAny (model prog w) A (getAttr? (.ref x) "__class__") Q E s := by
  refine byC fun hnC1 => ?_
  obtain ⟨cd, hc, hm0, hd⟩ := EC.cls
  refine hnC1 ?_
  have hfo : findObj K C (some od) "__class__" = some (.bind (.builtin "getset_descriptor.__get__") (.builtin "object.__class__")) := findObj_data (by rw [hc]; rfl) ha hn htk
  refine byC fun hnC2 => ?_
  obtain ⟨hp, g, d, t, os⟩ := s
  refine hnC2 ?_
  have L0 := I.type (M := model prog w)
  have L1 := looks_findIn (M := model prog w) X hga
  have L2 := looks_find (M := model prog w) X I hfo
  have L3 : Looks (model prog w) hp (hookBefore (.ref C)) none := looks_hook X (by rw [if_pos (by rfl)]; exact EC.gt)
  have sub : Looks (model prog w) hp (isInstance (.ref x) (.type "BaseException")) true := I.type.andThen (looks_mroIn X (by unfold mroIn; rw [hc, Option.bind_some, if_neg (by rw [hm0]; intro q; cases q), hm0, List.contains_cons, EC.b, Bool.or_true]))
  have hx2 : (onTheHeap (Value.ref C) && Value.builtin "BaseException.__getattribute__" == Value.builtin "object.__getattribute__") = false := by
    rw [show (Value.builtin "BaseException.__getattribute__" == Value.builtin "object.__getattribute__") = false from by decide +kernel]; rfl
  have f3 := bexc_bind (.ref x)
  unfold getAttr? getAttrBy? getAttrBy
  refine wpAny_bind (wpAny_mkText (wpAny_bind (wpAny_attempt (wpAny_holding (wpAny_bind (L0.at (wpAny_bind (L1.at ?_))))))))
  dsimp only
  rw [hx2, if_neg (by decide)]
  unfold getAttrByItsOwn
  refine wpAny_bind (L3.at (wpAny_bind (wpAny_attempt (wpAny_holding ?_))))
  unfold callGetattribute
  repeat (any_goals (first | assumption | wp_step))
  refine codeAny_call_builtin bexc_plain PySem.F.entry_bexc_ga (@check_slot (model prog w) _ _ ⟨hp, g, d, t + 1, os⟩ "BaseException.__getattribute__" "BaseException" "__getattribute__" (.ref x) [.str "__class__" t] [] _ bexc_kind bexc_split sub (PySem.F.args_bexc_ga _ _) ?_)
  unfold Builtin.«object.__getattribute__»
  repeat (any_goals (first | assumption | with_reducible refine Looks.at L0 ?_ | with_reducible refine Looks.at L2 ?_ | wp_step))
  refine class_get (s := ⟨hp, g, d, t + 1, os⟩) X I hm ?_
  refine wpAny_pure ?_
  show wpAny _ _ (handedOut (.ref C)) _ _ _
  exact wpAny_pure (wpAny_pure h)

structure ClsA (K : Frag) (C : Addr) : Prop where
  ha : findIn K (.ref C) "__class__" = some (some (.builtin "object.__class__"))
  hn : specialIn K (.builtin "object.__class__") "__get__" = some (some (.builtin "getset_descriptor.__get__"))
  htk : takesIn K (.builtin "object.__class__") = some true
  hm : mroIn K C (.type "object") = some true

theorem exc_isnt {D : Addr} {Q : Value → Shared → Prop} (X : K.In s.heap) (EC : ExcC K C bm fI) (hga : findIn K (.ref C) "__getattribute__" = some (some (.builtin "BaseException.__getattribute__"))) (I : InstAt s.heap x ox C (some od)) (ca : ClsA K C)
    (hne : C ≠ D) (hty : typeIn K (.ref D) = some (.type "type")) (hcD : (clsIn K D).isSome = true) (hsub : mroIn K C (.ref D) = some false) (h : Q (.bool false) { s with toks := s.toks + 1 }) : wpAny (model prog w) A (PySem.call (.builtin "isinstance") [.ref x, .ref D]) Q E s := by
  have isTy : ∀ {M : Model} {h : Heap} {a : Addr}, K.In h → (clsIn K a).isSome = true → Looks M h (PySem.isType (.ref a)) true := fun {M h a} X q => by
    obtain ⟨cd, q⟩ := Option.isSome_iff_exists.mp q
    unfold clsIn at q
    split at q
    · rename_i ho
      intro A' Q' E' s' k q
      unfold PySem.isType loadHead
      exact wpAny_bind (wpAny_loadPart (k _ _ (X _ _ ho)) (wpAny_pure q))
    · cases q
  have hcC : (clsIn K C).isSome = true := by obtain ⟨cd, hc, _⟩ := EC.cls; rw [hc]; rfl
  refine call_isinstance_of ?_ (by intro q; cases q)
  refine byC fun hnC3 => ?_
  obtain ⟨hp, g, d, t, os⟩ := s
  refine hnC3 ?_
  have L0 := I.type (M := model prog w)
  have L1 := looks_typeIn (M := model prog w) X hty
  have L2 := isTy (M := model prog w) X hcD
  have L3 := isTy (M := model prog w) X hcC
  have L4 := looks_mroIn (M := model prog w) X hsub
  have L5 : Looks (model prog w) hp (isInstance (.ref x) (.ref D)) false := L0.andThen L4
  have hne' : (Value.ref C == Value.ref D) = false := by rw [beq_eq_false_iff_ne]; intro q; cases q; exact hne rfl
  unfold Builtin.«isinstance.nested»
  refine wpAny_bind (L0.at ?_)
  rw [if_neg (fun q => by rw [hne'] at q; exact Bool.noConfusion q)]
  refine wpAny_bind (L1.at ?_)
  rw [if_pos (by decide)]
  k_delta "plainIsInstance"
  refine wpAny_bind (wpAny_bind (L2.at ?_))
  simp only [Bool.not_true, Bool.false_eq_true, if_false]
  refine wpAny_bind (L5.at ?_)
  simp only [Bool.false_eq_true, if_false]
  refine wpAny_bind (exc_cls (s := ⟨hp, g, d, t, os⟩) X EC hga I ca.ha ca.hn ca.htk ca.hm ?_)
  refine wpAny_bind (L3.at ?_)
  simp only [Bool.not_true, Bool.false_eq_true, if_false]
  refine wpAny_bind (wpAny_rule ?_)
  refine L4.at ?_
  first
    | exact wpAny_pure h
    | exact wpAny_pure (wpAny_pure h)
    | exact wpAny_bind (wpAny_pure (wpAny_pure h))
end
end
section
variable [Pm]

structure ExcU (S : St) (K : Frag) : Prop extends ExcT S K where
  ca : ClsA K S.cA
  ne : S.cA ≠ S.cU
  tyV : typeIn K (.ref S.cU) = some (.type "type")
  clV : (clsIn K S.cU).isSome = true

section
variable {S : St} {b : Nat} {sc : Scope} {δ δ' : List (Str × PyData)} {μ μ' : List (Str × Mut)} {e : Expr} {es : List Expr} {pos p np cp cpos hp : Pos} {d : PyData} {u c : Bool} {t : Str} {n cn en un : Str} {K : Frag} {st : Stmt} {body orelse : List Stmt}
  {A A' : Around} {env : Env} {Fs : List Addr} {h₀ h₁ : Heap} {nr : Nat} {Xr Y₀ Y : List Addr} {Xs : List (List Addr)} {s : Shared} {E : Value → Shared → Prop} {Q : Flow → Shared → Prop} {x : Addr} {so : SO}

theorem told_isa (H : ExcU S K) (T : Told S K s.heap x u t) (hs : S.B.StaysIn s.heap) {Q : Value → Shared → Prop} (k : ∀ tk, Q (.bool u) { s with toks := tk }) : wpAny S.M A' (PySem.call (.builtin "isinstance") [.ref x, .ref S.cU]) Q E s := by
  refine byC fun hnC1 => ?_
  obtain ⟨o, dx, od, ents, n, vs, g1, g2, g3, g4, g5, g6, g7⟩ := T.o
  refine hnC1 ?_
  have XK := H.X.keeps hs
  cases u with
  | true =>
    refine isi_call (t := .ref S.cU) XK (fun M => g2 ▸ (Looks.ld g1).andThen .now) (by unfold isIn; rw [beq_self_eq_true]; rfl) (by intro q; cases q) ?_
    exact k s.toks
  | false =>
    refine byC fun hnC2 => ?_
    obtain ⟨fI, body, sc', _, _, _, EC, _⟩ := H.toExcS.of false
    refine hnC2 ?_
    exact exc_isnt (C := S.cA) XK EC H.gA (od := od) ⟨g1, g2, by unfold notCls; rw [g3], by rw [g4]; exact g5⟩ H.ca H.ne H.tyV H.clV H.mAU (k _)

/-- except C as e: return (e.text, isinstance(e, Unknown), e.row) -/
theorem EvS.tryTell {p1 p2 p3 p4 p5 p6 p7 p8 p9 p10 : Pos} {k : Nat} (O : S.Ok) (H : ExcU S K) (hb : Raises S b sc δ st u t) (hm : S.mg cn = some (.ref (S.cls c))) (hk : sc.names.lookup cn = some .globalImplicit) (hc : caught u c = true) (hen : sc.names.lookup en = some .local)
    (hmi : S.mg "isinstance" = none) (hbi : S.mb "isinstance" = some (.builtin "isinstance")) (hki : sc.names.lookup ("isinstance" : Str) = some .globalImplicit) (hmu : S.mg un = some (.ref S.cU)) (hku : sc.names.lookup un = some .globalImplicit)
    (hd : (cn == ("__debug__" : Str)) = false := by decide) (hd1 : (en == ("__debug__" : Str)) = false := by decide) (hd2 : (un == ("__debug__" : Str)) = false := by decide)
    (hr : ∀ env, eval (.Attribute (.Name en p1) "text" p2) env = (do let o ← eval (.Name en p1) env; standAt p2.atName; let r ← holding [o] (getAttr o "text" true); letTemporaryGo (.Name en p1) o r; pure r) := by intro _; with_unfolding_all rfl)
    (hr' : ∀ env, eval (.Attribute (.Name en p7) "row" p8) env = (do let o ← eval (.Name en p7) env; standAt p8.atName; let r ← holding [o] (getAttr o "row" true); letTemporaryGo (.Name en p7) o r; pure r) := by intro _; with_unfolding_all rfl) :
    EvS S b sc δ [] (.Try [st] [.ExceptHandler (some (.Name cn np)) (some en) [.Return (some (.Tuple [.Attribute (.Name en p1) "text" p2, .Call (.Name "isinstance" p3) [.Name en p4, .Name un p5] [] p6, .Attribute (.Name en p7) "row" p8] k p9)) p10] hp] orelse [] pos) (.ret (.tuple [.str t, .bool u, .int 0]) []) := by
  with_unfolding_all
  intro A env Fs h₀ nr Xr Y₀ Y Xs s R E P Kk
  have hXs : Xs = [] := by match Xs, P.pre.muts with | [], _ => rfl
  subst hXs
  refine try_core hb P.pre fun e h' tk P' x X => ?_
  refine clause O H.toExcT P' hm hk X (fun _ => ?_) (fun q => by rw [hc] at q; cases q) hd
  refine codeAny_handlers_suite_as ?_
  refine exc_flight (s := { s with heap := h', toks := tk }) (Fs := Fs) none X P.pre.stat fun h₂ st₂ X₂ => ?_
  have x₂ := st₂.sim x
  have P₂ := P.next (tk := tk) (μ' := []) x₂ trivial
  obtain ⟨m, N⟩ := P₂.pre.loc.ns
  have hl : env.kindOf en = some .local := by unfold Env.kindOf; rw [P.pre.sco]; exact hen
  have hnm : (env.scope.kind == .class || (env.scope.kind == .module && env.locals != env.globals)) = false := by rw [P.pre.sk]; rfl
  refine wpAny_storeName_local hl N (fun h₃ N₃ hs₃ => ?_) hnm
  have hbL : S.B.get? env.locals = none := P.pre.yB _ P.pre.locY.1
  have x₃ : Sim S.B Fs [env.locals] h₂ h₃ := sim_local N N₃ hs₃ hbL
  have T₃ : Told S K h₃ e u t := by
    have al : ∃ o, s.heap.get? env.locals = some o := P.pre.alloc _ P.pre.locY.1
    refine byC fun hnC3 => ?_
    obtain ⟨ol, el⟩ := al
    obtain ⟨o, vs, dx, od, ents, n, g1, g2, g3, g4, g5, g6, g7, g8, g9, g10, g11, _⟩ := X₂
    refine hnC3 ?_
    have ne : ∀ {a : Addr}, s.heap.get? a = none → a ≠ env.locals := fun q z => by rw [z, el] at q; cases q
    exact ⟨o, dx, od, ents, n, vs, (hs₃.2 e (ne g6)).trans g1, by cases u <;> exact g2, g3, g5, (hs₃.2 dx (ne g7)).trans g8, g10, ents_rt g11⟩
  have sB₃ : S.B.StaysIn h₃ := x₃.st (x₂.st P.pre.stat)
  have P₃ := P₂.pre.lost (tk := tk + 1) x₃ N₃
  have hHe : Holds h₃ env en (.ref e) := .inl ⟨hl, _, N₃, by simp⟩
  refine wpAny_execs_cons (wpAny_Return_some (wpAny_Tuple ?_))
  have hstar : noStar [.Attribute (.Name en p1) "text" p2, .Call (.Name "isinstance" p3) [.Name en p4, .Name un p5] [] p6, .Attribute (.Name en p7) "row" p8] := by intro _; rfl
  rw [hstar env]
  refine spliced_WEs ?_
  have P₃' : ∀ tk', Pre S b sc A env Fs h₀ Xr Y [] [] [] { s with heap := h₃, toks := tk' } := fun tk' => P₂.pre.lost (tk := tk') x₃ N₃
  refine Attribute_Name_ (wpAny_Name (load_holds P.pre.sk hHe ?_) hd1) (hr env)
  refine told_get (s := { s with heap := h₃, toks := _ }) H.toExcT T₃ sB₃ (.inr rfl) (d := .str t) (by rfl) fun r Dr => ?_
  obtain ⟨t1, rfl⟩ := Dr.str
  refine wpAny_Call_Name_kw (builtin_any O (P₃' _) hmi hbi hki ?_)
  have hst2 : noStar [.Name en p4, .Name un p5] := by intro _; rfl
  refine callWith_builtin1 ?_ (noStar_head hst2 env)
  rw [hst2 env]
  refine spliced_WEs ?_
  refine wpAny_Name (load_holds P.pre.sk hHe ?_) hd1
  refine glob_any O (P₃' _) hmu hku ?_ hd2
  refine told_isa (s := { s with heap := h₃, toks := _ }) H T₃ sB₃ fun tk₄ => ?_
  refine Attribute_Name_ (wpAny_Name (load_holds P.pre.sk hHe ?_) hd1) (hr' env)
  refine told_get (s := { s with heap := h₃, toks := _ }) H.toExcT T₃ sB₃ (.inl rfl) (d := .int 0) (by rfl) fun r Dr => ?_
  obtain ⟨t2, rfl⟩ := Dr.int
  refine ⟨show 3 ≤ sizeLine from by decide, ?_⟩
  have pu : ∀ b o', h₃.get? b = some o' → (h₃.push { cls := .type "tuple", data := .seq [Value.str t t1, .bool u, .int 0 t2].toArray }).get? b = some o' := fun b o' e => Heap.get?_push_of_some _ e
  have N₄ := ns_but (x := h₃.objs.size) N₃ (by obtain ⟨o, _, _, e, _⟩ := N₃; exact Nat.ne_of_lt (Heap.lt_size e)) (fun b o _ e => pu b o e)
  refine wpAny_nameGoes hl N₄ hnm fun h₅ m₅ N₅ hs₅ => ?_
  have x₅ : Sim S.B Fs [env.locals] _ h₅ := sim_local N₄ N₅ hs₅ hbL
  have xt : Sim S.B Fs [env.locals] h₂ h₅ := (x₃.trans (X' := []) (.of_keeps pu) fun _ q => nomatch q).trans x₅ fun a q => .inl q
  refine Kk _ h₅ _ [] Y [] ⟨P₂.pre.lost xt N₅, P.xr, P.y0⟩ ?_
  have r : Reads (h₃.push { cls := .type "tuple", data := .seq [Value.str t t1, .bool u, .int 0 t2].toArray }) (.ref h₃.objs.size) (.tuple [.str t, .bool u, .int 0]) [] :=
    .tuple (Heap.get?_push_size _ rfl) rfl rfl (.cons (.str t t1) (.cons (.bool u) (.cons (.int 0 t2) .nil)))
  exact ⟨[], reads_sim x₅ r (fun _ q => nomatch q), (fun _ q => nomatch q)⟩
end
end
section
variable [Pm]

/-! dicts whose keys are strs -/
section
variable {S : St} {b : Nat} {sc : Scope} {δ : List (Str × PyData)} {μ μ₁ μ' : List (Str × Mut)} {e l r o value slice : Expr} {es : List Expr} {pos p np apos : Pos} {d x y z : PyData} {kvs : List (PyData × PyData)} {u : Bool} {t : Str} {ds : List PyData} {i j : Int} {a c n : Str} {Y : List Addr} {h : Heap}

theorem kvs_are (O : S.Ok) : ∀ {es : List DictEntry} {kvs : List (PyData × PyData)}, KvsAre es kvs → ∃ ks : List (Str × Value), (∀ e ∈ es, ∃ k, (strKind S.prog S.w).is k e.key = true ∧ e.hash = (strKind S.prog S.w).hash k) ∧ Pairs (strKind S.prog S.w) es ks ∧ PyProof.V.FlatPairs PyData.str ks kvs ∧ kvs.map (·.1) = ks.map fun p => PyData.str p.1
  | _, _, .nil => ⟨[], fun _ q => (List.not_mem_nil q).elim, .nil, .nil, rfl⟩
  | _, _, .cons (x := x) (t := t) (v := v) f q => by
    refine byC fun hnC1 => ?_
    obtain ⟨ks, h1, h2, h3, h4⟩ := kvs_are O q
    refine hnC1 ?_
    refine ⟨(x, v) :: ks, fun e m => ?_, .cons (strKind_is S.prog S.w x t) rfl h2, .cons f h3, by rw [List.map_cons, List.map_cons, h4]⟩
    rcases List.mem_cons.mp m with rfl | m
    · exact ⟨x, strKind_is S.prog S.w x t, by show PyData.keyHash Pm.p x = PyData.keyHash S.w.params x; rw [O.hp]⟩
    · exact h1 e m
theorem of_kvs (O : S.Ok) {es : List DictEntry} {ks : List (Str × Value)} (h2 : Pairs (strKind S.prog S.w) es ks) : ∀ {kvs : List (PyData × PyData)}, (∀ e ∈ es, ∃ k, (strKind S.prog S.w).is k e.key = true ∧ e.hash = (strKind S.prog S.w).hash k) → PyProof.V.FlatPairs PyData.str ks kvs → KvsAre es kvs ∧ kvs.map (·.1) = ks.map fun p => PyData.str p.1 := by
  induction h2 with
  | nil => intro kvs _ h3; cases h3; exact ⟨.nil, rfl⟩
  | cons a b r ih =>
    rename_i e kv es ks
    intro kvs h1 h3
    cases h3 with
    | cons f h3 =>
      refine byC fun hnC2 => ?_
      obtain ⟨q1, q2⟩ := ih (fun e' m => h1 e' (.tail _ m)) h3
      obtain ⟨hs, key, v⟩ := e
      obtain ⟨k, g1, g2⟩ := h1 _ (.head _)
      obtain ⟨t, e1⟩ := Value.isStrOf_shape a
      obtain ⟨t', e2⟩ := Value.isStrOf_shape g1
      refine hnC2 ?_
      simp only at e1 e2 b g2
      subst e1 b
      cases e2
      subst g2
      refine ⟨?_, by rw [List.map_cons, List.map_cons, q2]⟩
      show KvsAre (⟨PyData.keyHash S.w.params _, _, _⟩ :: _) _
      rw [O.hp]
      exact .cons f q1
theorem DataIn.tab (O : S.Ok) {v : Value} (D : DataIn Y h v (.dict kvs)) : ∃ a, v = .ref a ∧ StrTab S.prog S.w h a kvs ∧ a ∉ Y := by
  obtain ⟨as, r, ha⟩ := D
  cases r with
  | dict e h1 h2 h3 =>
    refine byC fun hnC3 => ?_
    obtain ⟨ks, g1, g2, g3, g4⟩ := kvs_are O h2
    refine hnC3 ?_
    refine ⟨_, rfl, ⟨h1, ks, ⟨_, _, _, e, ⟨rfl, rfl, rfl⟩, rfl, fun e m => g1 e (Array.mem_toList_iff.mpr m), g2, ?_⟩, g3⟩, ha _ (.head _)⟩
    rw [g4] at h3
    have : (ks.map fun p => PyData.str p.1) = (ks.map (·.1)).map PyData.str := by rw [List.map_map]; rfl
    rw [this] at h3
    exact h3.of_map _ fun a b q e => q (by rw [e])
theorem DataIn.ofFlat {v : Value} (f : PyProof.V.Flat v d) : DataIn Y h v d := ⟨[], flat_reads f, fun _ q => (List.not_mem_nil q).elim⟩
theorem DataIn.ofTab (O : S.Ok) {a : Addr} {o : Obj} {h₀ : Heap} (hs : S.B.StaysIn h₀) (hn : h₀.get? a = Option.none) (ho : h.get? a = some o) (T : TabObj (strKind S.prog S.w) PyData.str kvs o) (hY : a ∉ Y) : DataIn Y h (.ref a) (.dict kvs) := by
  refine byC fun hnC4 => ?_
  obtain ⟨ks, ⟨es, ep, ⟨c1, c2, c3⟩, c4, c5, c6, c7⟩, g⟩ := T
  obtain ⟨oc, od, oda, os⟩ := o
  refine hnC4 ?_
  simp only at c1 c2 c3 c4
  subst c1 c2 c3 c4
  obtain ⟨q1, q2⟩ := of_kvs O c6 (fun e m => c5 e (Array.mem_toList_iff.mp m)) g
  refine ⟨[a], .dict ho ?_ q1 ?_, fun b hb => by cases List.mem_singleton.mp hb; exact hY⟩
  · cases q : a == sysModules with
    | false => rfl
    | true =>
      obtain ⟨o', e'⟩ := O.sm
      rw [← eq_of_beq q] at e'
      rw [hs _ _ e'] at hn; cases hn
  · rw [q2]
    have : (ks.map fun p => PyData.str p.1) = (ks.map (·.1)).map PyData.str := by rw [List.map_map]; rfl
    rw [this]
    exact List.Pairwise.map _ (fun a b q e => q (PyData.str.inj e)) c7

theorem prim_dget1 (O : S.Ok) : Prim S (fun vs => PySem.call (.builtin "dict.get") vs) [.dict kvs, .str a] ((lookup (.str a) kvs).getD .none) := by
  with_unfolding_all
  intro A Y vs R E s hh hu hst hY D k
  refine byC fun hnC5 => ?_
  obtain ⟨v, w, rfl, p, q⟩ := datas2 D
  obtain ⟨t, rfl⟩ := q.str
  obtain ⟨ad, rfl, T, _⟩ := p.tab O
  refine hnC5 ?_
  exact call_get1_strTab T fun v f => k v s.heap _ keepsSame (DataIn.ofFlat f)
theorem prim_dget2 (O : S.Ok) : Prim S (fun vs => PySem.call (.builtin "dict.get") vs) [.dict kvs, .str a, .str c] ((lookup (.str a) kvs).getD (.str c)) := by
  with_unfolding_all
  intro A Y vs R E s hh hu hst hY D k
  refine byC fun hnC6 => ?_
  obtain ⟨v, w, z, rfl, p, q, q'⟩ := datas3 D
  obtain ⟨t, rfl⟩ := q.str
  obtain ⟨t', rfl⟩ := q'.str
  obtain ⟨ad, rfl, T, _⟩ := p.tab O
  refine hnC6 ?_
  exact call_get2_strTab T (PyProof.V.Flat.str c t') fun v f => k v s.heap _ keepsSame (DataIn.ofFlat f)
theorem prim_nind (O : S.Ok) : Prim S (two (compareOp .NotIn)) [.str a, .dict kvs] (.bool (!(lookup (.str a) kvs).isSome)) := by
  with_unfolding_all
  intro A Y vs R E s hh hu hst hY D k
  refine byC fun hnC8 => ?_
  obtain ⟨v, w, rfl, q, p⟩ := datas2 D
  obtain ⟨t, rfl⟩ := q.str
  obtain ⟨ad, rfl, T, _⟩ := p.tab O
  refine hnC8 ?_
  exact notin_strTab T (k _ s.heap _ keepsSame dataBool)
theorem prim_dAt (O : S.Ok) (hl : lookup (.str a) kvs = some d) (hs : plainSlice slice := by intro _ _; rfl) (hg : ∀ o r, letTemporaryGo value o r = pure () := by intro _ _; rfl) : Prim S (two (subscriptTail value slice)) [.dict kvs, .str a] d := by
  with_unfolding_all
  intro A Y vs R E s hh hu hst hY D k
  refine byC fun hnC9 => ?_
  obtain ⟨v, w, rfl, p, q⟩ := datas2 D
  obtain ⟨t, rfl⟩ := q.str
  obtain ⟨ad, rfl, T, _⟩ := p.tab O
  refine hnC9 ?_
  exact item_strTab T hl (fun v f => k v s.heap _ keepsSame (DataIn.ofFlat f)) (hs _ _) (hg _)

theorem EvE.dget {pl : Env → Sem Bool} (O : S.Ok) (ho : EvE S b sc δ μ o (.ok (.dict kvs)) μ₁) (h : EvEs S b sc δ μ₁ (e :: es) (.ok ds) μ') (p : Prim S (fun vs => PySem.call (.builtin "dict.get") vs) (.dict kvs :: ds) d)
    (he : ∀ env, eval (.Call (.Attribute o "get" apos) (e :: es) [] pos) env = (do
      let ov ← eval o env
      standAt apos.atName
      let (f, first) ← holding [ov] (getMethod ov "get" (pl env))
      callWith pos f first (backTo pos (starEach (e :: es) env)) []) := by intro _; rfl)
    (hs : noStar (e :: es) := by intro _; rfl) (hpl : ∀ env, (backTo pos (starEach es env)).any (·.1) = false := by intro _; rfl) : EvE S b sc δ μ (.Call (.Attribute o "get" apos) (e :: es) [] pos) (.ok d) μ' := by
  with_unfolding_all
  intro A env Fs h₀ Xr Y Xs s R E P K
  refine MethodCall_ (ho A env Fs h₀ Xr Y Xs s _ E P fun ov h₁ tk x m D => ?_) (he env)
  refine byC fun hnC10 => ?_
  obtain ⟨ad, rfl, T, _⟩ := D.tab O
  refine hnC10 ?_
  refine getMethod_strTab_get T ?_
  have P₁ := P.next (tk := tk) x m
  refine callWith_method1 ?_ (noStar_head hs env) (hpl env)
  rw [hs env]
  refine spliced_WEs (h A env Fs h₀ Xr Y Xs _ (fun vs s' => wpAny S.M A (PySem.call (.builtin "dict.get") ([Value.ref ad] ++ vs)) R E s') E P₁ fun vs h₂ tk₂ x₂ m₂ D₂ => ?_)
  exact prim_use (vs := .ref ad :: vs) p P₁ (K.seq (tk := tk) x) x₂ m₂ ⟨D.sim x₂ (fun a q => .inl (P₁.sepY a q)) , D₂⟩

theorem EvE.dict {keys : List (Option Expr)} {values : List Expr} (O : S.Ok) (hD : litPairs keys values = some kvs) (hs : strKeyed kvs = true) (hn : (strKeysOf kvs).Nodup) (h0 : keys ≠ []) (hall : keys.all (·.isSome) = true := by rfl) (hl : keys.length = values.length := by rfl) (hlen : keys.length ≤ 15 := by decide) :
    EvE S b sc δ μ (.Dict keys values pos) (.ok (.dict kvs)) μ := by
  with_unfolding_all
  intro A env Fs h₀ Xr Y Xs s R E P K
  refine Dict_lits_str hD hs hn hall hl h0 hlen fun a o h₁ tk ha ho T kk => ?_
  have hn : s.heap.get? a = none := by
    cases q : s.heap.get? a with
    | none => rfl
    | some o => exact absurd (Heap.lt_size q) (Nat.not_lt.mpr ha)
  refine K.keeps P kk (DataIn.ofTab O P.stat hn ho T fun hm => ?_)
  obtain ⟨o', e'⟩ := P.alloc a hm
  rw [hn] at e'; cases e'
theorem EvE.dict0 (O : S.Ok) : EvE S b sc δ μ (.Dict [] [] pos) (.ok (.dict [])) μ := by
  with_unfolding_all
  intro A env Fs h₀ Xr Y Xs s R E P K
  refine wpAny_Dict_empty ?_
  have hn : s.heap.get? s.heap.objs.size = none := by
    cases q : s.heap.get? s.heap.objs.size with
    | none => rfl
    | some o => exact absurd (Heap.lt_size q) (Nat.lt_irrefl _)
  refine K.keeps P (tk := s.toks) (fun b o' e => Heap.get?_push_of_some _ e) (DataIn.ofTab (o := { cls := .type "dict", data := .dict #[] }) O P.stat hn (Heap.get?_push_size _ rfl) ⟨[], ⟨#[], 0, ⟨rfl, rfl, rfl⟩, rfl, fun _ he => by simp at he, .nil, .nil⟩, .nil⟩ fun hm => ?_)
  obtain ⟨o', e'⟩ := P.alloc _ hm
  rw [hn] at e'; cases e'
end

/-! chained comparisons -/
section
variable {S : St} {b : Nat} {sc : Scope} {δ : List (Str × PyData)} {μ μ₁ μ₂ μ₃ μ' : List (Str × Mut)} {l m r : Expr} {pos : Pos} {x y z d : PyData} {c : Bool} {op₁ op₂ : CmpOp}

theorem EvE.chain (h₁ : EvEs S b sc δ μ [l, m] (.ok [x, y]) μ₁) (p₁ : Prim S (two (compareOp op₁)) [x, y] (.bool c)) (h₂ : if c then EvE S b sc δ μ₁ r (.ok z) μ' ∧ Prim S (two (compareOp op₂)) [y, z] d else d = .bool false ∧ μ' = μ₁)
    (hm : lastMarks [op₁, op₂] [m, r] = false := by with_unfolding_all rfl) : EvE S b sc δ μ (.Compare l [op₁, op₂] [m, r] pos) (.ok d) μ' := by
  with_unfolding_all
  intro A env Fs h₀ Xr Y Xs s R E P K
  refine Compare_chain ?_ hm
  have h := h₁ A env Fs h₀ Xr Y Xs s (fun vs s₂ => match vs with | [a, b] => wpAny S.M A (compareOp op₁ a b) (fun cv s₃ => wpAny S.M A (truthy cv) (fun t s₄ => if t then wpAny S.M A (compareChain pos b [op₂] [eval r env]) R E s₄ else R cv s₄) E s₃) E s₂ | _ => True) E P ?_
  · exact wpAny_mono h (fun a s₁ h₁ => chain_link (wpAny_mono h₁ (fun b s₂ h₂ => h₂) fun _ _ q => q)) fun _ _ q => q
  · intro vs h' tk xx mm D
    refine byC fun hnC11 => ?_
    obtain ⟨a, b, rfl, D₁, D₂⟩ := datas2 D
    refine hnC11 ?_
    have P₁ := P.next (tk := tk) xx mm
    refine p₁ A Y [a, b] _ E _ P.handled (by have := P.units; omega) P₁.stat P₁.alloc D fun v h'' tk' k D' => ?_
    rw [D'.bool]
    refine wpAny_truthy_bool ?_
    have x' : Sim S.B Fs Xs.flatten h' h'' := .of_keeps k
    have m' := P₁.muts.sim (X := []) (Fs := Fs) (B := S.B) (.of_keeps k) ⟨(fun h => nomatch h), (fun _ _ _ h => nomatch h)⟩ (fun _ h => nomatch h) (fun _ _ h => nomatch h)
    cases c with
    | false => obtain ⟨rfl, rfl⟩ := h₂; exact K _ _ _ (xx.trans x' fun a q => .inl q) m' dataBool
    | true =>
      have P₂ := P₁.next (tk := tk') x' m'
      refine chain_last (h₂.1 A env Fs h₀ Xr Y Xs _ (fun w s' => wpAny S.M A (two (compareOp op₂) [b, w]) R E s') E P₂ fun w h₃ tk₃ x₃ m₃ D₃ => ?_)
      exact prim_use h₂.2 P₂ (K.seq (tk := tk') (xx.trans x' fun a q => .inl q)) x₃ m₃ ⟨(D₂.sim x' fun a q => .inl (P.sepY a q)).sim x₃ fun a q => .inl (P.sepY a q), D₃, trivial⟩
end
end
section
variable [Pm]

section
variable {S : St} {b : Nat} {sc : Scope} {δ δ' : List (Str × PyData)} {μ μ₁ μ' : List (Str × Mut)} {e target iter value slice : Expr} {es elts : List Expr} {pos p np tpos apos : Pos} {d x y : PyData} {u : Bool} {t : Str} {ds : List PyData} {n a : Str} {i j : Int}

theorem prim_strNeg (h0 : i < 0) (h1 : -(a.length : Int) ≤ i) (hf : -(2 ^ 62 : Int) < i) (hs : plainSlice slice := by intro _ _; rfl) : Prim S (two (subscriptTail value slice)) [.str a, .int i] (.str (Txt.item a i)) := by
  with_unfolding_all
  intro A Y vs R E s hh hu hst hY D k
  refine byC fun hnC1 => ?_
  obtain ⟨v, w, rfl, p, q⟩ := datas2 D
  obtain ⟨t, rfl⟩ := p.str; obtain ⟨t', rfl⟩ := q.int
  obtain ⟨T, id, hl, hT, hg⟩ := SB.item (prog := S.prog) (w := S.w) (A := A) (E := E) (s := s) (t := t) (u := t') (x := a) (i := i) (Q := R) (by simp [fitsSsize]; omega) (charAt_isSome h1 (by omega)) (k _ s.heap _ keepsSame dataStr)
  refine hnC1 ?_
  exact tail_any hT hl hg (hs _ _)
/-! a list of tuples that are unpacked -/
theorem EvI.listT {k : Nat} (h : EvE S b sc δ μ iter (.ok (.list ds)) μ') : EvI S b sc δ μ (.Tuple elts k tpos) iter (.ok ds) μ' := by
  with_unfolding_all
  intro A env Fs h₀ Xr Y Xs s R E P K
  refine h A env Fs h₀ Xr Y Xs s _ E P fun v h' tk x m D => ?_
  refine byC fun hnC3 => ?_
  obtain ⟨l, items, rfl, hl, hd, hn⟩ := D.lst
  refine hnC3 ?_
  refine wpAny_pyIter_list hl ?_
  have pu : ∀ b o', h'.get? b = some o' → (h'.push { cls := .type "list_iterator", data := .fields #[.ref l, .int 0 0] }).get? b = some o' := fun b o' e => Heap.get?_push_of_some _ e
  have P' := P.next (tk := tk) x m
  exact K (.ref h'.objs.size) [h'.objs.size] (JList h'.objs.size) _ tk (x.trans (X' := Xs.flatten) (.of_keeps pu) fun a q => .inl q) (m.sim (X := []) (Fs := Fs) (B := S.B) (.of_keeps pu) ⟨(fun h => nomatch h), (fun _ _ _ h => nomatch h)⟩ (fun _ h => nomatch h) fun _ _ h => nomatch h)
    (fun y q => by cases List.mem_singleton.mp q; exact x.fresh (Heap.get?_none_of_le (Nat.le_refl _))) (iters_list fun s hs A E v Q hQ => by
      obtain ⟨l, i, hI⟩ := hs
      cases v with
      | ref T => exact wpAny_letOwnedTupleGo_listiter hI hQ
      | _ => exact wpAny_pure hQ) ⟨l, 0, items, ⟨_, Heap.get?_push_size _ rfl, rfl, rfl⟩, hl.push _, hn, by rw [List.drop_zero]; exact hd.push pu⟩

/-! enumerate -/
noncomputable def numbered : Nat → List PyData → List PyData
  | _, [] => []
  | i, d :: r => .tuple [.int i, d] :: numbered (i + 1) r
noncomputable def JEnum (e it : Addr) (Y : List Addr) (h : Heap) (ds : List PyData) : Prop := ∃ l i items old rest, IsEnum h e it ((i : Nat) : Int) old ∧ h.IsListIter it l i ∧ h.IsList l items ∧ l ∉ Y ∧ e ≠ it ∧ DatasIn Y h (items.toList.drop i) rest ∧ ds = numbered i rest
theorem iters_enum {e it : Addr} {k : Nat} : Iters S (.Tuple elts k tpos) (.ref e) [e, it] (JEnum e it) where
  get := by
    intro A Y E s d ds Q hh hy ⟨l, i, items, old, rest, he, hi, hl, hn, hne, D, hd⟩ K
    have hf : Fielded [e, it] s.heap := fun y q => by
      rcases List.mem_cons.mp q with rfl | q
      · exact ⟨_, _, he, rfl⟩
      · cases List.mem_singleton.mp q; obtain ⟨o, ho, _, hd⟩ := hi; exact ⟨o, _, ho, hd⟩
    match rest, hd with
    | d₁ :: rest, hd =>
      cases hd
      refine byC fun hnC4 => ?_
      obtain ⟨w, ws, e0, Dw, Ds⟩ := D.cons_inv
      obtain ⟨e1, e2⟩ := drop_cons e0
      refine hnC4 ?_
      refine wpAny_pyNext_enum_item he hi hl (by rw [← Array.getElem?_toList]; exact e1) hne fun h₁ he₁ hi₁ ht₁ hz₁ hk₁ => ?_
      refine ⟨_, rfl, wpAny_letOwnedTupleGo_enum he₁ fun h₂ he₂ hs₂ => ?_⟩
      have o : ExtOff [e, it] s.heap h₂ := fun a o hm ea => (hs₂.2 a fun q => hm (q ▸ .head _)).trans (hk₁ a o (fun q => hm (q ▸ .head _)) (fun q => hm (q ▸ .tail _ (.head _))) ea)
      have ht₂ : h₂.get? s.heap.objs.size = some { cls := .type "tuple", data := .seq #[.int i s.toks, w] } := (hs₂.2 _ (Nat.ne_of_gt (Heap.lt_size he))).trans ht₁
      refine K _ h₂ _ o ⟨l, i + 1, items, w, rest, he₂, hi₁.extBut hs₂.extBut (Ne.symm hne), isList_off o hf hl, hn, hne, ?_, rfl⟩ (DataIn.tuple ⟨_, ht₂, rfl, _, rfl⟩ ⟨dataInt, Dw.off hf o, trivial⟩)
      rw [e2]
      exact Ds.imp fun _ _ q => q.off hf o
  stop := by
    intro A Y E s Q hh ⟨l, i, items, old, rest, he, hi, hl, hn, hne, D, hd⟩ K
    match rest, hd with
    | [], _ =>
      have e := D.nil_inv
      rw [List.drop_eq_nil_iff, Array.length_toList] at e
      exact wpAny_pyNext_enum_end hh he hi hl (by rw [Array.getElem?_eq_none_iff]; exact e) fun h' x => K h' s.toks fun b o hm eb => x b o (fun q => hm (q ▸ .tail _ (.head _))) eb
  sim := by
    intro B Fs X Y h h' ds hy hF hX ⟨l, i, items, old, rest, he, ⟨o, ho, r1, r2⟩, ⟨ol, hol, r3, k, r4⟩, hn, hne, D, hd⟩ x
    refine byC fun hnC5 => ?_
    obtain ⟨sl, e1⟩ := x.at ho fun q => hy it (.tail _ (.head _)) (hX _ q)
    obtain ⟨sl', e'⟩ := x.at hol fun q => hn (hX _ q)
    refine hnC5 ?_
    exact ⟨l, i, items, old, rest, x.ex e _ he (fun q => hy e (.head _) (hF _ q)) (fun q => hy e (.head _) (hX _ q)), ⟨_, e1, r1, r2⟩, ⟨_, e', r3, k, r4⟩, hn, hne, D.imp fun _ _ q => q.sim x (fun a z => .inl (hX a z)) fun a z => .inl (hF a z), hd⟩
  grow := by
    intro Y Y' h ds hY ⟨l, i, items, old, rest, he, hi, hl, hn, hne, D, hd⟩
    refine ⟨l, i, items, old, rest, he, hi, hl, fun q => ?_, hne, D.imp fun _ _ q => q.grow hY, hd⟩
    rcases hY l q with z | z
    · exact hn z
    · obtain ⟨o, ho, _⟩ := hl; rw [z] at ho; cases ho
  fld := by
    intro Y h ds ⟨l, i, items, old, rest, he, ⟨o, ho, r1, r2⟩, _⟩ y q
    rcases List.mem_cons.mp q with rfl | q
    · exact ⟨_, _, he, rfl⟩
    · cases List.mem_singleton.mp q; exact ⟨o, _, ho, r2⟩
  self := fun A E s Y ds Q ⟨l, i, items, old, rest, he, _⟩ h => wpAny_pyIter_enum he h

/-- enumerate(x) -/
theorem EvI.enum {k : Nat} {en : Str} (O : S.Ok) (hn : S.mg en = none) (hb : S.mb en = some (.type "enumerate")) (hk : sc.names.lookup en = some .globalImplicit) (h : EvE S b sc δ μ e (.ok (.list ds)) μ')
    (hs : noStar [e] := by intro _; rfl) (hd : (en == ("__debug__" : Str)) = false := by decide) : EvI S b sc δ μ (.Tuple elts k tpos) (.Call (.Name en np) [e] [] pos) (.ok (numbered 0 ds)) μ' := by
  with_unfolding_all
  intro A env Fs h₀ Xr Y Xs s R E P K
  refine wpAny_Call_Name_kw (O.builtin P hn hb hk ?_ hd)
  refine callWith_type1 ?_ (noStar_head hs env)
  rw [hs env]
  refine spliced_WEs (es := [e]) (h A env Fs h₀ Xr Y Xs s _ E P fun v h' tk x m D => ?_)
  refine byC fun hnC6 => ?_
  obtain ⟨l, items, rfl, hl, hD, hnY⟩ := D.lst
  refine hnC6 ?_
  refine call_enumerate_list (s := { s with heap := h', toks := tk }) hl fun h₁ he hi hz kk => ?_
  refine wpAny_pyIter_enum he ?_
  have pu : ∀ b o', h'.get? b = some o' → h₁.get? b = some o' := kk
  exact K (.ref (h'.objs.size + 1)) [h'.objs.size + 1, h'.objs.size] (JEnum (h'.objs.size + 1) h'.objs.size) h₁ tk (x.trans (X' := Xs.flatten) (.of_keeps pu) fun a q => .inl q) (m.sim (X := []) (Fs := Fs) (B := S.B) (.of_keeps pu) ⟨(fun h => nomatch h), (fun _ _ _ h => nomatch h)⟩ (fun _ h => nomatch h) fun _ _ h => nomatch h)
    (fun y q => by
      rcases List.mem_cons.mp q with rfl | q
      · exact x.fresh (Heap.get?_none_of_le (Nat.le_succ _))
      · cases List.mem_singleton.mp q; exact x.fresh (Heap.get?_none_of_le (Nat.le_refl _))) iters_enum ⟨l, 0, items, .none, ds, he, hi, (let ⟨o, e, r⟩ := hl; ⟨o, pu _ _ e, r⟩), hnY, Nat.succ_ne_self _, by rw [List.drop_zero]; exact hD.push pu, rfl⟩

/-! range(n) -/
noncomputable def upFrom : Nat → Nat → List PyData
  | _, 0 => []
  | i, k + 1 => .int i :: upFrom (i + 1) k
noncomputable def JRange (I : Addr) (Y : List Addr) (h : Heap) (ds : List PyData) : Prop := ∃ i k : Nat, IsRangeIter h I (i : Int) (k : Int) 1 ∧ ds = upFrom i k
theorem iters_range {I : Addr} (hT : ∀ it v, letOwnedTupleGo target it v = pure ()) : Iters S target (.ref I) [I] (JRange I) where
  get := by
    intro A Y E s d ds Q hh hy ⟨i, k, hi, hd⟩ K
    match k, hd with
    | k + 1, hd =>
      cases hd
      refine wpAny_pyNext_range_item hi (by omega) fun h₁ hi₁ hs₁ => ?_
      exact ⟨_, rfl, wpAny_of_eq (hT _ _) (K _ h₁ _ (ExtOff.one hs₁.extBut) ⟨i + 1, k, by
        have e1 : (((i + 1 : Nat) : Int)) = (i : Int) + 1 := by omega
        have e2 : ((k : Nat) : Int) = ((k + 1 : Nat) : Int) - 1 := by omega
        rw [e1, e2]; exact hi₁, rfl⟩ dataInt)⟩
  stop := by
    intro A Y E s Q hh ⟨i, k, hi, hd⟩ K
    match k, hd with
    | 0, _ => exact wpAny_pyNext_range_end hh hi (by omega) fun h' x => K h' s.toks (ExtOff.one x)
  sim := by
    intro B Fs X Y h h' ds hy hF hX ⟨i, k, hi, hd⟩ x
    exact ⟨i, k, x.ex I _ hi (fun q => hy I (.head _) (hF _ q)) (fun q => hy I (.head _) (hX _ q)), hd⟩
  grow := fun Y Y' h ds hY q => q
  fld := by
    intro Y h ds ⟨i, k, hi, _⟩ y q
    cases List.mem_singleton.mp q; exact ⟨_, _, hi, rfl⟩
  self := fun A E s Y ds Q ⟨i, k, hi, _⟩ h => wpAny_pyIter_rangeiter hi h
theorem EvI.range {m : Nat} {rn : Str} (O : S.Ok) (hn : S.mg rn = none) (hb : S.mb rn = some (.type "range")) (hk : sc.names.lookup rn = some .globalImplicit) (h : EvE S b sc δ μ e (.ok (.int m)) μ') (hm : Builtin.Range.small 0 m 1 = true) (hz : Builtin.Range.rangeSize 0 m 1 = m)
    (hT : ∀ it v, letOwnedTupleGo target it v = pure () := by intro _ _; rfl) (hs : noStar [e] := by intro _; rfl) (hd : (rn == ("__debug__" : Str)) = false := by decide) : EvI S b sc δ μ target (.Call (.Name rn np) [e] [] pos) (.ok (upFrom 0 m)) μ' := by
  with_unfolding_all
  intro A env Fs h₀ Xr Y Xs s R E P K
  refine wpAny_Call_Name_kw (O.builtin P hn hb hk ?_ hd)
  refine callWith_type1 ?_ (noStar_head hs env)
  rw [hs env]
  refine spliced_WEs (es := [e]) (h A env Fs h₀ Xr Y Xs s _ E P fun v h' tk x mm D => ?_)
  obtain ⟨t, rfl⟩ := D.int
  refine call_range_1 (s := { s with heap := h', toks := tk }) ?_
  refine wpAny_pyIter_range (IsRange.new _ _ _ _ _ _ _) hm ?_
  have pu : ∀ b o', h'.get? b = some o' → ((h'.push { cls := .type "range", data := .fields #[.int 0 tk, .int m t, .int 1 (tk + 1)] }).push { cls := .type "range_iterator", data := .fields #[rawInt 0, rawInt (Builtin.Range.rangeSize 0 m 1), rawInt 1] }).get? b = some o' := fun b o' e => Heap.get?_push_of_some _ (Heap.get?_push_of_some _ e)
  refine K _ [_] (JRange _) _ _ (x.trans (X' := Xs.flatten) (.of_keeps pu) fun a q => .inl q) (mm.sim (X := []) (Fs := Fs) (B := S.B) (.of_keeps pu) ⟨(fun h => nomatch h), (fun _ _ _ h => nomatch h)⟩ (fun _ h => nomatch h) fun _ _ h => nomatch h)
    (fun y q => by cases List.mem_singleton.mp q; exact x.fresh (Heap.get?_none_of_le (by rw [Heap.size_push]; exact Nat.le_succ _))) (iters_range hT) ⟨0, m, ?_, rfl⟩
  rw [hz]
  exact Heap.get?_push_size _ rfl
end
end
section
variable [Pm]

section
variable {S : St} {b : Nat} {sc : Scope} {δ δ' : List (Str × PyData)} {μ μ₁ μ' μa μb : List (Str × Mut)} {e value slice : Expr} {es elts : List Expr} {pos p np tpos : Pos} {d x y : PyData} {u : Bool} {t : Str} {ds : List PyData} {n : Str} {i j : Int}

/-- an item of a list that may be turned -/
theorem EvE.mAt {k : Nat} (μa μb : List (Str × Mut)) (h : EvE S b sc δ (μa ++ (n, .list ds) :: μb) slice (.ok (.int i)) (μa ++ (n, .list ds) :: μb)) (hi : i = k) (hk : ds[k]? = some d) (hf : k < 2 ^ 62) (hd : (n == ("__debug__" : Str)) = false := by decide) (hs : plainSlice slice := by intro _ _; rfl) :
    EvE S b sc δ (μa ++ (n, .list ds) :: μb) (.Subscript (.Name n np) slice pos) (.ok d) (μa ++ (n, .list ds) :: μb) := by
  with_unfolding_all
  intro A env Fs h₀ Xr Y Xs s R E P K
  refine byC fun hnC1 => ?_
  obtain ⟨v, xs, sub, H, M, _⟩ := P.one
  refine hnC1 ?_
  refine Subscript_ (wpAny_Name (load_holds P.sk H ?_) hd)
  refine h A env Fs h₀ Xr Y Xs s _ E P fun w h' tk x m D => ?_
  obtain ⟨t, rfl⟩ := D.int
  have P' := P.next (tk := tk) x m
  refine byC fun hnC2 => ?_
  obtain ⟨v', xs', sub', H', M', _⟩ := P'.one
  refine hnC2 ?_
  have hv : v = v' := holds_same (H.sim x P.sepN) H'
  subst hv
  refine byC fun hnC3 => ?_
  obtain ⟨a, o, vs, nn, rfl, rfl, ho, hc, hdn, hdat, DD⟩ := M'
  refine hnC3 ?_
  have hl : h'.IsList a vs := ⟨o, ho, hc, nn, hdat⟩
  obtain ⟨z, hz, hZ⟩ := DD.get hk
  subst hi
  exact tail_any (s := { s with heap := h', toks := tk }) hl.typeIs list_getitem_lookup (wpAny_getItem_list (s := { s with heap := h', toks := tk }) hl (by omega) (by omega) (by rw [← Array.getElem?_toList]; simpa using hz) ((K.seq (tk := tk) x).keeps P' keepsSame hZ)) (hs _ _)

theorem setItem_plainL {M : Model} {A : Around} {E : Value → Shared → Prop} {s : Shared} {prog : Program} {w : World} {l : Addr} {items : Array Value} {j : Nat} {t : Tok} {v : Value} {Q : Unit → Shared → Prop} (hp : PlainL s.heap l items)
    (hfit : j < 2 ^ 62) (hj : j < items.size) (hQ : ∀ h', PlainL h' l (items.setIfInBounds j v) → Heap.SameBut l s.heap h' → Q () { s with heap := h' }) :
    wpAny (model prog w) A (setItem (.ref l) (.int j t) v) Q E s := by
  have hl := hp.isList
  refine byC fun hnC4 => ?_
  obtain ⟨o, ne, ho, hc, hdn, hd⟩ := hp
  obtain ⟨k, hk⟩ : ∃ k : Int, k = j := ⟨_, rfl⟩
  refine hnC4 ?_
  rw [← hk]
  unfold setItem
  try with_reducible refine wpAny_holding ?_
  first | refine wpAny_bind (wpAny_pure ?_) | skip
  refine wpAny_bind (wpAny_sequenceKey hl.typeIs (by decide) ?_)
  refine wpAny_bind (wpAny_callSpecial?_slot (name := Str.ofString "__setitem__") hl.typeIs slot_list_setitem
    (wpAny_call_entry slot_list_setitem hl.typeIs entry_list_setitem ?_ (args_list_setitem _ _ _)))
  show wpAny _ _ (Builtin.List.listSubscript? (.int k t) >>= _) _ _ s
  refine wpAny_bind (wpAny_listSubscript_int (fitsIndex_of (by omega) (by omega)) ?_)
  subst hk
  have hx' : items[j]? = some items[j] := Array.getElem?_eq_getElem hj
  show wpAny _ _ ((seqItemAt l j >>= fun r => pure (r.map (j, ·))) >>= _) _ _ s
  refine wpAny_bind (wpAny_bind (wpAny_seqItemAt ho hd (wpAny_pure ?_)))
  rw [hx']
  show wpAny _ _ (setSeqItemAt l j v >>= _) _ _ s
  obtain ⟨n', hd'⟩ := Obj.data_mapSeq hd (·.setIfInBounds j v)
  have hfin : PlainL (s.heap.update l (Obj.mapSeq (·.setIfInBounds j v))) l (items.setIfInBounds j v) :=
    ⟨_, n', Heap.get?_update_self _ ho (Obj.isFreed_of_seq hd'), (Obj.cls_mapSeq ..).trans hc, (by obtain ⟨c1, c2, c3, c4⟩ := o; simp only at hd hdn; subst hd; exact hdn), hd'⟩
  refine wpAny_bind (wpAny_setSeqItemAt ho hd ?_)
  first
    | exact wpAny_bind (wpAny_pure (wpAny_pure ⟨.none, rfl, wpAny_pure (hQ _ hfin (Heap.SameBut.update ..))⟩))
    | exact wpAny_pure ⟨.none, rfl, wpAny_pure (hQ _ hfin (Heap.SameBut.update ..))⟩

theorem DatasIn.set {Y : List Addr} {h : Heap} : ∀ {vs : List Value} {ds : List PyData} {v : Value} {d : PyData} (k : Nat), DatasIn Y h vs ds → DataIn Y h v d → DatasIn Y h (vs.set k v) (ds.set k d)
  | [], [], _, _, _, _, _ => trivial
  | _ :: _, _ :: _, _, _, 0, ⟨_, r⟩, D => ⟨D, r⟩
  | _ :: _, _ :: _, _, _, k + 1, ⟨a, r⟩, D => ⟨a, DatasIn.set k r D⟩
  | [], _ :: _, _, _, _, x, _ => x.elim
  | _ :: _, [], _, _, _, x, _ => x.elim

/-- x[i] += value -/
theorem EvS.mAug {k : Nat} {ik : Nat} {ip : Pos} {op : Operator} (μa μb : List (Str × Mut)) (hk : ds[k]? = some x) (hf : k < 2 ^ 62) (h : EvE S b sc δ (μa ++ (n, .list ds) :: μb) value (.ok y) (μa ++ (n, .list ds) :: μb)) (pr : Prim S (two (inplaceOp op)) [x, y] d)
    (hd : (n == ("__debug__" : Str)) = false := by decide) :
    EvS S b sc δ (μa ++ (n, .list ds) :: μb) (.AugAssign (.Subscript (.Name n np) (.Constant (.int k) ik ip) tpos) op value pos) (.next δ (μa ++ (n, .list (ds.set k d)) :: μb)) := by
  with_unfolding_all
  intro A env Fs h₀ nr Xr Y₀ Y Xs s R E P Kk
  refine byC fun hnC5 => ?_
  obtain ⟨v, xs, sub, nd, H, M, turn⟩ := P.pre.oneN
  obtain ⟨a, o, vs, nn, rfl, rfl, ho, hc, hdn, hdat, DD⟩ := M
  refine hnC5 ?_
  refine wpAny_AugAssign_SubscriptAny (wpAny_Name (load_holds P.pre.sk H (wpAny_Constant_int ?_)) hd)
  have hl : s.heap.IsList a vs := ⟨o, ho, hc, nn, hdat⟩
  obtain ⟨z, hz, hZ⟩ := DD.get hk
  have Pt : PreS S b sc A env Fs h₀ nr Xr Y₀ Y Xs δ (μa ++ (n, .list ds) :: μb) { s with toks := s.toks + 1 } := P.next (tk := s.toks + 1) (.refl ..) P.pre.muts
  refine wpAny_getItem_list (s := { s with toks := s.toks + 1 }) hl (by omega) (by omega) (x := z) (by rw [← Array.getElem?_toList]; simpa using hz) ?_
  refine h A env Fs h₀ Xr Y Xs _ _ E Pt.pre fun w h' tk x m D => ?_
  have P' := Pt.next (tk := tk) x m
  refine pr A Y [z, w] _ E { s with heap := h', toks := tk } P'.pre.handled (by have := P'.pre.units; omega) P'.pre.stat P'.pre.alloc ⟨hZ.sim x fun a q => .inl (P.pre.sepY a q), D, trivial⟩ fun r' h'' tk' kk D'' => ?_
  have P'' : PreS S b sc A env Fs h₀ nr Xr Y₀ Y Xs δ (μa ++ (n, .list ds) :: μb) { s with heap := h'', toks := tk' } := P'.next (tk := tk') (.of_keeps kk) (P'.pre.muts.sim (X := []) (B := S.B) (Fs := Fs) (.of_keeps kk) ⟨(fun q => nomatch q), (fun _ _ _ q => nomatch q)⟩ (fun _ q => nomatch q) fun _ _ q => nomatch q)
  refine byC fun hnC6 => ?_
  obtain ⟨v', xs', sub', nd', H', M', turn'⟩ := P''.pre.oneN
  refine hnC6 ?_
  have hv : Value.ref a = v' := holds_same ((H.sim x P.pre.sepN).sim (B := S.B) (Fs := Fs) (X := []) (.of_keeps kk) ⟨(fun q => nomatch q), (fun _ _ _ q => nomatch q)⟩) H'
  subst hv
  refine byC fun hnC7 => ?_
  obtain ⟨a', o', vs', nn', q, rfl, ho', hc', hdn', hdat', DD'⟩ := M'
  refine hnC7 ?_
  cases q
  have hp : PlainL h'' a vs' := ⟨o', nn', ho', hc', hdn', hdat'⟩
  have hkl : k < vs'.size := by
    have := (List.getElem?_eq_some_iff.mp hk).1
    rw [← Array.length_toList, DD'.length]; exact this
  refine setItem_plainL (M := S.M) (s := { s with heap := h'', toks := tk' }) hp hf hkl fun h₃ hp₃ hs₃ => ?_
  have hb : S.B.get? a = none := P.pre.yB a (P.pre.sepY a (sub' a (.head _)))
  have x₃ : Sim S.B Fs [a] h'' h₃ := by
    refine byC fun hnC8 => ?_
    obtain ⟨o₃, k₃, ho₃, hc₃, hdn₃, hd₃⟩ := hp₃
    refine hnC8 ?_
    refine .of_but (fun b o'' hm e => (hs₃.2 b fun q => hm (by rw [q]; exact .head _)).trans e) (fun b hm o₁ e => ?_) (fun b hm o₁ e => ?_) fun b hm => ?_
    · cases List.mem_singleton.mp hm
      exact ⟨o₃, ho₃, fun _ vs q => by rw [hd₃] at q; cases q⟩
    · cases List.mem_singleton.mp hm
      rw [ho'] at e; cases e
      rintro ⟨q, _⟩
      exact absurd (Value.type.inj (hc'.symm.trans q)) (by decide)
    · cases List.mem_singleton.mp hm
      exact hb
  refine byC fun hnC9 => ?_
  obtain ⟨o₃, k₃, ho₃, hc₃, hdn₃, hd₃⟩ := hp₃
  refine hnC9 ?_
  have haY : ∀ c ∈ [a], c ∈ Y ∨ h''.get? c = none := fun c q => .inl (P.pre.sepY c (sub' c q))
  have m₃ := turn' h₃ (.list (ds.set k d)) x₃ ⟨a, o₃, _, k₃, rfl, rfl, ho₃, hc₃, hdn₃, hd₃, by
    rw [Array.toList_setIfInBounds]
    exact (DD'.set k D'').imp fun v d q => q.sim x₃ haY⟩
  have xx := x₃.mono sub'
  have xk : Sim S.B Fs Xs.flatten h' h'' := .of_keeps kk
  exact Kk h₃ tk' Y Xs (((x.trans xk fun a q => .inl q).trans xx fun a q => .inl q).mono P.pre.sepY) (fun a q => .inl q) (P''.next (tk := tk') xx m₃)
end
end
section
variable [Pm]

section
variable {S : St} {b b' : Nat} {sc : Scope} {δ δ' : List (Str × PyData)} {μ μ₁ μ₂ μ' : List (Str × Mut)} {e e₁ e₂ value : Expr} {es elts : List Expr} {pos p np np₁ np₂ tpos : Pos} {d d₁ d₂ : PyData} {u : Bool} {t : Str} {ds : List PyData} {n n₁ n₂ : Str}
  {A : Around} {env : Env} {Fs : List Addr} {h₀ : Heap} {nr : Nat} {Xr Y₀ Y : List Addr} {Xs : List (List Addr)} {s : Shared} {R : Flow → Shared → Prop} {E : Value → Shared → Prop} {fa : Addr} {ps : List Str} {body : List Stmt} {so : SO} {out : Out PyData}

/-- what the change of one cell leaves -/
structure Celled (S : St) (env : Env) (Fs : List Addr) (h₀ : Heap) (n : Str) (v : Value) (c : Addr) (Y : List Addr) (h h' : Heap) : Prop where
  hc : env.cells.lookup n = some c
  hy : c ∈ Y
  hz : h₀.get? c = none
  hl : c ≠ env.locals
  hx : Sim S.B Fs [c] h h'
  hn : h'.IsCell c (some v)
theorem cell_stored {v : Value} (P : Pre S b sc A env Fs h₀ Xr Y Xs δ μ s) (hk : sc.names.lookup n = some .cell) (hc : isComp sc = false) {Q : Unit → Shared → Prop}
    (K : ∀ c h', Celled S env Fs h₀ n v c Y s.heap h' → Q () { s with heap := h' }) : wpAny S.M A (storeName env n v) Q E s := by
  have hl : env.kindOf n = some .cell := by unfold Env.kindOf; rw [P.sco]; exact hk
  refine byC fun hnC1 => ?_
  obtain ⟨c, v₀, hc, hC⟩ := P.cellE hc n hl
  obtain ⟨o, ho, hd⟩ := hC
  refine hnC1 ?_
  refine wpAny_storeName_cell P.sk hl hc ⟨o, ho, hd⟩ fun h' hC' hs => ?_
  obtain ⟨hy, hz⟩ := P.cellY n c hc
  refine K c h' ⟨hc, hy, hz, fun q => ?_, ?_, hC'⟩
  · obtain ⟨m, o', es, ep, ho', hd', _⟩ := P.loc.ns
    rw [q, ho'] at ho; cases ho; rw [hd] at hd'; cases hd'
  · obtain ⟨o', ho', hd'⟩ := hC'
    refine .of_but (fun b o' hm e => (hs.2 b fun q => hm (by rw [q]; exact .head _)).trans e) (fun b hm o₁ e => ?_) (fun b hm o₁ e => ?_) fun b hm => ?_
    · cases List.mem_singleton.mp hm
      exact ⟨o', ho', fun _ vs q => by rw [hd'] at q; cases q⟩
    · cases List.mem_singleton.mp hm
      rw [ho] at e; cases e
      rintro ⟨_, vs, n, q⟩
      rw [hd] at q; cases q
    · cases List.mem_singleton.mp hm
      exact P.yB c hy
theorem holds_celled {h h' : Heap} {v w : Value} {c : Addr} {x : Str} (P : Pre S b sc A env Fs h₀ Xr Y Xs δ μ s) (C : Celled S env Fs h₀ n v c Y h h') (H : Holds h env x w) (hx : x ≠ n) : Holds h' env x w := by
  rcases H with ⟨hk, m, N, hm⟩ | ⟨hk, c', e, o, ho, hd⟩
  · exact .inl ⟨hk, m, Ns.sim C.hx N fun q => C.hl (List.mem_singleton.mp q).symm, hm⟩
  · obtain ⟨sl, e'⟩ := C.hx.at ho fun q => hx (P.cellI x n c' e ((List.mem_singleton.mp q) ▸ C.hc))
    exact .inr ⟨hk, c', e, _, e', hd⟩
theorem muts_celled {h h' : Heap} {v : Value} {c : Addr} (P : Pre S b sc A env Fs h₀ Xr Y Xs δ μ s) (C : Celled S env Fs h₀ n v c Y h h') : ∀ {μ : List (Str × Mut)} {Xs : List (List Addr)}, (∀ p ∈ μ, p.1 ≠ n) → (∀ a ∈ Xs.flatten, a ≠ c) → Muts Y env h μ Xs → Muts Y env h' μ Xs
  | [], [], _, _, _ => trivial
  | p :: _, _ :: _, hn, ha, ⟨⟨w, a, b⟩, r⟩ =>
    ⟨⟨w, holds_celled P C a (hn p (.head _)), b.sim C.hx (fun z q => by cases List.mem_singleton.mp q; exact .inl C.hy) (fun z q hm => by cases List.mem_singleton.mp hm; exact ha _ (List.mem_append.mpr (.inl q)) rfl) (fun a q => .inl (P.fsY a q))⟩,
      muts_celled P C (fun p q => hn p (.tail _ q)) (fun z q => ha z (List.mem_append.mpr (.inr q))) r⟩
  | [], _ :: _, _, _, q => q.elim
  | _ :: _, [], _, _, q => q.elim

theorem Pre.celled {v : Value} {c : Addr} {h' : Heap} (P : Pre S b sc A env Fs h₀ Xr Y Xs δ μ s) (hk : sc.names.lookup n = some .cell) (C : Celled S env Fs h₀ n v c Y s.heap h') (hμ : μ.lookup n = none) (D : DataIn Y s.heap v d) : Pre S b sc A env Fs h₀ Xr Y Xs ((n, d) :: δ) μ { s with heap := h' } :=
  have hl : env.kindOf n = some .cell := by unfold Env.kindOf; rw [P.sco]; exact hk
  have x := C.hx
  have hx : ∀ a ∈ [c], a ∈ Y ∨ s.heap.get? a = none := fun a q => by cases List.mem_singleton.mp q; exact .inl C.hy
  { P with
    stack := let ⟨f, o, L, a, b, c, d, e, g⟩ := P.stack; ⟨f, o, L, a, b, c, d, funFrames_sim x e, g⟩
    stat := x.st P.stat
    hist := P.hist.trans x fun a q => by cases List.mem_singleton.mp q; exact .inr C.hz
    loc := ⟨let ⟨m, N⟩ := P.loc.ns; ⟨m, Ns.sim x N fun q => C.hl (List.mem_singleton.mp q).symm⟩, fun z dz e => by
      by_cases hz : z = n
      · subst hz
        have : dz = d := by rw [List.lookup_cons, beq_self_eq_true] at e; exact (Option.some.inj e).symm
        subst this
        exact ⟨v, .inr ⟨hl, c, C.hc, C.hn⟩, D.sim x hx fun a q => .inl (P.fsY a q)⟩
      · rw [List.lookup_cons, show (z == n) = false from beq_eq_false_iff_ne.mpr hz] at e
        obtain ⟨w, H, Dw⟩ := P.loc.dat z dz e
        exact ⟨w, holds_celled P C H hz, Dw.sim x hx fun a q => .inl (P.fsY a q)⟩⟩
    cellE := fun q m h => by
      by_cases hz : m = n
      · subst hz; exact ⟨c, _, C.hc, C.hn⟩
      · obtain ⟨c', v', e, o, ho, hd⟩ := P.cellE q m h
        obtain ⟨sl, e'⟩ := x.at ho fun q => hz (P.cellI m n c' e ((List.mem_singleton.mp q) ▸ C.hc))
        exact ⟨c', v', e, _, e', hd⟩
    muts := muts_celled P C (keys_ne hμ) (fun a q e => P.sepN.2 n c C.hc (by rw [← e]; exact q)) P.muts
    alloc := fun a h => let ⟨o, e⟩ := P.alloc a h; let ⟨o', e', _⟩ := x.on a o e; ⟨o', e'⟩ }

/-- a, b = (x, y), both cells -/
theorem EvS.tupC {k k' : Nat} {tp : Pos} (h : EvEs S b sc δ μ [e₁, e₂] (.ok [d₁, d₂]) μ') (hk₁ : sc.names.lookup n₁ = some .cell) (hk₂ : sc.names.lookup n₂ = some .cell) (hc : isComp sc = false) (hμ₁ : μ'.lookup n₁ = none) (hμ₂ : μ'.lookup n₂ = none)
    (hw : ∀ env, env.scope = sc → swappedStores [.Tuple [.Name n₁ np₁, .Name n₂ np₂] k tpos] (.Tuple [e₁, e₂] k' tp) env = pure none) (hs : noStar [e₁, e₂] := by intro _; rfl) :
    EvS S b sc δ μ (.Assign [.Tuple [.Name n₁ np₁, .Name n₂ np₂] k tpos] (.Tuple [e₁, e₂] k' tp) pos) (.next ((n₂, d₂) :: (n₁, d₁) :: δ) μ') := by
  with_unfolding_all
  intro A env Fs h₀ nr Xr Y₀ Y Xs s R E P K
  refine Assign_Tuple ?_ rfl (hw env P.pre.sco)
  refine wpAny_Tuple ?_
  rw [hs env]
  refine spliced_WEs (h A env Fs h₀ Xr Y Xs s _ E P.pre fun vs h' tk x m D => ⟨by rw [D.length]; show 2 ≤ _; decide, ?_⟩)
  have P₁ := P.next (tk := tk) x m
  refine assign_Tuple_tuple (items := vs.toArray) P.pre.handled ⟨_, Heap.get?_push_size _ rfl, rfl, _, rfl⟩ ?_ rfl fun h'' hx => ?_
  · rw [List.size_toArray, D.length]; rfl
  refine byC fun hnC2 => ?_
  obtain ⟨v₁, v₂, rfl, D₁, D₂⟩ := datas2 D
  refine hnC2 ?_
  have kk : ∀ b o, h'.get? b = some o → h''.get? b = some o := fun b o e => hx b o (Nat.ne_of_lt (Heap.lt_size (Heap.get?_push_of_some _ e))) (Heap.get?_push_of_some _ e)
  have xk : Sim S.B Fs Xs.flatten h' h'' := .of_keeps kk
  have P₂ : PreS S b sc A env Fs h₀ nr Xr Y₀ Y Xs δ μ' { s with heap := h'', toks := tk } := P₁.next (tk := tk) xk (P₁.pre.muts.sim (X := []) (B := S.B) (Fs := Fs) (.of_keeps kk) ⟨(fun q => nomatch q), (fun _ _ _ q => nomatch q)⟩ (fun _ q => nomatch q) fun _ _ q => nomatch q)
  show wpAny S.M A (do holding [v₂] (assign (.Name n₁ np₁) env v₁); assignInOrder [assign (.Name n₂ np₂) env] [v₂]) _ E _
  refine wpAny_bind (wpAny_holding (assign_Name (cell_stored P₂.pre hk₁ hc fun c₁ h₃ C₁ => ?_)))
  have P₃ := P₂.pre.celled hk₁ C₁ hμ₁ (D₁.push kk)
  show wpAny S.M A (do holding [] (assign (.Name n₂ np₂) env v₂); assignInOrder [] []) _ E _
  refine wpAny_bind (wpAny_holding (assign_Name (cell_stored P₃ hk₂ hc fun c₂ h₄ C₂ => ?_)))
  have P₄ := P₃.celled hk₂ C₂ hμ₂ ((D₂.push kk).sim C₁.hx (fun a q => by cases List.mem_singleton.mp q; exact .inl C₁.hy) fun a q => .inl (P.pre.fsY a q))
  refine wpAny_pure ?_
  exact K h₄ tk Y Xs ((((x.trans xk fun a q => .inl q).mono P.pre.sepY).trans C₁.hx fun a q => by cases List.mem_singleton.mp q; exact .inl C₁.hy).trans C₂.hx fun a q => by cases List.mem_singleton.mp q; exact .inl C₂.hy) (fun a q => .inl q) ⟨P₄, P.xr, P.y0⟩
end
end
section
variable [Pm]

section
variable {S : St} {b b' : Nat} {sc : Scope} {δ δ' : List (Str × PyData)} {μ μ₁ μ₂ μ' : List (Str × Mut)} {e value : Expr} {es elts : List Expr} {pos p np : Pos} {d : PyData} {u : Bool} {t : Str} {ds : List PyData} {n : Str}
  {A : Around} {env : Env} {Fs : List Addr} {h₀ : Heap} {nr : Nat} {Xr Y₀ Y : List Addr} {Xs : List (List Addr)} {s : Shared} {R : Flow → Shared → Prop} {E : Value → Shared → Prop} {fa : Addr} {ps : List Str} {body : List Stmt} {so : SO} {out : Out PyData}

theorem Pre.celledM {v : Value} {c : Addr} {h' : Heap} {xs : List Addr} {m : Mut} (P : Pre S b sc A env Fs h₀ Xr Y Xs δ μ s) (hk : sc.names.lookup n = some .cell) (C : Celled S env Fs h₀ n v c Y s.heap h') (hμ : μ.lookup n = none) (hδ : δ.lookup n = none)
    (hxY : ∀ a ∈ xs, a ∈ Y) (hxX : ∀ a ∈ xs, a ∉ Xs.flatten) (hxF : ∀ a ∈ xs, a ∉ Fs) (ap : apart xs env) (hx0 : ∀ a ∈ xs, h₀.get? a = none) (nd : xs.Nodup) (M : HasMut Y s.heap v xs m) : Pre S b sc A env Fs h₀ Xr Y (Xs ++ [xs]) δ (μ ++ [(n, m)]) { s with heap := h' } :=
  have hl : env.kindOf n = some .cell := by unfold Env.kindOf; rw [P.sco]; exact hk
  have x := C.hx
  have hx : ∀ a ∈ [c], a ∈ Y ∨ s.heap.get? a = none := fun a q => by cases List.mem_singleton.mp q; exact .inl C.hy
  have fl : (Xs ++ [xs]).flatten = Xs.flatten ++ xs := by simp
  have both : ∀ {Pp : Addr → Prop}, (∀ a ∈ Xs.flatten, Pp a) → (∀ a ∈ xs, Pp a) → ∀ a ∈ (Xs ++ [xs]).flatten, Pp a := fun h1 h2 a q => by
    rw [fl] at q
    exact (List.mem_append.mp q).elim (h1 a) (h2 a)
  { P with
    stack := let ⟨f, o, L, a, b, c, d, e, g⟩ := P.stack; ⟨f, o, L, a, b, c, d, funFrames_sim x e, g⟩
    stat := x.st P.stat
    hist := P.hist.trans x fun a q => by cases List.mem_singleton.mp q; exact .inr C.hz
    loc := ⟨let ⟨m, N⟩ := P.loc.ns; ⟨m, Ns.sim x N fun q => C.hl (List.mem_singleton.mp q).symm⟩, fun z dz e => by
      have hz : z ≠ n := fun q => by rw [q, hδ] at e; cases e
      obtain ⟨w, H, Dw⟩ := P.loc.dat z dz e
      exact ⟨w, holds_celled P C H hz, Dw.sim x hx fun a q => .inl (P.fsY a q)⟩⟩
    cellE := fun q m h => by
      by_cases hz : m = n
      · subst hz; exact ⟨c, _, C.hc, C.hn⟩
      · obtain ⟨c', v', e, o, ho, hd⟩ := P.cellE q m h
        obtain ⟨sl, e'⟩ := x.at ho fun q => hz (P.cellI m n c' e ((List.mem_singleton.mp q) ▸ C.hc))
        exact ⟨c', v', e, _, e', hd⟩
    muts := muts_app (muts_celled P C (keys_ne hμ) (fun a q e => P.sepN.2 n c C.hc (by rw [← e]; exact q)) P.muts) (.inr ⟨hl, c, C.hc, C.hn⟩) (M.sim x hx (fun a q z => ap.2 n c C.hc (List.mem_singleton.mp z ▸ q)) fun a q => .inl (P.fsY a q))
    nodup := by rw [fl]; exact List.nodup_append.mpr ⟨P.nodup, nd, fun c q c' q' e => hxX c' q' (e ▸ q)⟩
    sepY := both P.sepY hxY
    sepF := both P.sepF hxF
    sepN := ⟨fun q => both (Pp := fun a => a ≠ env.locals) (fun a q e => P.sepN.1 (e ▸ q)) (fun a q e => ap.1 (e ▸ q)) _ q rfl, fun z c e q => both (Pp := fun a => a ≠ c) (fun a q e' => P.sepN.2 z c e (e' ▸ q)) (fun a q e' => ap.2 z c e (e' ▸ q)) _ q rfl⟩
    sepH := both P.sepH fun a q => .inr (hx0 a q)
    alloc := fun a h => let ⟨o, e⟩ := P.alloc a h; let ⟨o', e', _⟩ := x.on a o e; ⟨o', e'⟩ }

/-- n = [..], n a cell: a list that may be turned -/
theorem EvS.newC (h : EvEs S b sc δ μ es (.ok ds) μ') (hk : sc.names.lookup n = some .cell) (hc : isComp sc = false) (hb : byRef sc = false) (hμ : μ'.lookup n = none) (hδ : δ.lookup n = none) (hs : noStar es := by intro _; rfl) (hz : ds.length ≤ sizeLine := by decide)
    (hsw : ∀ env, env.scope = sc → swapsWith (.List es p) (some (.Name n np)) pos.line env = pure false := by intro _ _; rfl) :
    EvS S b sc δ μ (.Assign [.Name n np] (.List es p) pos) (.next δ (μ' ++ [(n, .list ds)])) := by
  with_unfolding_all
  intro A env Fs h₀ nr Xr Y₀ Y Xs s R E P K
  refine wpAny_Assign_Name ?_ (hsw env P.pre.sco)
  refine wpAny_List ?_
  rw [hs env]
  refine spliced_WEs (h A env Fs h₀ Xr Y Xs s _ E P.pre fun vs h' tk x m D => ⟨by rw [D.length]; exact hz, ?_⟩)
  have P₁ := P.next (tk := tk) x m
  have hn : h'.get? h'.objs.size = none := Heap.get?_none_of_le (Nat.le_refl _)
  have pu : ∀ b o', h'.get? b = some o' → (h'.push { cls := .type "list", data := .seq vs.toArray }).get? b = some o' := fun b o' e => Heap.get?_push_of_some _ e
  have e₁ : (h'.push { cls := .type "list", data := .seq vs.toArray }).get? h'.objs.size = some { cls := .type "list", data := .seq vs.toArray } := Heap.get?_push_size _ rfl
  have P₂ := P₁.more (tk := tk) pu hn ⟨_, e₁⟩
  refine byC fun hnC1 => ?_
  obtain ⟨f1, f2, f3, f4⟩ := new_ok P₁ hn
  refine hnC1 ?_
  have f4' : ∀ x c, env.cells.lookup x = some c → c ≠ h'.objs.size := f4
  have gY : ∀ c ∈ h'.objs.size :: Y, c ∈ Y ∨ h'.get? c = none := fun c q => by
    rcases List.mem_cons.mp q with rfl | q
    · exact .inr hn
    · exact .inl q
  refine cell_stored P₂.pre hk hc fun c h₃ C => ?_
  have D₂ : DatasIn (h'.objs.size :: Y) (h'.push { cls := .type "list", data := .seq vs.toArray }) vs ds := D.imp fun v d q => (q.grow gY).push pu
  have P₃ := P₂.pre.celledM hk C hμ hδ (xs := [h'.objs.size]) (m := .list ds) (fun a q => by cases List.mem_singleton.mp q; exact .head _) (fun a q => by cases List.mem_singleton.mp q; exact f1) (fun a q => by cases List.mem_singleton.mp q; exact f2)
    ⟨fun q => f3 (List.mem_singleton.mp q).symm, fun z c e q => f4' z c e (List.mem_singleton.mp q)⟩ (fun a q => by cases List.mem_singleton.mp q; exact P₁.pre.hist.fresh hn) (by simp) ⟨_, _, vs.toArray, _, rfl, rfl, e₁, rfl, rfl, rfl, D₂⟩
  have hxr : isComp sc = false → Xr = ((Xs ++ [[h'.objs.size]]).take nr).flatten ∧ nr ≤ (Xs ++ [[h'.objs.size]]).length ∧ (nr = 0 ∨ byRef sc = true) := fun hc => let q := P.xr hc; ⟨by rw [List.take_append_of_le_length q.2.1]; exact q.1, by rw [List.length_append]; have := q.2.1; omega, q.2.2⟩
  refine K h₃ tk (h'.objs.size :: Y) (Xs ++ [[h'.objs.size]]) (((x.mono P.pre.sepY).trans (X' := []) (.of_keeps pu) fun _ q => nomatch q).trans C.hx fun a q => ?_) (fun a q => ?_) ⟨P₃, hxr, P₂.y0⟩
  · cases List.mem_singleton.mp q
    rcases List.mem_cons.mp C.hy with e | e
    · exact absurd e (f4' n c C.hc)
    · exact .inl e
  · rcases gY a q with q | q
    · exact .inl q
    · exact .inr (x.fresh q)
end
end
section
variable [Pm]

theorem cellsFrom_has {x : Str} : ∀ {names : List (Str × NameKind)} {n : Nat} {acc : List (Str × Addr)}, ((x, NameKind.cell) ∈ names ∨ (acc.lookup x).isSome = true) → ((cellsFrom n names acc).lookup x).isSome = true
  | [], _, _, h => h.elim (fun q => (List.not_mem_nil q).elim) id
  | (y, k) :: r, n, acc, h => by
    unfold cellsFrom
    split
    · refine cellsFrom_has ?_
      by_cases hxy : x = y
      · exact .inr (by rw [hxy, List.lookup_cons, beq_self_eq_true]; rfl)
      · rcases h with h | h
        · rcases List.mem_cons.mp h with e | h
          · cases e; exact absurd rfl hxy
          · exact .inl h
        · exact .inr (by rw [List.lookup_cons, show (x == y) = false from beq_eq_false_iff_ne.mpr hxy]; exact h)
    · rename_i hk
      refine cellsFrom_has ?_
      rcases h with h | h
      · rcases List.mem_cons.mp h with e | h
        · cases e; exact absurd rfl hk
        · exact .inl h
      · exact .inr h
theorem bindL_miss {kindOf : Str → Option NameKind} {p : Str} : ∀ {l : List (Str × Value)} {m : Str → Option Value}, p ∉ l.map (·.1) → bindL kindOf l m p = m p
  | [], _, _ => rfl
  | (n, v) :: r, m, h => by
    unfold bindL
    rw [bindL_miss fun q => h (.tail _ q)]
    split
    · exact if_neg fun q => h (by rw [q]; exact .head _)
    · rfl
theorem bindL_get {kindOf : Str → Option NameKind} {p : Str} {v : Value} (hk : kindOf p = some .local) : ∀ {l : List (Str × Value)} {m : Str → Option Value}, (l.map (·.1)).Nodup → l.lookup p = some v → bindL kindOf l m p = some v
  | [], _, _, h => by simp at h
  | (n, w) :: r, m, hn, h => by
    rw [List.map_cons, List.nodup_cons] at hn
    unfold bindL
    rw [List.lookup_cons] at h
    cases z : p == n with
    | true =>
      rw [z] at h; cases h
      have e := beq_iff_eq.mp z
      subst e
      rw [bindL_miss hn.1, if_pos hk, if_pos rfl]
    | false => rw [z] at h; exact bindL_get hk hn.2 h
theorem bindC_miss {kindOf : Str → Option NameKind} {p : Str} : ∀ {l : List (Str × Value)} {m : Str → Option Value}, p ∉ l.map (·.1) → bindC kindOf l m p = m p
  | [], _, _ => rfl
  | (n, v) :: r, m, h => by
    unfold bindC
    rw [bindC_miss fun q => h (.tail _ q)]
    split
    · rfl
    · exact if_neg fun q => h (by rw [q]; exact .head _)
theorem bindC_get {kindOf : Str → Option NameKind} {p : Str} {v : Value} (hk : kindOf p ≠ some .local) : ∀ {l : List (Str × Value)} {m : Str → Option Value}, (l.map (·.1)).Nodup → l.lookup p = some v → bindC kindOf l m p = some v
  | [], _, _, h => by simp at h
  | (n, w) :: r, m, hn, h => by
    rw [List.map_cons, List.nodup_cons] at hn
    unfold bindC
    rw [List.lookup_cons] at h
    cases z : p == n with
    | true =>
      rw [z] at h; cases h
      have e := beq_iff_eq.mp z
      subst e
      rw [bindC_miss hn.1, if_neg hk, if_pos rfl]
    | false => rw [z] at h; exact bindC_get hk hn.2 h

structure ScOkC (sc : Scope) (ps : List Str) : Prop where
  kind : sc.kind = .function
  co : sc.isCoroutine = false
  gen : sc.isGenerator = false
  loc : ∀ p ∈ ps, sc.names.lookup p = some .local ∨ sc.names.lookup p = some .cell
  nodup : ps.Nodup
theorem ScOkC.of {sc : Scope} {ps : List Str} (h : (sc.kind == .function && !sc.isCoroutine && !sc.isGenerator && ps.all (fun p => sc.names.lookup p == some .local || sc.names.lookup p == some .cell) && decide ps.Nodup) = true) : ScOkC sc ps := by
  simp only [Bool.and_eq_true, List.all_eq_true, decide_eq_true_eq, beq_iff_eq, Bool.not_eq_true', Bool.or_eq_true] at h
  refine byC fun hnC1 => ?_
  obtain ⟨⟨⟨⟨h1, h2⟩, h3⟩, h5⟩, h6⟩ := h
  refine hnC1 ?_
  exact ⟨h1, h2, h3, h5, h6⟩

section
variable {S : St} {b b' : Nat} {sc : Scope} {n : Str} {ds : List PyData} {body : List Stmt} {so : SO} {fa : Addr} {ps : List Str} {out : Out PyData}

theorem lookup_mem_keys {α : Type} {x : Str} {d : α} : ∀ {l : List (Str × α)}, l.lookup x = some d → x ∈ l.map (·.1)
  | [], h => by simp at h
  | (y, e) :: l, h => by
    rw [List.lookup_cons] at h
    cases w : x == y with
    | true => rw [beq_iff_eq.mp w]; exact .head _
    | false => rw [w] at h; exact .tail _ (lookup_mem_keys h)

theorem Cal.mkC (O : S.Ok) (hf : HasFn S fa ps body sc) (so : SO) (ho : out = so.out) (hl : ds.length = ps.length) (ok : ScOkC sc ps) (h : EvSs S b sc (ps.zip ds) [] body so) : Cal S (b + 1) fa ds out := by
  with_unfolding_all
  subst ho
  intro A outer vs Y s R E P D K
  refine byC fun hnC2 => ?_
  obtain ⟨o, fd, h1, h2, h3, h4, h5, h6, h7, h8, h9⟩ := hf
  refine hnC2 ?_
  have hvl : vs.length = ps.length := D.length.trans hl
  have keepCode : s.heap.CodeRec fd.code fd.qualname := h3.keeps P.stat
  have kinds : ∀ x ∈ ps.zip vs, sc.names.lookup x.1 = some .local ∨ (sc.names.lookup x.1 = some .cell ∧ ((cellsFrom (s.heap.objs.size + 1) sc.names []).lookup x.1).isSome = true) := fun x hx => by
    have := List.mem_map_of_mem (f := (·.1)) hx
    rw [zip_keys hvl] at this
    exact (ok.loc _ this).imp id fun q => ⟨q, cellsFrom_has (.inl (PySem.mem_of_lookup q))⟩
  refine wpAny_call (codeAny_call_function (by have := P.depth; omega) (P.stat _ _ h1) h2 (by rw [h5]; exact ok.co) (by rw [h5]; exact ok.gen) h4 keepCode ((h9 s vs hvl) _ _ _ _ ?_))
  rw [h8]
  refine wpAny_newFunctionEnv_cells (by rw [h5]; exact ok.kind) (by rw [h5]; exact kinds) fun env he s₁ IC => ?_
  have hL : s.heap.get? s.heap.objs.size = none := Heap.get?_none_of_le (Nat.le_refl _)
  have hLB : S.B.get? s.heap.objs.size = none := none_base (h₀ := s.heap) P.stat hL
  rw [h5, h6, h7] at he
  obtain ⟨cs, hcs⟩ : ∃ cs, cs = cellsFrom (s.heap.objs.size + 1) sc.names [] := ⟨_, rfl⟩
  rw [← hcs] at he
  have e1 : env.scope = sc := by rw [he]; rfl
  have e2 : env.locals = s.heap.objs.size := by rw [he]; rfl
  have e3 : env.frame = some s.heap.objs.size := by rw [he]; rfl
  have e4 : env.cells = cs := by rw [he]; rfl
  have e5 : env.globals = mainGlobals := by rw [he]; rfl
  have e6 : env.builtins = builtinsNs := by rw [he]; rfl
  clear he
  refine ⟨(O.nolimit.keeps P.stat).keeps IC.toInCall.keep, codeAny_func ?_⟩
  refine byC fun hnC3 => ?_
  obtain ⟨h₁, tk₁, hs₁, hk⟩ := IC.done
  refine hnC3 ?_
  have hN := IC.toInCall.ns
  have hcell := IC.cell
  have hap := IC.apart
  have habove := IC.above
  clear IC
  subst hs₁
  dsimp only at hN hcell hap habove
  have kY : ∀ a ∈ Y, ∃ o, h₁.get? a = some o := fun a q => let ⟨o, e⟩ := P.alloc a q; ⟨o, hk _ _ e⟩
  have hFs : (env :: outer).filterMap (·.frame) = s.heap.objs.size :: outer.filterMap (·.frame) := by
    rw [List.filterMap_cons, e3]
  have kOf : ∀ x, env.kindOf x = sc.names.lookup x := fun x => by unfold Env.kindOf; rw [e1]
  have hFun : h₁.FunFrames S.B (env :: outer) := by
    refine .cons (by rw [e1, ok.kind]; decide) e3 (by rw [e2] at hN; exact hN) hLB ?_
    exact funFrames_sim (B := S.B) (Fs := []) (X := []) (.of_keeps hk) P.funs
  have hfr : (A.deeper env).frames = some (env :: outer) := Around.frames_deeper P.frames
  have unf : ∀ {h' : Heap}, Sim S.B ((env :: outer).filterMap (·.frame)) [] s.heap h' → Sim S.B (outer.filterMap (·.frame)) [] s.heap h' := fun x => x.unframe fun a q => by
    rw [hFs] at q
    rcases List.mem_cons.mp q with rfl | q
    · exact .inr hL
    · exact .inl q
  have newC : ∀ x c, env.cells.lookup x = some c → s.heap.get? c = none := fun x c e => Heap.get?_none_of_le (Nat.le_of_lt (by have := habove x c (PySem.mem_of_lookup e); rw [e2] at this; exact this))
  have cOf : ∀ a ∈ cs.filterMap (fun p => cs.lookup p.1), ∃ x, env.cells.lookup x = some a := fun a q => by
    obtain ⟨p, _, hp⟩ := List.mem_filterMap.mp q
    exact ⟨p.1, by rw [e4]; exact hp⟩
  have gY : ∀ a ∈ s.heap.objs.size :: (cs.filterMap (fun p => cs.lookup p.1) ++ Y), a ∈ Y ∨ s.heap.get? a = none := fun a q => by
    rcases List.mem_cons.mp q with rfl | q
    · exact .inr hL
    · rcases List.mem_append.mp q with q | q
      · obtain ⟨x, hx⟩ := cOf a q
        exact .inr (newC x a hx)
      · exact .inl q
  have PS : PreS S b sc (A.deeper env) env ((env :: outer).filterMap (·.frame)) s.heap 0 [] Y (s.heap.objs.size :: (cs.filterMap (fun p => cs.lookup p.1) ++ Y)) [] (ps.zip ds) [] { s with heap := h₁, toks := tk₁ } := by
    refine ⟨?_, fun _ => ⟨rfl, Nat.zero_le _, .inl rfl⟩, fun a q => ⟨.tail _ (List.mem_append.mpr (.inr q)), P.alloc a q⟩⟩
    exact {
      depth := by have := P.depth; show A.depth + 1 + b < _; omega
      units := by have := P.units; show A.units + 3 + 30 * b + 100 < _; omega
      handled := P.handled
      sco := e1
      kind := ok.kind
      globals := e5
      builtins := e6
      stack := ⟨_, outer, s.heap.objs.size, hfr, e3, e3, rfl, hFun, hL⟩
      base := P.stat
      stat := fun a o e => hk _ _ (P.stat _ _ e)
      hist := .of_keeps hk
      loc := ⟨⟨_, hN⟩, fun x dx ex => by
        obtain ⟨v, hv, Dv⟩ := zip_lookup D ex
        have hx : x ∈ ps := by have := lookup_mem_keys ex; rwa [zip_keys hl] at this
        have hnd : ((ps.zip vs).map (·.1)).Nodup := by rw [zip_keys hvl]; exact ok.nodup
        refine ⟨v, ?_, (Dv.grow gY).push hk⟩
        rcases ok.loc x hx with q | q
        · exact .inl ⟨(kOf x).trans q, _, hN, bindL_get ((kOf x).trans q) hnd hv⟩
        · have q' := (kOf x).trans q
          obtain ⟨c, hc⟩ := Option.isSome_iff_exists.mp (cellsFrom_has (n := s.heap.objs.size + 1) (acc := []) (.inl (PySem.mem_of_lookup q)))
          rw [← hcs, ← e4] at hc
          refine .inr ⟨q', c, hc, ?_⟩
          rw [← bindC_get (kindOf := env.kindOf) (m := fun _ => none) (by rw [q']; decide) hnd hv]
          exact hcell x c hc⟩
      locY := by rw [e2]; exact ⟨.head _, hL⟩
      cellY := fun x c q => ⟨.tail _ (List.mem_append.mpr (.inl (List.mem_filterMap.mpr ⟨(x, c), by rw [← e4]; exact PySem.mem_of_lookup q, by rw [← e4]; exact q⟩))), newC x c q⟩
      cellI := fun x y c q q' => name_of_addr hap (PySem.mem_of_lookup q) (PySem.mem_of_lookup q')
      cellE := fun _ x q => by
        rw [kOf] at q
        obtain ⟨c, hc⟩ := Option.isSome_iff_exists.mp (cellsFrom_has (n := s.heap.objs.size + 1) (acc := []) (.inl (PySem.mem_of_lookup q)))
        rw [← hcs, ← e4] at hc
        exact ⟨c, _, hc, hcell x c hc⟩
      muts := trivial
      nodup := List.nodup_nil
      sepY := fun _ q => nomatch q
      sepF := fun _ q => nomatch q
      yB := fun a q => by
        rcases gY a q with q | q
        · exact P.yB a q
        · exact none_base P.stat q
      fsY := fun a q => by
        rw [hFs] at q
        rcases List.mem_cons.mp q with rfl | q
        · exact .head _
        · exact .tail _ (List.mem_append.mpr (.inr (P.fsY a q)))
      sepN := ⟨(fun q => nomatch q), (fun _ _ _ q => nomatch q)⟩
      sepH := fun _ q => nomatch q
      alloc := fun a q => by
        rcases List.mem_cons.mp q with rfl | q
        · obtain ⟨o', _, _, ho', _⟩ := hN; rw [e2] at ho'; exact ⟨o', ho'⟩
        · rcases List.mem_append.mp q with q | q
          · obtain ⟨x, hx⟩ := cOf a q
            obtain ⟨o, ho, _⟩ := hcell x a hx
            exact ⟨o, ho⟩
          · exact kY a q }
  refine h _ _ _ _ _ _ _ _ _ _ _ _ PS ?_
  cases so with
  | next δ' μ' =>
    intro h' tk Y' Xs' _ _ P'
    exact K .none h' tk (unf P'.pre.hist) dataNone
  | ret d μ' =>
    intro v h' tk δ' Y' Xs' P' D'
    exact K v h' tk (unf P'.pre.hist) D'
  | exc u t =>
    intro e h' tk x hF' hs X
    rw [e3] at X
    refine exc_leaves (s := { s with heap := h', toks := tk }) hfr (hF' _ hfr) e3 rfl X P.stat (fun a q => x.fresh q) fun h₂ st₂ X₂ => ?_
    exact K e h₂ tk (unf (st₂.sim x)) X₂
theorem CalN.mkC (O : S.Ok) (hf : FnN S n ps body sc) (ok : ScOkC sc ps) (so : SO) (h : EvSs S b sc (ps.zip ds) [] body so) (ho : out = so.out := by rfl) (hl : ds.length = ps.length := by rfl) : CalN S (b + 1) n ds out := by
  obtain ⟨fa, hm, hf⟩ := hf
  have c := Cal.mkC O hf so ho hl ok h
  refine byC fun hnC4 => ?_
  obtain ⟨o, fd, h1, h2, _⟩ := hf
  refine hnC4 ?_
  exact ⟨fa, o, fd, hm, h1, h2, c⟩
end
end
section
variable [Pm]

section
variable {S : St} {b : Nat} {sc : Scope} {δ : List (Str × PyData)} {μ μ₁ μ₂ μ₃ μ' : List (Str × Mut)} {e l m r : Expr} {es : List Expr} {pos p p' : Pos} {x y z d : PyData} {c c' : Bool} {op₁ op₂ : CmpOp} {X Z : Str} {lo hi : Nat} {n k k' : Nat}

theorem EvT.chain (h₁ : EvEs S b sc δ μ [l, m] (.ok [x, y]) μ₁) (p₁ : Prim S (two (compareOp op₁)) [x, y] (.bool c)) (h₂ : if c then EvE S b sc δ μ₁ r (.ok z) μ' ∧ Prim S (two (compareOp op₂)) [y, z] (.bool c') else c' = false ∧ μ' = μ₁)
    (hm : lastMarks [op₁, op₂] [m, r] = false := by with_unfolding_all rfl) : EvT S b sc δ μ (.Compare l [op₁, op₂] [m, r] pos) (.ok c') μ' := by
  with_unfolding_all
  intro A env Fs h₀ Xr Y Xs s R E P K
  refine isTrue_chain ?_ hm
  have h := h₁ A env Fs h₀ Xr Y Xs s (fun vs s₂ => match vs with | [a, b] => wpAny S.M A (compareOp op₁ a b) (fun cv s₃ => wpAny S.M A (truthy cv) (fun t s₄ => if t then wpAny S.M A (testChain pos b [op₂] [eval r env]) R E s₄ else R false s₄) E s₃) E s₂ | _ => True) E P ?_
  · exact wpAny_mono h (fun a s₁ h₁ => test_link (wpAny_mono h₁ (fun b s₂ h₂ => h₂) fun _ _ q => q)) fun _ _ q => q
  · intro vs h' tk xx mm D
    refine byC fun hnC1 => ?_
    obtain ⟨a, b, rfl, D₁, D₂⟩ := datas2 D
    refine hnC1 ?_
    have P₁ := P.next (tk := tk) xx mm
    refine p₁ A Y [a, b] _ E _ P.handled (by have := P.units; omega) P₁.stat P₁.alloc D fun v h'' tk' k D' => ?_
    rw [D'.bool]
    refine wpAny_truthy_bool ?_
    have x' : Sim S.B Fs Xs.flatten h' h'' := .of_keeps k
    have m' := P₁.muts.sim (X := []) (Fs := Fs) (B := S.B) (.of_keeps k) ⟨(fun h => nomatch h), (fun _ _ _ h => nomatch h)⟩ (fun _ h => nomatch h) (fun _ _ h => nomatch h)
    cases c with
    | false => obtain ⟨rfl, rfl⟩ := h₂; exact K _ _ _ (xx.trans x' fun a q => .inl q) m' rfl
    | true =>
      have P₂ := P₁.next (tk := tk') x' m'
      have xx' := xx.trans x' fun a q => .inl q
      refine test_last (h₂.1 A env Fs h₀ Xr Y Xs _ (fun w s' => wpAny S.M A (two (compareOp op₂) [b, w]) (fun c s₃ => wpAny S.M A (truthy c) R E s₃) E s') E P₂ fun w h₃ tk₃ x₃ m₃ D₃ => ?_)
      refine prim_use (μ' := μ') (vs := [b, w]) h₂.2 P₂ (fun v h₄ tk₄ x₄ m₄ D₄ => ?_) x₃ m₃ ⟨(D₂.sim x' fun a q => .inl (P.sepY a q)).sim x₃ fun a q => .inl (P.sepY a q), D₃, trivial⟩
      rw [D₄.bool]
      exact wpAny_truthy_bool (K _ _ _ (xx'.trans x₄ fun a q => .inl q) m₄ rfl)

theorem le_one (a c : Nat) : (!decide ([c] < [a])) = decide (a ≤ c) := by
  rcases Nat.lt_or_ge c a with h | h
  · rw [decide_eq_true (show [c] < [a] from List.Lex.rel h), decide_eq_false (by omega)]; rfl
  · rw [decide_eq_false (fun q : [c] < [a] => by cases q with | rel q => omega | cons q => cases q), decide_eq_true h]; rfl
theorem prim_chle {X Z : Str} {a c : Nat} (hX : X = ⟨#[a]⟩) (hZ : Z = ⟨#[c]⟩) : Prim S (two (compareOp .LtE)) [.str X, .str Z] (.bool (decide (a ≤ c))) := by
  subst hX hZ
  rw [← le_one]
  exact prim_strle
/-- lo <= e <= hi, of signs -/
theorem EvE.within (h : EvE S b sc δ μ e (.ok (.str ⟨#[n]⟩)) μ') (hX : X = ⟨#[lo]⟩ := by kernel_rfl) (hZ : Z = ⟨#[hi]⟩ := by kernel_rfl) (hm : lastMarks [.LtE, .LtE] [e, .Constant (.str Z) k' p'] = false := by with_unfolding_all rfl) :
    EvE S b sc δ μ (.Compare (.Constant (.str X) k p) [.LtE, .LtE] [e, .Constant (.str Z) k' p'] pos) (.ok (.bool (decide (lo ≤ n) && decide (n ≤ hi)))) μ' := by
  refine .chain (z := .str Z) (.cons .cStr (.cons h .nil)) (prim_chle hX rfl) ?_ hm
  by_cases q : lo ≤ n
  · rw [decide_eq_true q]; exact ⟨.cStr, prim_chle rfl hZ⟩
  · rw [decide_eq_false q]; exact ⟨rfl, rfl⟩
theorem EvT.within (h : EvE S b sc δ μ e (.ok (.str ⟨#[n]⟩)) μ') (hX : X = ⟨#[lo]⟩ := by kernel_rfl) (hZ : Z = ⟨#[hi]⟩ := by kernel_rfl) (hm : lastMarks [.LtE, .LtE] [e, .Constant (.str Z) k' p'] = false := by with_unfolding_all rfl) :
    EvT S b sc δ μ (.Compare (.Constant (.str X) k p) [.LtE, .LtE] [e, .Constant (.str Z) k' p'] pos) (.ok (decide (lo ≤ n) && decide (n ≤ hi))) μ' := by
  refine .chain (z := .str Z) (.cons .cStr (.cons h .nil)) (prim_chle hX rfl) ?_ hm
  by_cases q : lo ≤ n
  · rw [decide_eq_true q]; exact ⟨.cStr, prim_chle rfl hZ⟩
  · rw [decide_eq_false q]; exact ⟨rfl, rfl⟩
end
end
section

noncomputable abbrev pw := PySem.Challenge.pw_pq1456_01
/-- a def as a record -/
noncomputable def dst : Stmt → Option DefRec
  | .FunctionDef n a b _ _ _ s _ _ p => some ⟨n, a, b, s, p⟩
  | _ => none
noncomputable def noDef : DefRec := ⟨"", ⟨[], [], none, [], [], none, []⟩, [], default, ⟨0, 0, 0, 0⟩⟩
noncomputable def argNames (d : DefRec) : Str × List Str := (d.name, d.params.args.map (·.arg))
/-- the i-th statement of the text, a def: its body, its scope -/
noncomputable def dAt (i : Nat) : Option DefRec := pw.main.body[i]?.bind dst
noncomputable def dr (i : Nat) : DefRec := (dAt i).getD noDef
noncomputable def bd (i : Nat) : List Stmt := (dr i).body
noncomputable def sk (i : Nat) : Scope := (dr i).scope
noncomputable def fh (i : Nat) : Option (Str × List Str) := (dAt i).map argNames
/-- the j-th statement of the i-th class -/
noncomputable def inCls (i j : Nat) : Option DefRec := match pw.main.body[i]? with
  | some (.ClassDef _ _ _ b _ _ _ _ _ _ _) => b[j]?.bind dst
  | _ => none
noncomputable def mr (j : Nat) : DefRec := (inCls 27 j).getD noDef
noncomputable def mbd (j : Nat) : List Stmt := (mr j).body
noncomputable def msk (j : Nat) : Scope := (mr j).scope
noncomputable def mh (j : Nat) : Option (Str × List Str) := (inCls 27 j).map argNames

noncomputable def strT (l : List Str) : PyData := .tuple (l.map .str)
noncomputable def levels : List (List Str) := [["OR", "XOR"], ["AND"], ["EQ", "NE", "LT", "LE", "GT", "GE", "=", "<>", "<", "<=", ">", ">="], ["+", "-"], ["*", "/", "MOD", "SHL", "SHR"]]
noncomputable def sameD : List (PyData × PyData) := [(.str "=", .str "EQ"), (.str "<>", .str "NE"), (.str "<", .str "LT"), (.str "<=", .str "LE"), (.str ">", .str "GT"), (.str ">=", .str "GE")]
/-- what stands at the top -/
noncomputable def tops : List (Str × PyData) := [("DIGITS", .str "0123456789ABCDEF"), ("SIGNS_OF_TWO", strT ["<>", "<=", ">="]), ("SIGNS", .str "+-*/(),=<>:$"), ("QUOTES", .str "'\""), ("LEVELS", .tuple (levels.map strT)), ("UNARY", strT ["+", "-", "NOT", "HIGH", "LOW"]),
  ("SAME", .dict sameD), ("MOST_DEPTH", .int 12), ("MOST_OPERATORS", .int 64),
  ("REGISTERS", strT ["B", "C", "D", "E", "H", "L", "A", "F", "I", "R", "IXH", "IXL", "IYH", "IYL"]), ("PAIRS", strT ["BC", "DE", "HL", "SP", "AF", "AF'", "IX", "IY"]), ("CONDITIONS", strT ["NZ", "Z", "NC", "PO", "PE", "P", "M"]),
  ("IN_PARENTHESES", strT ["HL", "BC", "DE", "SP", "C", "IX", "IY"]), ("INDEXES", strT ["IX", "IY"])]
noncomputable def bis : List (Str × Value) := [("len", .builtin "len"), ("chr", .builtin "chr"), ("ord", .builtin "ord"), ("abs", .builtin "abs"), ("sum", .builtin "sum"), ("isinstance", .builtin "isinstance"), ("str", .type "str"), ("range", .type "range"), ("enumerate", .type "enumerate")]

structure Has [Pm] (S : St) (K : Frag) (cR : Addr) : Prop where
  O : S.Ok
  E : ExcU S K
  R : InstK K cR
  makes : makesIn K cR = true
  kp : keepIn K (.ref cR) = true
  kc : ∀ u, keepIn K (.ref (S.cls u)) = true
  absent : ∀ n ∈ (["tokens", "at", "depth", "operators"] : List Str), findIn K (.ref cR) n = some none
  gR : S.mg "Reader" = some (.ref cR)
  gA : S.mg "AsmError" = some (.ref S.cA)
  gU : S.mg "Unknown" = some (.ref S.cU)
  fn : ∀ i n ps, fh i = some (n, ps) → FnN S n ps (bd i) (sk i)
  mt : ∀ j n ps, mh j = some (n, ps) → FnM S K cR n ps (mbd j) (msk j)
  dat : ∀ n d, tops.lookup n = some d → S.D n d
  bi : ∀ n v, bis.lookup n = some v → S.mg n = Option.none ∧ S.mb n = some v
end
section

/-! texts as lists of code points -/
noncomputable abbrev T (l : List Nat) : Str := ⟨l.toArray⟩
noncomputable abbrev tx (l : List Nat) : PyData := .str (T l)
theorem T_len (l : List Nat) : (T l).length = l.length := List.size_toArray ..
theorem T_inj {a b : List Nat} : T a = T b ↔ a = b := ⟨fun h => by have := congrArg (fun x : Str => x.cps.toList) h; simpa using this, fun h => by rw [h]⟩
theorem T_beq (a b : List Nat) : (T a == T b) = (a == b) := by
  rw [Bool.eq_iff_iff, beq_iff_eq, beq_iff_eq, T_inj]
theorem T_app (a b : List Nat) : T a ++ T b = T (a ++ b) := by
  show (⟨a.toArray ++ b.toArray⟩ : Str) = _
  rw [List.append_toArray]
theorem T_item {l : List Nat} {i c : Nat} (h : l[i]? = some c) : Txt.item (T l) (i : Int) = T [c] := by
  unfold Txt.item Txt.charAt
  rw [StrLaws.at_nonneg (n := c) (by omega) (by simpa using h)]
  rfl
theorem clip_hi (l : Option Int) {b n : Nat} (h : n ≤ b) : Builtin.Str.strSliceIndices l (some (b : Int)) 1 n = Builtin.Str.strSliceIndices l (some (n : Int)) 1 n := by
  have h1 : ¬ ((b : Int) < 0) := by omega
  have h2 : ¬ ((n : Int) < 0) := by omega
  have e1 : max (0 : Int) (min (b : Int) (n : Int)) = n := by omega
  have e2 : max (0 : Int) (min (n : Int) (n : Int)) = n := by omega
  simp only [Builtin.Str.strSliceIndices, h1, h2, if_false, e1, e2, show ((1 : Int) > 0) = True from by simp, if_true]
theorem clip_lo {a n : Nat} (u : Option Int) (h : n ≤ a) : Builtin.Str.strSliceIndices (some (a : Int)) u 1 n = Builtin.Str.strSliceIndices (some (n : Int)) u 1 n := by
  have h1 : ¬ ((a : Int) < 0) := by omega
  have h2 : ¬ ((n : Int) < 0) := by omega
  have e1 : max (0 : Int) (min (a : Int) (n : Int)) = n := by omega
  have e2 : max (0 : Int) (min (n : Int) (n : Int)) = n := by omega
  simp only [Builtin.Str.strSliceIndices, h1, h2, if_false, e1, e2, show ((1 : Int) > 0) = True from by simp, if_true]
theorem T_slice (l : List Nat) {a b : Nat} (h : a ≤ b) : Txt.slice (T l) (some (a : Int)) (some (b : Int)) = T ((l.drop a).take (b - a)) := by
  show StrLaws.sliceText (T l) _ _ = _
  rcases Nat.le_total b l.length with hb | hb
  · rw [StrLaws.sliceText_nat (T l) h (by rw [T_len]; exact hb)]
  · have e : StrLaws.sliceText (T l) (some (a : Int)) (some (b : Int)) = StrLaws.sliceText (T l) (some (a : Int)) (some (l.length : Int)) := by
      unfold StrLaws.sliceText
      rw [T_len, clip_hi _ hb]
    rw [e, List.take_of_length_le (by rw [List.length_drop]; omega)]
    rcases Nat.le_total a l.length with ha | ha
    · rw [StrLaws.sliceText_nat (T l) ha (by rw [T_len]; exact Nat.le_refl _), List.take_of_length_le (by rw [List.length_drop]; exact Nat.le_refl _)]
    · have e : StrLaws.sliceText (T l) (some (a : Int)) (some (l.length : Int)) = StrLaws.sliceText (T l) (some (l.length : Int)) (some (l.length : Int)) := by
        unfold StrLaws.sliceText
        rw [T_len, clip_lo _ ha]
      rw [e, StrLaws.sliceText_nat (T l) (Nat.le_refl _) (by rw [T_len]; exact Nat.le_refl _), Nat.sub_self, List.take_zero, List.drop_eq_nil_of_le ha]
theorem T_sliceTo (l : List Nat) (b : Nat) : Txt.slice (T l) none (some (b : Int)) = T (l.take b) := by
  have e : Txt.slice (T l) none (some (b : Int)) = Txt.slice (T l) (some ((0 : Nat) : Int)) (some (b : Int)) := by unfold Txt.slice; rw [StrLaws.sliceIdx_none_lo]; rfl
  rw [e, T_slice l (Nat.zero_le _), List.drop_zero, Nat.sub_zero]
theorem T_sliceFrom (l : List Nat) {a : Nat} (h : a ≤ l.length) : Txt.slice (T l) (some (a : Int)) none = T (l.drop a) := by
  have e : Txt.slice (T l) (some (a : Int)) none = Txt.slice (T l) (some (a : Int)) (some (l.length : Int)) := by unfold Txt.slice; rw [StrLaws.sliceIdx_none_hi, T_len]
  rw [e, T_slice l h, List.take_of_length_le (by rw [List.length_drop]; exact Nat.le_refl _)]
theorem T_butLast (l : List Nat) (h : 0 < l.length) : Txt.slice (T l) none (some (-1)) = T l.dropLast := by
  have e : Txt.slice (T l) none (some (-1)) = Txt.slice (T l) none (some ((l.length - 1 : Nat) : Int)) := by
    unfold Txt.slice Builtin.Str.strSliceIndices
    rw [T_len]
    have h1 : ((-1 : Int) < 0) := by omega
    have h2 : ¬ (((l.length - 1 : Nat) : Int) < 0) := by omega
    have e1 : max (0 : Int) (min (-1 + (l.length : Int)) (l.length : Int)) = max (0 : Int) (min ((l.length - 1 : Nat) : Int) (l.length : Int)) := by omega
    simp only [h1, h2, if_true, if_false, e1, show ((1 : Int) > 0) = True from by simp]
  rw [e, T_sliceTo, List.dropLast_eq_take]
theorem T_last {l : List Nat} {c : Nat} (h : l.getLast? = some c) : Txt.item (T l) (-1) = T [c] := by
  have hl : 0 < l.length := List.length_pos_iff.mpr fun q => by rw [q] at h; cases h
  unfold Txt.item Txt.charAt
  rw [StrLaws.seqIndex_neg (by omega) (by rw [T_len]; omega), T_len]
  have : ((-1 : Int) + (l.length : Int)).toNat = l.length - 1 := by omega
  rw [Option.bind_some, this]
  show (⟨#[(l.toArray[l.length - 1]?).getD 0]⟩ : Str) = _
  rw [List.getElem?_toArray, ← List.getLast?_eq_getElem?, h]
  rfl
theorem T_has (l : List Nat) (c : Nat) : Txt.contains (T l) (T [c]) = decide (c ∈ l) := by
  show (!(Builtin.Str.occurrences (T l) ⟨#[c]⟩ 0 (T l).length 1).isEmpty) = _
  rw [StrLaws.found_one]
noncomputable def ixOr : Option Nat → Int
  | some i => i
  | none => -1
theorem T_find (l : List Nat) (c : Nat) : Txt.find (T l) (T [c]) = ixOr (l.idxOf? c) := by
  have at_iff : ∀ i, StrLaws.At (T l) (T [c]) (T l).length i ↔ l[i]? = some c := fun i => by
    exact StrLaws.subAt_one (T l) c i
  rcases find_whole (T l) (T [c]) with ⟨h1, h2⟩ | ⟨i, h1, h2, h3⟩
  · rw [h1]
    cases e : l.idxOf? c with
    | none => rfl
    | some i =>
      exfalso
      refine h2 i ((at_iff i).mpr ?_)
      unfold List.idxOf? at e
      obtain ⟨h, q, _⟩ := List.findIdx?_eq_some_iff_getElem.mp e
      rw [List.getElem?_eq_getElem h, beq_iff_eq.mp q]
  · rw [h1]
    have : l.idxOf? c = some i := by
      unfold List.idxOf?
      have hi := (at_iff i).mp h2
      obtain ⟨hl, he⟩ := List.getElem?_eq_some_iff.mp hi
      refine List.findIdx?_eq_some_iff_getElem.mpr ⟨hl, beq_iff_eq.mpr he, fun j hj q => h3 j hj ((at_iff j).mpr ?_)⟩
      rw [List.getElem?_eq_getElem (by omega), beq_iff_eq.mp q]
    rw [this]
    rfl
theorem T_join : ∀ l : List (List Nat), Txt.join (T []) (l.map T) = T l.flatten
  | [] => rfl
  | [x] => by show T x = _; simp
  | x :: y :: r => by
    have ih := T_join (y :: r)
    unfold Txt.join at ih ⊢
    rw [StrLaws.glued_eq_join] at ih ⊢
    rw [List.map_cons, List.map_cons]
    show T x ++ T [] ++ Str.join (T []) (T y :: r.map T) = _
    rw [← List.map_cons, ih]
    show T x ++ T [] ++ T (y :: r).flatten = T (x ++ (y :: r).flatten)
    rw [T_app x [], List.append_nil, T_app]
theorem T_chars (l : List Nat) : charsOf (T l) = l.map fun c => tx [c] := rfl
end
section
variable [Pm]

section
variable {S : St} {b : Nat} {sc : Scope} {δ : List (Str × PyData)} {μ μ' : List (Str × Mut)} {e e₂ test : Expr} {es : List Expr} {pos : Pos} {c d : Bool}
theorem EvE.orB (h : EvE S b sc δ μ e (.ok (.bool c)) μ) (r : c = false → EvE S b sc δ μ (.BoolOp .Or (e₂ :: es) pos) (.ok (.bool d)) μ) : EvE S b sc δ μ (.BoolOp .Or (e :: e₂ :: es) pos) (.ok (.bool (c || d))) μ := by
  cases c with
  | true => exact .or h ⟨rfl, rfl⟩
  | false => exact .or h (r rfl)
theorem EvE.andB (h : EvE S b sc δ μ e (.ok (.bool c)) μ) (r : c = true → EvE S b sc δ μ (.BoolOp .And (e₂ :: es) pos) (.ok (.bool d)) μ) : EvE S b sc δ μ (.BoolOp .And (e :: e₂ :: es) pos) (.ok (.bool (c && d))) μ := by
  cases c with
  | true => exact .and h (r rfl)
  | false => exact .and h ⟨rfl, rfl⟩
theorem EvT.orB (h : EvT S b sc δ μ e (.ok c) μ) (r : c = false → EvT S b sc δ μ (.BoolOp .Or es pos) (.ok d) μ) : EvT S b sc δ μ (.BoolOp .Or (e :: es) pos) (.ok (c || d)) μ := by
  cases c with
  | true => exact .or h ⟨rfl, rfl⟩
  | false => exact .or h (r rfl)
theorem EvT.andB (h : EvT S b sc δ μ e (.ok c) μ) (r : c = true → EvT S b sc δ μ (.BoolOp .And es pos) (.ok d) μ) : EvT S b sc δ μ (.BoolOp .And (e :: es) pos) (.ok (c && d)) μ := by
  cases c with
  | true => exact .and h (r rfl)
  | false => exact .and h ⟨rfl, rfl⟩
end

section
variable {S : St} {b : Nat} {sc scope : Scope} {δ : List (Str × PyData)} {μ μ₁ μ' : List (Str × Mut)} {e o iter target elt : Expr} {es : List Expr} {pos p np apos : Pos} {a name : Str} {id : String} {y d : PyData} {ds rs : List PyData}
theorem EvE.m1 (ho : EvE S b sc δ μ o (.ok (.str a)) μ₁) (h : EvE S b sc δ μ₁ e (.ok y) μ') (p : Prim S (fun vs => PySem.call (.builtin id) vs) [.str a, y] d)
    (hg : ∀ (A : Around) (t : Tok) (pl : Sem Bool) (E : Value → Shared → Prop) (Q : Value × List Value → Shared → Prop) (s : Shared), Q (.builtin id, [.str a t]) s → wpAny S.M A (getMethod (.str a t) name pl) Q E s)
    (he : ∀ env, eval (.Call (.Attribute o name apos) [e] [] pos) env = (do
      let ov ← eval o env
      standAt apos.atName
      let (f, first) ← holding [ov] (getMethod ov name (do let r ← importBound o env; pure (r.getD true)))
      callWith pos f first (backTo pos (starEach [e] env)) []) := by intro _; kernel_rfl)
    (hs : noStar [e] := by intro _; rfl) : EvE S b sc δ μ (.Call (.Attribute o name apos) [e] [] pos) (.ok d) μ' := .meth1 ho h p hg he hs
theorem EvE.comp0 (hi : EvI S b sc δ μ target iter (.ok ds) μ₁) (ok : CompOk scope) (hcl : freeNames scope = []) (hl : EvL S b (inner scope sc) [] [] target elt ds (.ok rs) []) (hz : ds.length ≤ sizeLine)
    (hst : ∀ env x, foldedSetIterable iter env x = pure x := by intro _ _; kernel_rfl) : EvE S b sc δ μ (.ListComp elt [⟨target, iter, [], 0⟩] scope pos) (.ok (.list rs)) μ₁ :=
  .compG (δc := []) hi ok (by rw [hcl]; trivial) trivial hl hz kept_none hst
end

theorem onT {α : Type} {c : Bool} {a b r : α} (hc : c = true) (h : (if c = true then a else b) = r) : a = r := (if_pos hc).symm.trans h
theorem onF {α : Type} {c : Bool} {a b r : α} (hc : c = false) (h : (if c = true then a else b) = r) : b = r := (if_neg (ne_true_of_eq_false hc)).symm.trans h
/-! signs -/
noncomputable def nb (c : Nat) : Bool := (decide (65 ≤ c) && decide (c ≤ 90)) || ((decide (97 ≤ c) && decide (c ≤ 122)) || (c == 95 || (c == 63 || (c == 46 || c == 64))))
noncomputable def fg (c : Nat) : Bool := decide (48 ≤ c) && decide (c ≤ 57)
noncomputable def np (c : Nat) : Bool := nb c || fg c
noncomputable def up (c : Nat) : Nat := if decide (97 ≤ c) && decide (c ≤ 122) then c - 32 else c

theorem one_beq (a c : Nat) : (T [a] == T [c]) = (c == a) := by
  rw [T_beq, Bool.eq_iff_iff, beq_iff_eq, beq_iff_eq]
  exact ⟨fun h => (List.cons.inj h).1.symm, fun h => by rw [h]⟩
section
variable {S : St} {K : Frag} {cR : Addr} {b : Nat}
theorem w_is_name_begin (H : Has S K cR) (c : Nat) : CalN S (b + 1) "is_name_begin" [tx [c]] (.ok (.bool (nb c))) := by
  refine .mk H.O (H.fn 13 _ ["sign"] (by kernel_rfl)) (.of (by kernel_rfl)) (.ret _ []) (.ret (.ret (.orB (.within (.name (by kernel_rfl))) fun _ => .orB (.within (.name (by kernel_rfl))) fun _ => .bool1 (.cmp (.cons (.name rfl) (.cons (.tup (.cons .cStr (.cons .cStr (.cons .cStr (.cons .cStr .nil))))) .nil)) ?_))))
  have e : (c == 95 || (c == 63 || (c == 46 || c == 64))) = ((["_", "?", ".", "@"] : List Str).any (· == T [c])) := by
    show _ = (("_" : Str) == T [c] || (("?" : Str) == T [c] || (("." : Str) == T [c] || (("@" : Str) == T [c] || false))))
    rw [show ("_" : Str) = T [95] by kernel_rfl, show ("?" : Str) = T [63] by kernel_rfl, show ("." : Str) = T [46] by kernel_rfl, show ("@" : Str) = T [64] by kernel_rfl, one_beq, one_beq, one_beq, one_beq, Bool.or_false]
  rw [e]
  exact prim_intup (ss := ["_", "?", ".", "@"])
theorem w_is_figure (H : Has S K cR) (c : Nat) : CalN S (b + 1) "is_figure" [tx [c]] (.ok (.bool (fg c))) :=
  .mk H.O (H.fn 14 _ ["sign"] (by kernel_rfl)) (.of (by kernel_rfl)) (.ret _ []) (.ret (.ret (.within (.name (by kernel_rfl)))))
theorem w_is_name_part (H : Has S K cR) (c : Nat) : CalN S (b + 2) "is_name_part" [tx [c]] (.ok (.bool (np c))) :=
  .mk H.O (H.fn 15 _ ["sign"] (by kernel_rfl)) (.of (by kernel_rfl)) (.ret _ []) (.ret (.ret (.orB (.call H.O (w_is_name_begin H c) (.cons (.name rfl) .nil) (by kernel_rfl)) fun _ => .bool1 (.call H.O (w_is_figure H c) (.cons (.name rfl) .nil) (by kernel_rfl)))))

/-! capital letters -/
theorem chars_joined (f : Nat → Nat) (l : List Nat) (hl : l.length ≤ 100000) : Prim S (fun vs => PySem.call (.builtin "str.join") vs) [tx [], .list ((l.map fun c => T [f c]).map .str)] (tx (l.map f)) := by
  have e1 : ∀ l : List Nat, (l.map fun c => T [f c]) = (l.map fun c => [f c]).map T := fun l => by rw [List.map_map]; rfl
  have e2 : ∀ l : List Nat, (l.map fun c => [f c]).flatten = l.map f := fun l => by
    induction l with
    | nil => rfl
    | cons c l ih => rw [List.map_cons, List.flatten_cons, ih]; rfl
  have e3 : Txt.join (T []) (l.map fun c => T [f c]) = T (l.map f) := by rw [e1, T_join, e2]
  have e4 : ∀ l : List Nat, ((l.map fun c => T [f c]).map (·.length)).sum = l.length := fun l => by
    induction l with
    | nil => rfl
    | cons c l ih => rw [List.map_cons, List.map_cons, List.sum_cons, ih]; show 1 + l.length = l.length + 1; omega
  show Prim S _ _ (.str (T (l.map f)))
  rw [← e3]
  refine prim_join (a := T []) ?_
  rw [e4, List.length_map]
  show l.length + l.length * 0 ≤ _
  omega
theorem w_capital (H : Has S K cR) (l : List Nat) (hl : l.length ≤ 100000) : CalN S (b + 1) "capital" [tx l] (.ok (tx (l.map up))) := by
  refine .mk H.O (H.fn 16 _ ["text"] (by kernel_rfl)) (.of (by kernel_rfl)) (.ret _ []) (.ret (.ret ?_))
  refine .m1 .cStr (.comp0 (rs := (l.map fun c => T [up c]).map .str) (.str (.name rfl)) (.of (by kernel_rfl)) (by kernel_rfl) ?_ ?_) ?_ (gm_join S _)
  · rw [T_chars]
    clear hl
    induction l with
    | nil => exact .nil
    | cons c l ih =>
      refine EvL.cons (.name (by kernel_rfl)) ?_ (ih.weak trivial)
      refine .ite (.within (lo := 97) (hi := 122) (n := c) (.name (by kernel_rfl))) ?_
      by_cases h : (decide (97 ≤ c) && decide (c ≤ 122)) = true
      · have h' := h
        simp only [Bool.and_eq_true, decide_eq_true_eq] at h'
        obtain ⟨n1, b1⟩ := H.bi "chr" (.builtin "chr") (by kernel_rfl)
        obtain ⟨n2, b2⟩ := H.bi "ord" (.builtin "ord") (by kernel_rfl)
        rw [if_pos h]
        refine .callB H.O n1 b1 (by kernel_rfl) (.cons (.bin (.cons (.callB H.O n2 b2 (by kernel_rfl) (.cons (.name (d := tx [c]) (by kernel_rfl)) .nil) (prim_ord (by kernel_rfl))) (.cons .cInt .nil)) prim_sub) .nil) ?_
        have e : T [up c] = ⟨#[((((T [c]).cps.getD 0 0 : Nat) : Int) - 32).toNat]⟩ := by
          unfold up
          rw [if_pos h]
          show T [c - 32] = T [((c : Int) - 32).toNat]
          rw [T_inj]
          congr 1
          omega
        show Prim S _ _ (.str (T [up c]))
        rw [e]
        refine prim_chr ?_ ?_
        · show 0 ≤ (c : Int) - 32
          omega
        · show (c : Int) - 32 ≤ 0x10FFFF
          omega
      · rw [if_neg h]
        have e : up c = c := by unfold up; rw [if_neg h]
        show EvE S b _ _ _ _ (.ok (.str (T [up c]))) _
        rw [e]
        exact .name (by kernel_rfl)
  · rw [T_chars, List.length_map]; exact Nat.le_trans hl (by decide)
  · rw [show ("" : Str) = T [] by kernel_rfl]
    exact chars_joined up l hl
end
end
section
variable [Pm]

noncomputable def runs : List Nat → Nat
  | [] => 0
  | c :: l => if np c then runs l + 1 else 0
theorem drop_get {α : Type} {l m : List α} {i : Nat} {c : α} (h : l.drop i = c :: m) : l[i]? = some c ∧ l.drop (i + 1) = m ∧ i < l.length := by
  obtain ⟨h1, h2⟩ := drop_cons h
  exact ⟨h1, h2, (List.getElem?_eq_some_iff.mp h1).1⟩

section
variable {S : St} {K : Frag} {cR : Addr} {b : Nat}
theorem Has.blt (H : Has S K cR) {n : Str} {id : String} (h : bis.lookup n = some (.builtin id)) : S.mg n = none ∧ S.mb n = some (.builtin id) := H.bi n _ h
theorem EvE.len (H : Has S K cR) {sc : Scope} {δ : List (Str × PyData)} {μ : List (Str × Mut)} {e : Expr} {np pos : Pos} {l : List Nat} (h : EvE S b sc δ μ e (.ok (tx l)) μ) (hl : l.length < 2 ^ 61) (hk : sc.names.lookup ("len" : Str) = some .globalImplicit) (hs : noStar [e] := by intro _; rfl) :
    EvE S b sc δ μ (.Call (.Name "len" np) [e] [] pos) (.ok (.int l.length)) μ := by
  obtain ⟨h1, h2⟩ := H.blt (n := "len") (id := "len") (by kernel_rfl)
  have p : Prim S (fun vs => PySem.call (.builtin "len") vs) [tx l] (.int (T l).length) := prim_lenS (by rw [T_len]; omega)
  rw [T_len] at p
  exact .callB H.O h1 h2 hk (.cons h .nil) p hs
/-- text[at] -/
theorem EvE.at {sc : Scope} {δ : List (Str × PyData)} {μ : List (Str × Mut)} {e i : Expr} {pos : Pos} {l : List Nat} {k c : Nat} (he : EvE S b sc δ μ e (.ok (tx l)) μ) (hi : EvE S b sc δ μ i (.ok (.int k)) μ) (h : l[k]? = some c) (hl : l.length < 2 ^ 61) (hs : plainSlice i := by intro _ _; rfl) :
    EvE S b sc δ μ (.Subscript e i pos) (.ok (tx [c])) μ := by
  have hk := (List.getElem?_eq_some_iff.mp h).1
  have p : Prim S (two (subscriptTail e i)) [tx l, .int k] (.str (Txt.item (T l) k)) := prim_strAt (by omega) (by rw [T_len]; omega) (by omega) hs
  rw [T_item h] at p
  exact .sub (.cons he (.cons hi .nil)) p

theorem w_run_end (H : Has S K cR) (l : List Nat) (hl : l.length < 2 ^ 61) (i : Nat) (hi : i ≤ l.length) : CalN S (b + 3) "run_end" [tx l, .int i] (.ok (.int ((i + runs (l.drop i) : Nat)))) := by
  refine .mk H.O (H.fn 17 _ ["text", "at"] (by kernel_rfl)) (.of (by kernel_rfl)) (.ret _ []) (.cons (δ₁ := [("text", tx l), ("at", .int ((i + runs (l.drop i) : Nat)))]) (μ₁ := []) (.while ?_) (.ret (.ret (.name (by kernel_rfl)))))
  refine (?_ : ∀ m i, l.drop i = m → i ≤ l.length → EvW S (b + 2) (sk 17) [("text", tx l), ("at", .int (i : Nat))] [] _ _ (.next [("text", tx l), ("at", .int ((i + runs m : Nat)))] [])) _ i rfl hi
  intro m
  induction m with
  | nil =>
    intro i hd hi
    have : l.length ≤ i := List.drop_eq_nil_iff.mp hd
    refine .stop (.and (c := false) (.cmp (.cons (.name rfl) (.cons (.len H (.name rfl) hl (by kernel_rfl)) .nil)) ?_) ⟨rfl, rfl⟩)
    have e : false = decide ((i : Int) < (l.length : Int)) := by rw [decide_eq_false]; omega
    rw [e]
    exact prim_lt
  | cons c m ih =>
    intro i hd hi
    obtain ⟨h1, h2, h3⟩ := drop_get hd
    have e : decide ((i : Int) < (l.length : Int)) = true := by rw [decide_eq_true]; omega
    by_cases h : np c = true
    · have er : i + runs (c :: m) = i + 1 + runs m := by show i + (if np c then runs m + 1 else 0) = _; rw [if_pos h]; omega
      rw [er]
      refine .turn (μ₁ := []) (μ₂ := []) (δ₂ := [("text", tx l), ("at", .int ((i + 1 : Nat)))]) (.and (c := true) (.cmp (.cons (.name rfl) (.cons (.len H (.name rfl) hl (by kernel_rfl)) .nil)) (e ▸ prim_lt)) (.and (c := true) (.val (h ▸ .call H.O (w_is_name_part H c) (.cons (.at (.name rfl) (.name rfl) h1 hl) .nil) (by kernel_rfl))) .andNil)) ?_ (ih _ h2 h3)
      exact .less (.cons (.aug (d := .int ((i + 1 : Nat))) rfl .cInt prim_iadd (by kernel_rfl)) .nil) ⟨by kernel_rfl, by kernel_rfl, trivial⟩
    · have h : np c = false := by simpa using h
      have er : i + runs (c :: m) = i := by show i + (if np c then runs m + 1 else 0) = _; rw [h]; rfl
      rw [er]
      exact .stop (.and (c := true) (.cmp (.cons (.name rfl) (.cons (.len H (.name rfl) hl (by kernel_rfl)) .nil)) (e ▸ prim_lt)) (.and (c := false) (.val (h ▸ .call H.O (w_is_name_part H c) (.cons (.at (.name rfl) (.name rfl) h1 hl) .nil) (by kernel_rfl))) ⟨rfl, rfl⟩))
end
end
section
variable [Pm]

/-! parts of the text -/
noncomputable def stm (i j : Nat) : Stmt := (bd i).getD j (.Pass ⟨0, 0, 0, 0⟩)
noncomputable def forT : Stmt → Expr
  | .For t _ _ _ _ => t
  | _ => .Constant .none 0 ⟨0, 0, 0, 0⟩
noncomputable def forB : Stmt → List Stmt
  | .For _ _ b _ _ => b
  | _ => []
noncomputable def whT : Stmt → Expr
  | .While t _ _ _ => t
  | _ => .Constant .none 0 ⟨0, 0, 0, 0⟩
noncomputable def whB : Stmt → List Stmt
  | .While _ b _ _ => b
  | _ => []

noncomputable def digs : List Nat := [48, 49, 50, 51, 52, 53, 54, 55, 56, 57, 65, 66, 67, 68, 69, 70]
noncomputable def dv (base : Nat) : List Nat → Nat → Option Nat
  | [], a => some a
  | c :: l, a => match digs.idxOf? c with
    | some i => if i < base then dv base l (a * base + i) else none
    | none => none
noncomputable def dval (base : Nat) (l : List Nat) : Option Nat := if l.isEmpty then none else dv base l 0
noncomputable def optD : Option Nat → PyData
  | none => .none
  | some v => .int v

theorem bits_small {n : Nat} (h : n ≤ 16) : Builtin.Int.intBits (n : Int) ≤ 64 := by
  unfold Builtin.Int.intBits
  split
  · exact Nat.zero_le _
  · have : n.log2 < 63 := by
      rcases Nat.eq_zero_or_pos n with q | q
      · rw [q]; decide
      · exact (Nat.log2_lt (by omega)).mpr (by omega)
    show n.log2 + 1 ≤ 64
    omega
section
variable {S : St} {K : Frag} {cR : Addr} {b : Nat}
theorem EvE.find (H : Has S K cR) {sc : Scope} {δ : List (Str × PyData)} {μ : List (Str × Mut)} {e : Expr} {np pos apos : Pos} {c : Nat} {w : Int} (he : EvE S b sc δ μ e (.ok (tx [c])) μ) (hw : ixOr (digs.idxOf? c) = w) (hk : sc.names.lookup ("DIGITS" : Str) = some .globalImplicit)
    (hm : ∀ env, eval (.Call (.Attribute (.Name "DIGITS" np) "find" apos) [e] [] pos) env = (do
      let ov ← eval (.Name "DIGITS" np) env
      standAt apos.atName
      let (f, first) ← holding [ov] (getMethod ov "find" (do let r ← importBound (.Name "DIGITS" np) env; pure (r.getD true)))
      callWith pos f first (backTo pos (starEach [e] env)) []) := by intro _; kernel_rfl) (hs : noStar [e] := by intro _; rfl) :
    EvE S b sc δ μ (.Call (.Attribute (.Name "DIGITS" np) "find" apos) [e] [] pos) (.ok (.int w)) μ := by
  subst hw
  refine .m1 (a := T digs) (.glob H.O (by
    have := H.dat "DIGITS" (.str "0123456789ABCDEF") (by kernel_rfl)
    rwa [show ("0123456789ABCDEF" : Str) = T digs by kernel_rfl] at this) hk) he ?_ (gm_find S _) hm hs
  rw [← T_find]
  exact prim_find

theorem digits_loop (H : Has S K cR) (F : PyData) (base : Nat) (hb : base ≤ 16) : ∀ (l : List Nat) (a : Nat), EvF S b (sk 18) [("figures", F), ("base", .int base), ("found", .int a)] [] (forT (stm 18 1)) (forB (stm 18 1)) (l.map fun c => tx [c])
    (match dv base l a with | some v => .next [("figures", F), ("base", .int base), ("found", .int v)] [] | none => .ret .none [])
  | [], a => .nil
  | c :: l, a => by
    cases hi : digs.idxOf? c with
    | none =>
      have e : dv base (c :: l) a = none := by unfold dv; rw [hi]
      rw [e]
      refine .ret (.name (by kernel_rfl)) (.cons (.set (.find H (c := c) (w := -1) (.name (by kernel_rfl)) (by rw [hi]; rfl) (by kernel_rfl)) (by kernel_rfl)) (.ret (.ite (c := true) (.or (c := true) (.cmp (.cons (.name rfl) (.cons .cInt .nil)) (prim_lt (i := -1) (j := 0))) ⟨rfl, rfl⟩) (.ret (.ret .cNone)))))
    | some i =>
      by_cases hlt : i < base
      · have e : dv base (c :: l) a = dv base l (a * base + i) := by
          show (match digs.idxOf? c with | some i => if i < base then dv base l (a * base + i) else none | none => none) = _
          rw [hi]; exact if_pos hlt
        rw [e]
        refine .turn (μ₂ := []) (.name (by kernel_rfl)) ?_ (digits_loop H F base hb l (a * base + i))
        have t1 : decide ((i : Int) < 0) = false := by rw [decide_eq_false]; omega
        have t2 : decide ((base : Int) ≤ (i : Int)) = false := by rw [decide_eq_false]; omega
        refine .less (.cons (.set (.find H (c := c) (w := i) (.name (by kernel_rfl)) (by rw [hi]; rfl) (by kernel_rfl)) (by kernel_rfl)) (.cons (.ite (c := false) (.or (c := false) (.cmp (.cons (.name rfl) (.cons .cInt .nil)) (t1 ▸ prim_lt)) (.or (c := false) (.cmp (.cons (.name rfl) (.cons (.name rfl) .nil)) (t2 ▸ prim_ge)) .orNil)) .nil) (.cons (.set (d := .int ((a * base + i : Nat))) (.bin (.cons (.bin (.cons (.name rfl) (.cons (.name rfl) .nil)) (prim_mul (.of_right ?_))) (.cons (.name rfl) .nil)) ?_) (by kernel_rfl)) .nil))) ⟨by kernel_rfl, by kernel_rfl, by kernel_rfl, trivial⟩
        · exact bits_small hb
        · have e : (((a * base + i : Nat)) : Int) = (a : Int) * (base : Int) + (i : Int) := by push_cast; rfl
          rw [e]
          exact prim_add
      · have e : dv base (c :: l) a = none := by
          show (match digs.idxOf? c with | some i => if i < base then dv base l (a * base + i) else none | none => none) = _
          rw [hi]; exact if_neg hlt
        rw [e]
        have t1 : decide ((i : Int) < 0) = false := by rw [decide_eq_false]; omega
        have t2 : decide ((base : Int) ≤ (i : Int)) = true := by rw [decide_eq_true]; omega
        exact .ret (.name (by kernel_rfl)) (.cons (.set (.find H (c := c) (w := i) (.name (by kernel_rfl)) (by rw [hi]; rfl) (by kernel_rfl)) (by kernel_rfl)) (.ret (.ite (c := true) (.or (c := false) (.cmp (.cons (.name rfl) (.cons .cInt .nil)) (t1 ▸ prim_lt)) (.or (c := true) (.cmp (.cons (.name rfl) (.cons (.name rfl) .nil)) (t2 ▸ prim_ge)) ⟨rfl, rfl⟩)) (.ret (.ret .cNone)))))
end
end
section
variable [Pm]

section
variable {S : St} {a c : Str} {i j : Int}
theorem prim_seq : Prim S (two (compareOp .Eq)) [.str a, .str c] (.bool (a == c)) := by
  with_unfolding_all
  intro A Y vs R E s hh hu hs hY D k
  obtain ⟨v, w, rfl, p, q⟩ := datas2 D
  obtain ⟨t, rfl⟩ := p.str; obtain ⟨t', rfl⟩ := q.str
  have e : (a.cps.toList == c.cps.toList) = (a == c) := by
    rw [Bool.eq_iff_iff, beq_iff_eq, beq_iff_eq]
    exact ⟨fun h => by cases a; cases c; simpa using h, fun h => by rw [h]⟩
  exact P.eq_str (by rw [e]; exact k _ s.heap s.toks keepsSame dataBool)
theorem prim_sne : Prim S (two (compareOp .NotEq)) [.str a, .str c] (.bool (!(a == c))) := by
  with_unfolding_all
  intro A Y vs R E s hh hu hs hY D k
  obtain ⟨v, w, rfl, p, q⟩ := datas2 D
  obtain ⟨t, rfl⟩ := p.str; obtain ⟨t', rfl⟩ := q.str
  have e : (a.cps.toList == c.cps.toList) = (a == c) := by
    rw [Bool.eq_iff_iff, beq_iff_eq, beq_iff_eq]
    exact ⟨fun h => by cases a; cases c; simpa using h, fun h => by rw [h]⟩
  exact P.ne_str (by show R (.bool (!(a.cps.toList == c.cps.toList))) s; rw [e]; exact k _ s.heap s.toks keepsSame dataBool)
theorem prim_ieq : Prim S (two (compareOp .Eq)) [.int i, .int j] (.bool (i == j)) := by
  with_unfolding_all
  intro A Y vs R E s hh hu hs hY D k
  obtain ⟨v, w, rfl, p, q⟩ := datas2 D
  obtain ⟨t, rfl⟩ := p.int; obtain ⟨t', rfl⟩ := q.int
  exact PyProof.Rows.eq_int (k _ s.heap s.toks keepsSame dataBool)
end

section
variable {S : St} {b : Nat} {sc : Scope} {δ : List (Str × PyData)} {μ μ' : List (Str × Mut)} {e i j : Expr} {pos p p' : Pos} {k m n : Nat} {l : List Nat}
theorem EvE.neg1 : EvE S b sc δ μ (.UnaryOp .USub (.Constant (.int 1) k p) p') (.ok (.int (-1))) μ := .un .cInt prim_neg
theorem sl_ok {l : List Nat} (hl : l.length ≤ 100000) : (T l).length ≤ sizeLine := by rw [T_len]; exact Nat.le_trans hl (by decide)
theorem EvE.slTo (he : EvE S b sc δ μ e (.ok (tx l)) μ) (hi : EvE S b sc δ μ i (.ok (.int (n : Nat))) μ) (hl : l.length ≤ 100000) (ht : plainBase e := by intro _ _; rfl) : EvE S b sc δ μ (.Subscript e (.Slice none (some i) none p) pos) (.ok (tx (l.take n))) μ := by
  have q : EvE S b sc δ μ (.Subscript e (.Slice none (some i) none p) pos) _ μ := .strNS (.cons he (.cons hi .nil)) (sl_ok hl) ht
  rw [T_sliceTo] at q; exact q
theorem EvE.slFrom (he : EvE S b sc δ μ e (.ok (tx l)) μ) (hi : EvE S b sc δ μ i (.ok (.int (n : Nat))) μ) (hn : n ≤ l.length) (hl : l.length ≤ 100000) (ht : plainBase e := by intro _ _; rfl) : EvE S b sc δ μ (.Subscript e (.Slice (some i) none none p) pos) (.ok (tx (l.drop n))) μ := by
  have q : EvE S b sc δ μ (.Subscript e (.Slice (some i) none none p) pos) _ μ := .strSN (.cons he (.cons hi .nil)) (sl_ok hl) ht
  rw [T_sliceFrom l hn] at q; exact q
theorem EvE.slBoth (he : EvE S b sc δ μ e (.ok (tx l)) μ) (hi : EvE S b sc δ μ i (.ok (.int (n : Nat))) μ) (hj : EvE S b sc δ μ j (.ok (.int (m : Nat))) μ) (hn : n ≤ m) (hl : l.length ≤ 100000) (ht : plainBase e := by intro _ _; rfl) : EvE S b sc δ μ (.Subscript e (.Slice (some i) (some j) none p) pos) (.ok (tx ((l.drop n).take (m - n)))) μ := by
  have q : EvE S b sc δ μ (.Subscript e (.Slice (some i) (some j) none p) pos) _ μ := .strSS (.cons he (.cons hi (.cons hj .nil))) (sl_ok hl) ht
  rw [T_slice l hn] at q; exact q
theorem EvE.slLess (he : EvE S b sc δ μ e (.ok (tx l)) μ) (hi : EvE S b sc δ μ i (.ok (.int (-1))) μ) (h : 0 < l.length) (hl : l.length ≤ 100000) (ht : plainBase e := by intro _ _; rfl) : EvE S b sc δ μ (.Subscript e (.Slice none (some i) none p) pos) (.ok (tx l.dropLast)) μ := by
  have q : EvE S b sc δ μ (.Subscript e (.Slice none (some i) none p) pos) _ μ := .strNS (.cons he (.cons hi .nil)) (sl_ok hl) ht
  rw [T_butLast l h] at q; exact q
theorem prim_teq {l m : List Nat} {X Z : Str} (hX : X = T l) (hZ : Z = T m) : Prim S (two (compareOp .Eq)) [.str X, .str Z] (.bool (l == m)) := by
  subst hX hZ; rw [← T_beq]; exact prim_seq
theorem prim_tne {l m : List Nat} {X Z : Str} (hX : X = T l) (hZ : Z = T m) : Prim S (two (compareOp .NotEq)) [.str X, .str Z] (.bool (!(l == m))) := by
  subst hX hZ; rw [← T_beq]; exact prim_sne
theorem prim_thas {l : List Nat} {Z : Str} {c : Nat} (hZ : Z = T l) : Prim S (two (compareOp .In)) [tx [c], .str Z] (.bool (decide (c ∈ l))) := by
  subst hZ; rw [← T_has]; exact prim_instr
end

noncomputable def sfx (c : Nat) : Option Nat := if c == 72 then some 16 else if c == 66 then some 2 else if c == 79 then some 8 else if c == 81 then some 8 else if c == 68 then some 10 else none
noncomputable def numOf (l : List Nat) : Option Nat := if l.take 2 == [48, 88] then dval 16 (l.drop 2) else match dval 10 l with
  | some v => some v
  | none => match l.getLast? with
    | some c => match sfx c with
      | some b => dval b l.dropLast
      | none => none
    | none => none

section
variable {S : St} {K : Frag} {cR : Addr} {b : Nat}
theorem w_digits_value (H : Has S K cR) (base : Nat) (hb : base ≤ 16) (l : List Nat) : CalN S (b + 1) "digits_value" [tx l, .int base] (.ok (optD (dval base l))) := by
  have key := digits_loop (b := b) H (tx l) base hb l 0
  have hf := H.fn 18 "digits_value" ["figures", "base"] (by kernel_rfl)
  have ok : ScOk (sk 18) ["figures", "base"] := .of (by kernel_rfl)
  have key := EvF.weak (δ := [("found", .int 0), ("figures", tx l), ("base", .int base)]) key ⟨by kernel_rfl, by kernel_rfl, by kernel_rfl, trivial⟩
  cases hv : dv base l 0 with
  | none =>
    rw [hv] at key
    have e : dval base l = none := by unfold dval; rw [hv]; split <;> rfl
    rw [e]
    exact .mk H.O hf ok (.ret _ []) (.cons (.set .cInt (by kernel_rfl)) (.ret (.for (.str (.name (d := tx l) (by kernel_rfl))) key)))
  | some v =>
    rw [hv] at key
    have hne : ∀ m, l = m → (l == ([] : List Nat)) = l.isEmpty := fun m _ => by cases l <;> rfl
    refine .mk H.O hf ok (.ret _ []) (.cons (.set .cInt (by kernel_rfl)) (.cons (.for (.str (.name (d := tx l) (by kernel_rfl))) key) (.ret (.ret (.ite (.cmp (.cons (.name rfl) (.cons .cStr .nil)) (prim_tne rfl (m := []) (by kernel_rfl))) ?_)))))
    rw [hne l rfl]
    unfold dval
    cases he : l.isEmpty with
    | true => exact .cNone
    | false => rw [hv]; exact .name (by kernel_rfl)
theorem look_one (k c : Nat) (d : PyData) (r : List (PyData × PyData)) : Spec.lookup (tx [c]) ((tx [k], d) :: r) = if c == k then some d else Spec.lookup (tx [c]) r := by
  rw [← one_beq]
  rfl
theorem sfx_look (c : Nat) : (Spec.lookup (tx [c]) [(.str "H", .int 16), (.str "B", .int 2), (.str "O", .int 8), (.str "Q", .int 8), (.str "D", .int 10)]).getD .none = optD (sfx c) := by
  rw [show ("H" : Str) = T [72] by kernel_rfl, show ("B" : Str) = T [66] by kernel_rfl, show ("O" : Str) = T [79] by kernel_rfl, show ("Q" : Str) = T [81] by kernel_rfl, show ("D" : Str) = T [68] by kernel_rfl]
  rw [look_one, look_one, look_one, look_one, look_one]
  unfold sfx
  cases c == 72 <;> cases c == 66 <;> cases c == 79 <;> cases c == 81 <;> cases c == 68 <;> rfl
end
end
section
variable [Pm]

section
variable {S : St} {b : Nat} {sc : Scope} {δ : List (Str × PyData)} {μ μ' : List (Str × Mut)} {test value e₁ e₂ : Expr} {body orelse rest : List Stmt} {pos np : Pos} {so : SO} {d : PyData} {n : Str} {c c' u : Bool} {t : Str} {out : Out PyData}
theorem EvSs.skip (h : EvT S b sc δ μ test (.ok c) μ) (e : c = false) (r : EvSs S b sc δ μ rest so) : EvSs S b sc δ μ (.If test body [] pos :: rest) so := by
  subst e; exact .cons (.ite (c := false) h .nil) r
theorem EvSs.hit (h : EvT S b sc δ μ test (.ok c) μ) (e : c = true) (r : EvSs S b sc δ μ body (.ret d μ')) : EvSs S b sc δ μ (.If test body orelse pos :: rest) (.ret d μ') := by
  subst e; exact .ret (.ite (c := true) h r)
theorem EvSs.hitX (h : EvT S b sc δ μ test (.ok c) μ) (e : c = true) (r : EvSs S b sc δ μ body (.exc u t)) : EvSs S b sc δ μ (.If test body orelse pos :: rest) (.exc u t) := by
  subst e; exact .exc (.ite (c := true) h r)
theorem EvSs.set (h : EvE S b sc δ μ value (.ok d) μ) (hk : sc.names.lookup n = some .local) (r : EvSs S b sc ((n, d) :: δ) μ rest so) (hμ : μ.lookup n = none := by rfl) (hs : ∀ env, env.scope = sc → swapsWith value (some (.Name n np)) pos.line env = pure false := by intro _ _; rfl) :
    EvSs S b sc δ μ (.Assign [.Name n np] value pos :: rest) so := .cons (.set h hk hμ hs) r
theorem EvE.iteT (h : EvT S b sc δ μ test (.ok c) μ) (e : c = true) (r : EvE S b sc δ μ e₁ out μ') : EvE S b sc δ μ (.IfExp test e₁ e₂ pos) out μ' := by
  subst e; exact .ite (c := true) h r
theorem EvE.iteF (h : EvT S b sc δ μ test (.ok c) μ) (e : c = false) (r : EvE S b sc δ μ e₂ out μ') : EvE S b sc δ μ (.IfExp test e₁ e₂ pos) out μ' := by
  subst e; exact .ite (c := false) h r
theorem EvT.as (h : EvT S b sc δ μ test (.ok c) μ') (e : c = c') : EvT S b sc δ μ test (.ok c') μ' := e ▸ h
end
section
variable {S : St} {K : Frag} {cR : Addr} {b : Nat}
noncomputable def sfxD : List (PyData × PyData) := [(.str "H", .int 16), (.str "B", .int 2), (.str "O", .int 8), (.str "Q", .int 8), (.str "D", .int 10)]
theorem prim_last {l : List Nat} {c : Nat} {value slice : Expr} (h : l.getLast? = some c) (hl : l.length ≤ 100000) (hs : plainSlice slice := by intro _ _; rfl) : Prim S (two (subscriptTail value slice)) [tx l, .int (-1)] (tx [c]) := by
  have h0 : 0 < l.length := List.length_pos_iff.mpr fun q => by rw [q] at h; cases h
  have p : Prim S (two (subscriptTail value slice)) [.str (T l), .int (-1)] (.str (Txt.item (T l) (-1))) := prim_strNeg (by omega) (by rw [T_len]; omega) (by omega) hs
  rw [T_last h] at p
  exact p
theorem w_number_of (H : Has S K cR) (l : List Nat) (hne : 0 < l.length) (hl : l.length ≤ 100000) : CalN S (b + 2) "number_of" [tx l] (.ok (optD (numOf l))) := by
  have hf := H.fn 19 "number_of" ["told"] (by kernel_rfl)
  have ok : ScOk (sk 19) ["told"] := .of (by kernel_rfl)
  cases c1 : l.take 2 == [48, 88] with
  | true =>
    have h2 : 2 ≤ l.length := by
      have := congrArg List.length (beq_iff_eq.mp c1)
      rw [List.length_take] at this
      simp at this
      omega
    have e : numOf l = dval 16 (l.drop 2) := by unfold numOf; rw [if_pos c1]
    rw [e]
    exact .mk H.O hf ok (.ret _ []) (.hit (.cmp (.cons (.slTo (n := 2) (.name rfl) .cInt hl) (.cons .cStr .nil)) (prim_teq rfl (by kernel_rfl))) c1 (.ret (.ret (.call H.O (w_digits_value H 16 (by omega) (l.drop 2)) (.cons (.slFrom (n := 2) (.name rfl) .cInt h2 hl) (.cons .cInt .nil)) (by kernel_rfl)))))
  | false =>
    obtain ⟨c, hc⟩ : ∃ c, l.getLast? = some c := by
      cases e : l.getLast? with
      | some c => exact ⟨c, rfl⟩
      | none => rw [List.getLast?_eq_none_iff] at e; rw [e] at hne; cases hne
    refine .mk H.O hf ok (.ret _ []) (.skip (.cmp (.cons (.slTo (n := 2) (.name rfl) .cInt hl) (.cons .cStr .nil)) (prim_teq rfl (by kernel_rfl))) c1 (.set (.call H.O (w_digits_value H 10 (by omega) l) (.cons (.name rfl) (.cons .cInt .nil)) (by kernel_rfl)) (by kernel_rfl) ?_))
    cases hd : dval 10 l with
    | some v =>
      have e : numOf l = some v := by unfold numOf; rw [c1, hd]; rfl
      rw [e]
      exact .hit (.cmp (.cons (.name rfl) (.cons .cNone .nil)) (prim_isnt (x := .int v))) rfl (.ret (.ret (.name (by kernel_rfl))))
    | none =>
      refine .skip (.cmp (.cons (.name rfl) (.cons .cNone .nil)) (prim_isnt (x := .none))) rfl ?_
      have p : Prim S (fun vs => PySem.call (.builtin "dict.get") vs) [.dict sfxD, tx [c]] (optD (sfx c)) := by
        rw [← sfx_look]
        exact prim_dget1 H.O
      refine .set (.dget H.O (.dict H.O (kvs := sfxD) (by kernel_rfl) (by kernel_rfl) (by decide) (by simp)) (.cons (.sub (.cons (.name rfl) (.cons .neg1 .nil)) (prim_last hc hl)) .nil) p) (by kernel_rfl) ?_
      cases hs : sfx c with
      | none =>
        have e : numOf l = none := by unfold numOf; rw [c1, hd, hc]; show (match sfx c with | some b => dval b l.dropLast | none => none) = _; rw [hs]
        rw [e]
        exact .ret (.ret (.iteT (.cmp (.cons (.name rfl) (.cons .cNone .nil)) (prim_is (x := .none))) rfl .cNone))
      | some w =>
        have hw : w ≤ 16 := by
          unfold sfx at hs
          repeat (split at hs; · cases hs; decide)
          cases hs
        have e : numOf l = dval w l.dropLast := by unfold numOf; rw [c1, hd, hc]; show (match sfx c with | some b => dval b l.dropLast | none => none) = _; rw [hs]
        rw [e]
        exact .ret (.ret (.iteF (.cmp (.cons (.name rfl) (.cons .cNone .nil)) (prim_is (x := .int w))) rfl (.call H.O (w_digits_value H w hw l.dropLast) (.cons (.slLess (.name rfl) .neg1 hne hl) (.cons (.name (d := .int w) (by kernel_rfl)) .nil)) (by kernel_rfl))))
end
end
section
variable [Pm]

section
variable {S : St} {K : Frag} {cR : Addr} {b : Nat} {sc : Scope} {δ : List (Str × PyData)} {μ μ' : List (Str × Mut)} {msg e : Expr} {rest : List Stmt} {pos cp p cpos : Pos} {k : Nat} {t : Str} {a c : Str}
theorem EvSs.raiseA (H : Has S K cR) (h : EvE S b sc δ μ msg (.ok (.str t)) μ) (hk : sc.names.lookup ("AsmError" : Str) = some .globalImplicit) (hb : 2 ≤ b) (hs : noStar [.Constant (.int 0) k p, msg] := by intro _; rfl) (hplain : ∀ env, (backTo cpos (starEach [msg] env)).any (·.1) = false := by intro _; rfl) :
    EvSs S b sc δ μ (.Raise (some (.Call (.Name "AsmError" cp) [.Constant (.int 0) k p, msg] [] cpos)) none pos :: rest) (.exc false t) :=
  .exc (.raise H.O H.E.toExcT.toExcS H.gA (H.kc false) (.cons .cInt (.cons h .nil)) hk hb hs (by decide) hplain)
theorem EvSs.raiseU (H : Has S K cR) (h : EvE S b sc δ μ msg (.ok (.str t)) μ) (hk : sc.names.lookup ("Unknown" : Str) = some .globalImplicit) (hb : 2 ≤ b) (hs : noStar [.Constant (.int 0) k p, msg] := by intro _; rfl) (hplain : ∀ env, (backTo cpos (starEach [msg] env)).any (·.1) = false := by intro _; rfl) :
    EvSs S b sc δ μ (.Raise (some (.Call (.Name "Unknown" cp) [.Constant (.int 0) k p, msg] [] cpos)) none pos :: rest) (.exc true t) :=
  .exc (.raise H.O H.E.toExcT.toExcS H.gU (H.kc true) (.cons .cInt (.cons h .nil)) hk hb hs (by decide) hplain)
end

theorem EvE.tp [Pm] {S : St} {b : Nat} {sc : Scope} {δ : List (Str × PyData)} {μ μ' : List (Str × Mut)} {es : List Expr} {ds : List PyData} {k : Nat} {pos : Pos} (h : EvEs S b sc δ μ es (.ok ds) μ') (hs : noStar es := by intro _; rfl) (hz : Nat.ble ds.length sizeLine = true := by kernel_rfl) :
    EvE S b sc δ μ (.Tuple es k pos) (.ok (.tuple ds)) μ' := .tup h hs (Nat.le_of_ble_eq_true hz)
theorem EvE.ls [Pm] {S : St} {b : Nat} {sc : Scope} {δ : List (Str × PyData)} {μ μ' : List (Str × Mut)} {es : List Expr} {ds : List PyData} {pos : Pos} (h : EvEs S b sc δ μ es (.ok ds) μ') (hs : noStar es := by intro _; rfl) (hz : Nat.ble ds.length sizeLine = true := by kernel_rfl) :
    EvE S b sc δ μ (.List es pos) (.ok (.list ds)) μ' := .lst h hs (Nat.le_of_ble_eq_true hz)
/-! tokens -/
inductive Tk where
  | num (v : Nat)
  | name (s : Str)
  | text (s : Str)
  | sign (s : Str)
  | fin
noncomputable def Tk.enc : Tk → PyData
  | .num v => .tuple [.str "number", .int v]
  | .name s => .tuple [.str "name", .str s]
  | .text s => .tuple [.str "text", .str s]
  | .sign s => .tuple [.str "sign", .str s]
  | .fin => .tuple [.str "end", .str ""]
/-- what a reading of one token gives: the token and how many signs it takes, or an error -/
inductive Lx where
  | tok (t : Tk) (n : Nat)
  | bad (t : Str)
noncomputable def Lx.so (i : Nat) : Lx → SO
  | .tok t n => .ret (.tuple [t.enc, .int ((i + n : Nat))]) []
  | .bad t => .exc false t
noncomputable def Lx.out (i : Nat) : Lx → Out PyData
  | .tok t n => .ok (.tuple [t.enc, .int ((i + n : Nat))])
  | .bad t => .exc false t
theorem Lx.so_out (i : Nat) (x : Lx) : x.out i = (x.so i).out := by cases x <;> rfl

noncomputable def numLx (c : Nat) (m : List Nat) (k : Nat) (v : Option Nat) : Lx := match v with
  | some v => if v ≤ 65535 then .tok (.num v) k else .bad ("no number: " ++ T ((c :: m).take k))
  | none => .bad ("no number: " ++ T ((c :: m).take k))
noncomputable def numAt (c : Nat) (m : List Nat) : Lx :=
  if c == 36 || c == 37 then numLx c m (runs m + 1) (dval (if c == 36 then 16 else 2) ((m.take (runs m)).map up))
  else numLx c m (runs (c :: m)) (numOf (((c :: m).take (runs (c :: m))).map up))

section
variable {S : St} {K : Frag} {cR : Addr} {b : Nat}
theorem number_tail (H : Has S K cR) (l : List Nat) (hl : l.length ≤ 100000) (i : Nat) (c : Nat) (m : List Nat) (hd : l.drop i = c :: m) (k : Nat) (hk : k ≤ (c :: m).length) (v : Option Nat) (X Z : PyData) :
    EvSs S (b + 3) (sk 21) [("value", optD v), ("told", X), ("end", .int ((i + k : Nat))), ("begin", Z), ("row", tx l), ("at", .int (i : Nat))] [] ((bd 21).drop 4) ((numLx c m k v).so i) := by
  have hbad : ∀ {p1 p2 p3 p4 p5 p6 p7 p8 p9 p10 p11 : Pos} {k1 k2 : Nat}, EvSs S (b + 3) (sk 21) [("value", optD v), ("told", X), ("end", .int ((i + k : Nat))), ("begin", Z), ("row", tx l), ("at", .int (i : Nat))] []
      [.Raise (some (.Call (.Name "AsmError" p1) [.Constant (.int 0) k1 p2, .BinOp (.Constant (.str "no number: ") k2 p3) .Add (.Subscript (.Name "row" p4) (.Slice (some (.Name "at" p5)) (some (.Name "end" p6)) none p7) p8) p9] [] p10)) none p11] (.exc false ("no number: " ++ T ((c :: m).take k))) := by
    intro p1 p2 p3 p4 p5 p6 p7 p8 p9 p10 p11 k1 k2
    refine .raiseA H (.bin (.cons .cStr (.cons ?_ .nil)) (prim_cat ?_)) (by kernel_rfl) (by omega)
    · have q : EvE S (b + 3) (sk 21) [("value", optD v), ("told", X), ("end", .int ((i + k : Nat))), ("begin", Z), ("row", tx l), ("at", .int (i : Nat))] [] (.Subscript (.Name "row" p4) (.Slice (some (.Name "at" p5)) (some (.Name "end" p6)) none p7) p8) _ [] := .slBoth (n := i) (m := i + k) (.name (by kernel_rfl)) (.name (by kernel_rfl)) (.name (by kernel_rfl)) (Nat.le_add_right _ _) hl
      rw [hd, Nat.add_sub_cancel_left] at q
      exact q
    · rw [T_len (List.take k (c :: m)), List.length_take]
      show 11 + _ ≤ _
      have : (c :: m).length ≤ l.length := by rw [← hd, List.length_drop]; omega
      exact Nat.le_trans (show _ ≤ 100011 by omega) (by decide)
  cases v with
  | none => exact .hitX (.or (c := true) (.cmp (.cons (.name rfl) (.cons .cNone .nil)) (prim_is (x := .none))) ⟨rfl, rfl⟩) rfl hbad
  | some w =>
    by_cases hw : w ≤ 65535
    · have e1 : decide ((65535 : Int) < (w : Int)) = false := by rw [decide_eq_false]; omega
      have e2 : numLx c m k (some w) = .tok (.num w) k := if_pos hw
      rw [e2]
      exact .skip (.or (c := false) (.cmp (.cons (.name rfl) (.cons .cNone .nil)) (prim_is (x := .int w))) (.or (c := false) (.as (.cmp (.cons (.name rfl) (.cons .cInt .nil)) prim_gt) e1) .orNil)) rfl
        (.ret (.ret (.tp (.cons (.tp (.cons .cStr (.cons (.name rfl) .nil))) (.cons (.name rfl) .nil)))))
    · have e1 : decide ((65535 : Int) < (w : Int)) = true := by rw [decide_eq_true]; omega
      have e2 : numLx c m k (some w) = .bad ("no number: " ++ T ((c :: m).take k)) := if_neg hw
      rw [e2]
      exact .hitX (.or (c := false) (.cmp (.cons (.name rfl) (.cons .cNone .nil)) (prim_is (x := .int w))) (.or (c := true) (.as (.cmp (.cons (.name rfl) (.cons .cInt .nil)) prim_gt) e1) ⟨rfl, rfl⟩)) rfl hbad

theorem runs_le : ∀ m : List Nat, runs m ≤ m.length
  | [] => Nat.le_refl _
  | c :: m => by unfold runs; split; exact Nat.succ_le_succ (runs_le m); exact Nat.zero_le _
theorem w_number_at (H : Has S K cR) (l : List Nat) (hl : l.length ≤ 100000) (i : Nat) (c : Nat) (m : List Nat) (hd : l.drop i = c :: m) (hc : (c == 36 || c == 37) = true ∨ np c = true) :
    CalN S (b + 4) "number_at" [tx l, .int (i : Nat)] ((numAt c m).out i) := by
  have hf := H.fn 21 "number_at" ["row", "at"] (by kernel_rfl)
  have ok : ScOk (sk 21) ["row", "at"] := .of (by kernel_rfl)
  obtain ⟨h1, h2, h3⟩ := drop_get hd
  have hml : (c :: m).length ≤ 100000 := by rw [← hd, List.length_drop]; omega
  have hm : decide (c ∈ [36, 37]) = (c == 36 || c == 37) := by
    rw [Bool.eq_iff_iff]; simp
  refine .mk H.O hf ok ((numAt c m).so i) ?_ (Lx.so_out ..)
  cases hp : c == 36 || c == 37 with
  | true =>
    have e : numAt c m = numLx c m (runs m + 1) (dval (if c == 36 then 16 else 2) ((m.take (runs m)).map up)) := if_pos hp
    rw [e]
    refine .set (d := .int ((i + 1 : Nat))) (.iteT (.cmp (.cons (.at (.name rfl) (.name rfl) h1 (by omega)) (.cons .cStr .nil)) (prim_thas (l := [36, 37]) (by kernel_rfl))) (hm.trans hp) (.bin (.cons (.name rfl) (.cons .cInt .nil)) prim_add)) (by kernel_rfl) ?_
    have r := w_run_end (b := b) H l (by omega) (i + 1) (by omega)
    rw [h2] at r
    refine .set (.call H.O r (.cons (.name rfl) (.cons (.name rfl) .nil)) (by kernel_rfl)) (by kernel_rfl) ?_
    have sl : ∀ {p1 p2 p3 p4 p5 : Pos}, EvE S (b + 3) (sk 21) [("end", .int ((i + 1 + runs m : Nat))), ("begin", .int ((i + 1 : Nat))), ("row", tx l), ("at", .int (i : Nat))] [] (.Subscript (.Name "row" p1) (.Slice (some (.Name "begin" p2)) (some (.Name "end" p3)) none p4) p5) (.ok (tx (m.take (runs m)))) [] := by
      intro p1 p2 p3 p4 p5
      have q : EvE S (b + 3) (sk 21) [("end", .int ((i + 1 + runs m : Nat))), ("begin", .int ((i + 1 : Nat))), ("row", tx l), ("at", .int (i : Nat))] [] (.Subscript (.Name "row" p1) (.Slice (some (.Name "begin" p2)) (some (.Name "end" p3)) none p4) p5) _ [] := .slBoth (n := i + 1) (m := i + 1 + runs m) (.name (by kernel_rfl)) (.name (by kernel_rfl)) (.name (by kernel_rfl)) (Nat.le_add_right _ _) hl
      rw [h2, Nat.add_sub_cancel_left] at q
      exact q
    have ht : (m.take (runs m)).length ≤ 100000 := by rw [List.length_take]; have : m.length < (c :: m).length := Nat.lt_succ_self _; omega
    refine .set (.call H.O (w_capital (b := b + 2) H (m.take (runs m)) ht) (.cons sl .nil) (by kernel_rfl)) (by kernel_rfl) ?_
    have tail := number_tail (b := b) H l hl i c m hd (runs m + 1) (by have := runs_le m; exact Nat.succ_le_succ this) (dval (if c == 36 then 16 else 2) ((m.take (runs m)).map up)) (tx ((m.take (runs m)).map up)) (.int ((i + 1 : Nat)))
    rw [show i + (runs m + 1) = i + 1 + runs m by omega] at tail
    have ne : ((((i + 1 : Nat) : Int)) == (i : Int)) = false := by rw [beq_eq_false_iff_ne]; omega
    refine .set (.iteF (.cmp (.cons (.name rfl) (.cons (.name rfl) .nil)) prim_ieq) ne (.call H.O (w_digits_value (b := b + 2) H (if c == 36 then 16 else 2) (by split <;> omega) ((m.take (runs m)).map up)) (.cons (.name (d := tx ((m.take (runs m)).map up)) (by kernel_rfl)) (.cons ?_ .nil)) (by kernel_rfl))) (by kernel_rfl) tail
    refine .ite (.cmp (.cons (.at (.name rfl) (.name rfl) h1 (by omega)) (.cons .cStr .nil)) (prim_teq (l := [c]) (m := [36]) rfl (by kernel_rfl))) ?_
    have e36 : ([c] == [36]) = (c == 36) := by rw [Bool.eq_iff_iff]; simp
    rw [e36]
    cases c == 36 <;> exact .cInt
  | false =>
    have hn : np c = true := by rcases hc with q | q; rw [hp] at q; cases q; exact q
    have e : numAt c m = numLx c m (runs (c :: m)) (numOf (((c :: m).take (runs (c :: m))).map up)) := by unfold numAt; rw [hp]; rfl
    rw [e]
    refine .set (d := .int (i : Nat)) (.iteF (.cmp (.cons (.at (.name rfl) (.name rfl) h1 (by omega)) (.cons .cStr .nil)) (prim_thas (l := [36, 37]) (by kernel_rfl))) (hm.trans hp) (.name (by kernel_rfl))) (by kernel_rfl) ?_
    have r := w_run_end (b := b) H l (by omega) i (by omega)
    rw [hd] at r
    refine .set (.call H.O r (.cons (.name rfl) (.cons (.name rfl) .nil)) (by kernel_rfl)) (by kernel_rfl) ?_
    have sl : ∀ {p1 p2 p3 p4 p5 : Pos}, EvE S (b + 3) (sk 21) [("end", .int ((i + runs (c :: m) : Nat))), ("begin", .int (i : Nat)), ("row", tx l), ("at", .int (i : Nat))] [] (.Subscript (.Name "row" p1) (.Slice (some (.Name "begin" p2)) (some (.Name "end" p3)) none p4) p5) (.ok (tx ((c :: m).take (runs (c :: m))))) [] := by
      intro p1 p2 p3 p4 p5
      have q : EvE S (b + 3) (sk 21) [("end", .int ((i + runs (c :: m) : Nat))), ("begin", .int (i : Nat)), ("row", tx l), ("at", .int (i : Nat))] [] (.Subscript (.Name "row" p1) (.Slice (some (.Name "begin" p2)) (some (.Name "end" p3)) none p4) p5) _ [] := .slBoth (n := i) (m := i + runs (c :: m)) (.name (by kernel_rfl)) (.name (by kernel_rfl)) (.name (by kernel_rfl)) (Nat.le_add_right _ _) hl
      rw [hd, Nat.add_sub_cancel_left] at q
      exact q
    have ht : ((c :: m).take (runs (c :: m))).length ≤ 100000 := by rw [List.length_take]; omega
    refine .set (.call H.O (w_capital (b := b + 2) H _ ht) (.cons sl .nil) (by kernel_rfl)) (by kernel_rfl) ?_
    have tail := number_tail (b := b) H l hl i c m hd (runs (c :: m)) (runs_le _) (numOf (((c :: m).take (runs (c :: m))).map up)) (tx (((c :: m).take (runs (c :: m))).map up)) (.int (i : Nat))
    have eq : (((i : Nat) : Int) == (i : Int)) = true := beq_self_eq_true _
    have hpos : 0 < (((c :: m).take (runs (c :: m))).map up).length := by
      rw [List.length_map, List.length_take]
      have : runs (c :: m) = runs m + 1 := by show (if np c then runs m + 1 else 0) = _; rw [if_pos hn]
      rw [this]
      show 0 < min (runs m + 1) (m.length + 1)
      omega
    exact .set (.iteT (.cmp (.cons (.name rfl) (.cons (.name rfl) .nil)) prim_ieq) eq (.call H.O (w_number_of (b := b + 1) H _ hpos (by rw [List.length_map]; exact ht)) (.cons (.name (by kernel_rfl)) .nil) (by kernel_rfl))) (by kernel_rfl) tail
end
end
section
variable [Pm]

noncomputable def pref (c : Nat) (m : List Nat) : Bool := if c == 36 then (match m with | d :: _ => decide (up d ∈ digs) | [] => false) else c == 37 && (match m with | d :: _ => up d == 48 || up d == 49 | [] => false)

theorem eqb1 (a c : Nat) : ([a] == [c]) = (a == c) := by
  rw [Bool.eq_iff_iff, beq_iff_eq, beq_iff_eq]
  exact ⟨fun h => (List.cons.inj h).1, fun h => by rw [h]⟩
theorem EvE.one {S : St} {b : Nat} {sc : Scope} {δ : List (Str × PyData)} {μ : List (Str × Mut)} {l m : List Nat} {i c : Nat} {e a a' : Expr} {p3 p4 p6 p7 p8 p9 : Pos} {k1 k2 : Nat} (hd : l.drop i = c :: m) (he : EvE S b sc δ μ e (.ok (tx l)) μ) (ha : EvE S b sc δ μ a (.ok (.int (i : Nat))) μ) (hl : l.length ≤ 100000)
    (ha' : EvE S b sc δ μ a' (.ok (.int (i : Nat))) μ := by assumption) (ht : plainBase e := by intro _ _; rfl) :
    EvE S b sc δ μ (.Subscript e (.Slice (some (.BinOp a .Add (.Constant (.int 1) k1 p3) p4)) (some (.BinOp a' .Add (.Constant (.int 2) k2 p6) p7)) none p8) p9) (.ok (tx (m.take 1))) μ := by
  have q : EvE S b sc δ μ (.Subscript e (.Slice (some (.BinOp a .Add (.Constant (.int 1) k1 p3) p4)) (some (.BinOp a' .Add (.Constant (.int 2) k2 p6) p7)) none p8) p9) _ μ := .slBoth (n := i + 1) (m := i + 2) he (.bin (.cons ha (.cons .cInt .nil)) prim_add) (.bin (.cons ha' (.cons .cInt .nil)) prim_add) (by omega) hl ht
  rw [(drop_get hd).2.1, show i + 2 - (i + 1) = 1 by omega] at q
  exact q
section
variable {S : St} {K : Frag} {cR : Addr} {b : Nat}
theorem Has.digits (H : Has S K cR) : S.D "DIGITS" (tx digs) := by
  have := H.dat "DIGITS" (.str "0123456789ABCDEF") (by kernel_rfl)
  rwa [show ("0123456789ABCDEF" : Str) = T digs by kernel_rfl] at this
theorem prim_in01 {l : List Nat} : Prim S (two (compareOp .In)) [tx l, .tuple [.str "0", .str "1"]] (.bool ([48] == l || ([49] == l || false))) := by
  have p : Prim S (two (compareOp .In)) [.str (T l), .tuple ((["0", "1"] : List Str).map .str)] _ := prim_intup (ss := ["0", "1"])
  have e : (["0", "1"] : List Str).any (· == T l) = ([48] == l || ([49] == l || false)) := by
    show (("0" : Str) == T l || (("1" : Str) == T l || false)) = _
    rw [show ("0" : Str) = T [48] by kernel_rfl, show ("1" : Str) = T [49] by kernel_rfl, T_beq, T_beq]
  rw [e] at p
  exact p
theorem w_is_prefixed (H : Has S K cR) (l : List Nat) (hl : l.length ≤ 100000) (i : Nat) (c : Nat) (m : List Nat) (hd : l.drop i = c :: m) : CalN S (b + 2) "is_prefixed" [tx l, .int (i : Nat)] (.ok (.bool (pref c m))) := by
  have hf := H.fn 22 "is_prefixed" ["row", "at"] (by kernel_rfl)
  have ok : ScOk (sk 22) ["row", "at"] := .of (by kernel_rfl)
  obtain ⟨h1, h2, h3⟩ := drop_get hd
  have e36 : ([c] == [36]) = (c == 36) := eqb1 c 36
  have e37 : ([c] == [37]) = (c == 37) := eqb1 c 37
  have sl : ∀ {p1 p2 p3 p4 p5 p6 p7 p8 p9 : Pos} {k1 k2 : Nat}, EvE S (b + 1) (sk 22) [("row", tx l), ("at", .int (i : Nat))] [] (.Subscript (.Name "row" p1) (.Slice (some (.BinOp (.Name "at" p2) .Add (.Constant (.int 1) k1 p3) p4)) (some (.BinOp (.Name "at" p5) .Add (.Constant (.int 2) k2 p6) p7)) none p8) p9) (.ok (tx (m.take 1))) [] :=
    .one hd (.name (by kernel_rfl)) (.name (by kernel_rfl)) hl (.name (by kernel_rfl))
  refine .mk H.O hf ok (.ret _ []) (.set (.call H.O (w_capital (b := b) H (m.take 1) (by rw [List.length_take]; omega)) (.cons sl .nil) (by kernel_rfl)) (by kernel_rfl) ?_)
  unfold pref
  cases hc : c == 36 with
  | true =>
    refine .hit (.cmp (.cons (.at (.name rfl) (.name rfl) h1 (by omega)) (.cons .cStr .nil)) (prim_teq (l := [c]) (m := [36]) rfl (by kernel_rfl))) (e36.trans hc) (.ret (.ret ?_))
    cases m with
    | nil => exact .and (c := false) (.cmp (.cons (.name (d := tx []) (by kernel_rfl)) (.cons .cStr .nil)) (prim_tne (l := []) (m := []) rfl (by kernel_rfl))) ⟨rfl, rfl⟩
    | cons d m => exact .and (c := true) (.cmp (.cons (.name (d := tx [up d]) (by kernel_rfl)) (.cons .cStr .nil)) (prim_tne (l := [up d]) (m := []) rfl (by kernel_rfl))) (.bool1 (.cmp (.cons (.name (d := tx [up d]) (by kernel_rfl)) (.cons (.glob H.O H.digits (by kernel_rfl)) .nil)) (prim_thas rfl)))
  | false =>
    refine .skip (.cmp (.cons (.at (.name rfl) (.name rfl) h1 (by omega)) (.cons .cStr .nil)) (prim_teq (l := [c]) (m := [36]) rfl (by kernel_rfl))) (e36.trans hc) (.ret (.ret ?_))
    refine .andB (e37 ▸ .cmp (.cons (.at (.name rfl) (.name rfl) h1 (by omega)) (.cons .cStr .nil)) (prim_teq (l := [c]) (m := [37]) rfl (by kernel_rfl))) fun _ => .bool1 (.cmp (.cons (.name (d := tx ((m.take 1).map up)) (by kernel_rfl)) (.cons (.tp (.cons .cStr (.cons .cStr .nil))) .nil)) ?_)
    cases m with
    | nil => exact prim_in01 (l := [])
    | cons d m =>
      have e : (up d == 48 || up d == 49) = ([48] == [up d] || ([49] == [up d] || false)) := by rw [eqb1, eqb1, Bool.or_false, Bool.beq_comm (a := 48), Bool.beq_comm (a := 49)]
      show Prim S _ _ (.bool (up d == 48 || up d == 49))
      rw [e]
      exact prim_in01 (l := [up d])
end
end
section
variable [Pm]

noncomputable def txAt (q : Nat) : List Nat → List Nat → Nat → Option (List Nat × Nat)
  | [], _, _ => none
  | [c], acc, n => if c == q then some (acc, n + 1) else none
  | c :: d :: m, acc, n => if c == q then (if d == q then txAt q m (acc ++ [q]) (n + 2) else some (acc, n + 1)) else txAt q (d :: m) (acc ++ [c]) (n + 1)
noncomputable def txSo (s : Nat) (l : List Nat) : Option (List Nat × Nat) → SO
  | some (t, k) => .ret (.tuple [tx t, .int ((s + k : Nat))]) []
  | none => .next [("row", tx l), ("at", .int (l.length : Nat))] []

noncomputable def ifT : Stmt → Expr
  | .If t _ _ _ => t
  | _ => .Constant .none 0 ⟨0, 0, 0, 0⟩
section
variable {S : St} {K : Frag} {cR : Addr} {b : Nat}
theorem EvE.cT {sc : Scope} {δ : List (Str × PyData)} {μ : List (Str × Mut)} {X : Str} {k : Nat} {p : Pos} {l : List Nat} (h : X = T l) : EvE S b sc δ μ (.Constant (.str X) k p) (.ok (tx l)) μ := by subst h; exact .cStr
theorem prim_tcat {a c : List Nat} (h : a.length + c.length ≤ 200000) : Prim S (two (binaryOp .Add)) [tx a, tx c] (tx (a ++ c)) := by
  have p : Prim S (two (binaryOp .Add)) [.str (T a), .str (T c)] _ := prim_cat (by rw [T_len, T_len]; exact Nat.le_trans h (by decide))
  rw [T_app] at p
  exact p
theorem text_test (H : Has S K cR) {δ : List (Str × PyData)} {l : List Nat} (hl : l.length ≤ 100000) {i : Nat} (h1 : δ.lookup ("row" : Str) = some (tx l)) (h2 : δ.lookup ("at" : Str) = some (.int (i : Nat))) : EvT S (b + 2) (sk 20) δ [] (whT (stm 20 1)) (.ok (decide (i < l.length))) [] := by
  have e : decide ((i : Int) < (l.length : Int)) = decide (i < l.length) := by rw [decide_eq_decide]; omega
  rw [← e]
  exact .cmp (.cons (.name h2) (.cons (.len (l := l) H (.name h1) (by omega) (by kernel_rfl)) .nil)) prim_lt
theorem text_loop (H : Has S K cR) (l : List Nat) (hl : l.length ≤ 100000) (q s : Nat) : ∀ (m acc : List Nat) (n : Nat), l.drop (s + n) = m → s + n ≤ l.length → acc.length ≤ n →
    EvW S (b + 2) (sk 20) [("row", tx l), ("quote", tx [q]), ("found", tx acc), ("at", .int ((s + n : Nat)))] [] (whT (stm 20 1)) (whB (stm 20 1)) (txSo s l (txAt q m acc n))
  | [], acc, n, hd, hi, ha => by
    have : l.length ≤ s + n := List.drop_eq_nil_iff.mp hd
    have e : s + n = l.length := by omega
    rw [e]
    exact .weak (δ₁ := [("row", tx l), ("at", .int (l.length : Nat))]) (.stop (.as (text_test (l := l) (i := l.length) H hl (by kernel_rfl) (by kernel_rfl)) (by rw [decide_eq_false]; omega))) ⟨by kernel_rfl, by kernel_rfl, trivial⟩
  | c :: m, acc, n, hd, hi, ha => by
    obtain ⟨h1, h2, h3⟩ := drop_get hd
    have tt : EvT S (b + 2) (sk 20) [("row", tx l), ("quote", tx [q]), ("found", tx acc), ("at", .int ((s + n : Nat)))] [] (whT (stm 20 1)) (.ok true) [] := .as (text_test H hl (by kernel_rfl) (by kernel_rfl)) (by rw [decide_eq_true]; omega)
    cases hc : c == q with
    | false =>
      have e : txAt q (c :: m) acc n = txAt q m (acc ++ [c]) (n + 1) := by
        cases m with
        | nil => show (if c == q then _ else _) = _; rw [hc]; rfl
        | cons d m => show (if c == q then _ else _) = _; rw [hc]; rfl
      rw [e]
      refine .turn (μ₁ := []) (μ₂ := []) (δ₂ := [("row", tx l), ("quote", tx [q]), ("found", tx (acc ++ [c])), ("at", .int ((s + (n + 1) : Nat)))]) tt ?_ (text_loop H l hl q s m (acc ++ [c]) (n + 1) (by rw [← h2]; rfl) (by omega) (by rw [List.length_append]; show _ + 1 ≤ _; omega))
      refine .less (.cons (.ite (c := true) (.as (.cmp (.cons (.at (.name rfl) (.name rfl) h1 (by omega)) (.cons (.name rfl) .nil)) (prim_tne (l := [c]) (m := [q]) rfl rfl)) (by rw [eqb1, hc]; rfl))
        (.set (.bin (.cons (.name rfl) (.cons (.at (.name rfl) (.name rfl) h1 (by omega)) .nil)) (prim_tcat (by show _ + 1 ≤ _; omega))) (by kernel_rfl) (.cons (.aug (d := .int ((s + (n + 1) : Nat))) rfl .cInt prim_iadd (by kernel_rfl)) .nil))) .nil) ⟨by kernel_rfl, by kernel_rfl, by kernel_rfl, by kernel_rfl, trivial⟩
    | true =>
      have t1 : EvT S (b + 2) (sk 20) [("row", tx l), ("quote", tx [q]), ("found", tx acc), ("at", .int ((s + n : Nat)))] [] (ifT ((whB (stm 20 1)).getD 0 (.Pass ⟨0, 0, 0, 0⟩))) (.ok false) [] :=
        .as (.cmp (.cons (.at (.name rfl) (.name rfl) h1 (by omega)) (.cons (.name rfl) .nil)) (prim_tne (l := [c]) (m := [q]) rfl rfl)) (by rw [eqb1, hc]; rfl)
      have sl : ∀ {p1 p2 p3 p4 p5 p6 p7 p8 p9 : Pos} {k1 k2 : Nat}, EvE S (b + 2) (sk 20) [("row", tx l), ("quote", tx [q]), ("found", tx acc), ("at", .int ((s + n : Nat)))] [] (.Subscript (.Name "row" p1) (.Slice (some (.BinOp (.Name "at" p2) .Add (.Constant (.int 1) k1 p3) p4)) (some (.BinOp (.Name "at" p5) .Add (.Constant (.int 2) k2 p6) p7)) none p8) p9) (.ok (tx (m.take 1))) [] :=
        .one hd (.name (by kernel_rfl)) (.name (by kernel_rfl)) hl (.name (by kernel_rfl))
      have rt : ∀ {p1 p2 p3 p4 p5 p6 : Pos} {k1 k2 : Nat}, EvSs S (b + 2) (sk 20) [("row", tx l), ("quote", tx [q]), ("found", tx acc), ("at", .int ((s + n : Nat)))] [] [.Return (some (.Tuple [.Name "found" p1, .BinOp (.Name "at" p2) .Add (.Constant (.int 1) k1 p3) p4] k2 p5)) p6] (.ret (.tuple [tx acc, .int ((s + (n + 1) : Nat))]) []) :=
        .ret (.ret (.tp (.cons (.name rfl) (.cons (.bin (d := .int ((s + (n + 1) : Nat))) (.cons (.name rfl) (.cons .cInt .nil)) prim_add) .nil))))
      cases m with
      | nil =>
        have e : txAt q [c] acc n = some (acc, n + 1) := by show (if c == q then _ else _) = _; rw [hc]; rfl
        rw [e]
        exact .ret tt (.ret (.ite (c := false) t1 (.ret (.ite (c := false) (.cmp (.cons sl (.cons (.name rfl) .nil)) (prim_teq (l := []) (m := [q]) rfl rfl)) rt))))
      | cons d m =>
        cases hq : d == q with
        | false =>
          have e : txAt q (c :: d :: m) acc n = some (acc, n + 1) := by show (if c == q then _ else _) = _; rw [hc]; show (if d == q then _ else _) = _; rw [hq]; rfl
          rw [e]
          exact .ret tt (.ret (.ite (c := false) t1 (.ret (.ite (c := false) (.as (.cmp (.cons sl (.cons (.name rfl) .nil)) (prim_teq (l := [d]) (m := [q]) rfl rfl)) (by rw [eqb1, hq])) rt))))
        | true =>
          have e : txAt q (c :: d :: m) acc n = txAt q m (acc ++ [q]) (n + 2) := by show (if c == q then _ else _) = _; rw [hc]; show (if d == q then _ else _) = _; rw [hq]; rfl
          rw [e]
          obtain ⟨g1, g2, g3⟩ := drop_get h2
          refine .turn (μ₁ := []) (μ₂ := []) (δ₂ := [("row", tx l), ("quote", tx [q]), ("found", tx (acc ++ [q])), ("at", .int ((s + (n + 2) : Nat)))]) tt ?_ (text_loop H l hl q s m (acc ++ [q]) (n + 2) (by rw [← g2]; rfl) (by omega) (by rw [List.length_append]; show _ + 1 ≤ _; omega))
          exact .less (.cons (.ite (c := false) t1 (.cons (.ite (c := true) (.as (.cmp (.cons sl (.cons (.name rfl) .nil)) (prim_teq (l := [d]) (m := [q]) rfl rfl)) (by rw [eqb1, hq]))
            (.set (.bin (.cons (.name rfl) (.cons (.name rfl) .nil)) (prim_tcat (by show _ + 1 ≤ _; omega))) (by kernel_rfl) (.cons (.aug (d := .int ((s + (n + 2) : Nat))) rfl .cInt prim_iadd (by kernel_rfl)) .nil))) .nil)) .nil) ⟨by kernel_rfl, by kernel_rfl, by kernel_rfl, by kernel_rfl, trivial⟩

noncomputable def txOut (s : Nat) : Option (List Nat × Nat) → Out PyData
  | some (t, k) => .ok (.tuple [tx t, .int ((s + k : Nat))])
  | none => .exc false "a text without an end"
theorem w_text_at (H : Has S K cR) (l : List Nat) (hl : l.length ≤ 100000) (i q : Nat) (m : List Nat) (hd : l.drop i = q :: m) : CalN S (b + 3) "text_at" [tx l, .int (i : Nat)] (txOut (i + 1) (txAt q m [] 0)) := by
  have hf := H.fn 20 "text_at" ["row", "at"] (by kernel_rfl)
  have ok : ScOk (sk 20) ["row", "at"] := .of (by kernel_rfl)
  obtain ⟨h1, h2, h3⟩ := drop_get hd
  have key := text_loop (b := b) H l hl q (i + 1) m [] 0 h2 (by omega) (Nat.le_refl _)
  have first : EvS S (b + 2) (sk 20) [("row", tx l), ("at", .int (i : Nat))] [] (stm 20 0) (.next [("row", tx l), ("quote", tx [q]), ("found", tx []), ("at", .int ((i + 1 : Nat)))] []) := by
    refine .less (.tup true [("quote", _), ("found", _), ("at", _)] rfl (.dat (d := tx [q]) (.at (.name (by kernel_rfl)) (.name (by kernel_rfl)) h1 (by omega)) (.dat (d := tx []) (.cT (by kernel_rfl)) (.dat (d := .int ((i + 1 : Nat))) (.bin (.cons (.name rfl) (.cons .cInt .nil)) prim_add) .nil))) rfl ⟨by kernel_rfl, rfl, by kernel_rfl, rfl, by kernel_rfl, rfl, trivial⟩ (fun env he => ?_) (hz := Nat.le_of_ble_eq_true (by kernel_rfl))) ?_
    · unfold swappedStores Env.blockKind Env.kindOf; rw [he]; kernel_rfl
    · exact ⟨by kernel_rfl, by kernel_rfl, by kernel_rfl, by kernel_rfl, trivial⟩
  cases ht : txAt q m [] 0 with
  | none =>
    rw [ht] at key
    exact .mk H.O hf ok (.exc _ _) (.cons first (.cons (.while key) (.raiseA H .cStr (by kernel_rfl) (by omega))))
  | some x =>
    rw [ht] at key
    exact .mk H.O hf ok (.ret _ []) (.cons first (.ret (.while key)))
end
end
section
variable [Pm]

noncomputable def s2 (l : List Nat) : Bool := [60, 62] == l || ([60, 61] == l || ([62, 61] == l || false))
noncomputable def signs : List Nat := [43, 45, 42, 47, 40, 41, 44, 61, 60, 62, 58, 36]
noncomputable def nameLx (c : Nat) (m : List Nat) : Lx := if (((c :: m).take (runs (c :: m))).map up == [65, 70] && ((c :: m).drop (runs (c :: m))).take 1 == [39]) then .tok (.name "AF'") (runs (c :: m) + 1) else .tok (.name (T (((c :: m).take (runs (c :: m))).map up))) (runs (c :: m))
noncomputable def textLx (c : Nat) (m : List Nat) : Lx := match txAt c m [] 0 with
  | some (t, k) => .tok (.text (T t)) (1 + k)
  | none => .bad "a text without an end"
noncomputable def tokAt (c : Nat) (m : List Nat) : Lx :=
  if fg c || pref c m then numAt c m
  else if nb c then nameLx c m
  else if decide (c ∈ [39, 34]) then textLx c m
  else if s2 ((c :: m).take 2) then .tok (.sign (T ((c :: m).take 2))) 2
  else if decide (c ∈ signs) then .tok (.sign (T [c])) 1
  else .bad ("a strange sign: " ++ T [c])

noncomputable def ifB : Stmt → List Stmt
  | .If _ b _ _ => b
  | _ => []
section
variable {S : St} {K : Frag} {cR : Addr} {b : Nat}
theorem fg_np {c : Nat} (h : fg c = true) : np c = true := by unfold np; rw [h, Bool.or_true]
theorem pref_c {c : Nat} {m : List Nat} (h : pref c m = true) : (c == 36 || c == 37) = true := by
  unfold pref at h
  cases h1 : c == 36 with
  | true => rfl
  | false =>
    rw [h1] at h
    simp only [Bool.false_eq_true, if_false, Bool.and_eq_true] at h
    rw [h.1]; rfl
theorem Has.quotes (H : Has S K cR) : S.D "QUOTES" (tx [39, 34]) := by
  have := H.dat "QUOTES" (.str "'\"") (by kernel_rfl)
  rwa [show ("'\"" : Str) = T [39, 34] by kernel_rfl] at this
theorem Has.signs (H : Has S K cR) : S.D "SIGNS" (tx Mine.signs) := by
  have := H.dat "SIGNS" (.str "+-*/(),=<>:$") (by kernel_rfl)
  rwa [show ("+-*/(),=<>:$" : Str) = T Mine.signs by kernel_rfl] at this
theorem prim_in2 {l : List Nat} : Prim S (two (compareOp .In)) [tx l, strT ["<>", "<=", ">="]] (.bool (s2 l)) := by
  have p : Prim S (two (compareOp .In)) [.str (T l), .tuple ((["<>", "<=", ">="] : List Str).map .str)] _ := prim_intup (ss := ["<>", "<=", ">="])
  have e : (["<>", "<=", ">="] : List Str).any (· == T l) = s2 l := by
    show (("<>" : Str) == T l || (("<=" : Str) == T l || ((">=" : Str) == T l || false))) = _
    rw [show ("<>" : Str) = T [60, 62] by kernel_rfl, show ("<=" : Str) = T [60, 61] by kernel_rfl, show (">=" : Str) = T [62, 61] by kernel_rfl, T_beq, T_beq, T_beq]
    rfl
  rw [e] at p
  exact p

theorem w_token_at (H : Has S K cR) (l : List Nat) (hl : l.length ≤ 100000) (i : Nat) (c : Nat) (m : List Nat) (hd : l.drop i = c :: m) : CalN S (b + 5) "token_at" [tx l, .int (i : Nat)] ((tokAt c m).out i) := by
  have hf := H.fn 23 "token_at" ["row", "at"] (by kernel_rfl)
  have ok : ScOk (sk 23) ["row", "at"] := .of (by kernel_rfl)
  obtain ⟨h1, h2, h3⟩ := drop_get hd
  refine .mk H.O hf ok ((tokAt c m).so i) (.set (.at (.name rfl) (.name rfl) h1 (by omega)) (by kernel_rfl) ?_) (Lx.so_out ..)
  have t1 : EvT S (b + 4) (sk 23) [("sign", tx [c]), ("row", tx l), ("at", .int (i : Nat))] [] (ifT (stm 23 1)) (.ok (fg c || (pref c m || false))) [] :=
    .orB (.val (.call H.O (w_is_figure (b := b + 3) H c) (.cons (.name rfl) .nil) (by kernel_rfl))) fun _ => .orB (.val (.call H.O (w_is_prefixed (b := b + 2) H l hl i c m hd) (.cons (.name rfl) (.cons (.name rfl) .nil)) (by kernel_rfl))) fun _ => .orNil
  rw [Bool.or_false] at t1
  cases c1 : fg c || pref c m with
  | true =>
    have e : tokAt c m = numAt c m := if_pos c1
    rw [e]
    have hc : (c == 36 || c == 37) = true ∨ np c = true := by
      rcases Bool.or_eq_true_iff.mp c1 with q | q
      · exact .inr (fg_np q)
      · exact .inl (pref_c q)
    have w := w_number_at (b := b) H l hl i c m hd hc
    have cal : ∀ {p1 p2 p3 p4 : Pos}, EvE S (b + 4) (sk 23) [("sign", tx [c]), ("row", tx l), ("at", .int (i : Nat))] [] (.Call (.Name "number_at" p1) [.Name "row" p2, .Name "at" p3] [] p4) ((numAt c m).out i) [] :=
      .call H.O w (.cons (.name (by kernel_rfl)) (.cons (.name (by kernel_rfl)) .nil)) (by kernel_rfl)
    cases hx : numAt c m with
    | tok t n => rw [hx] at cal; exact .hit t1 c1 (.ret (.ret cal))
    | bad t => rw [hx] at cal; exact .hitX t1 c1 (.exc (.retX cal))
  | false =>
    refine .skip t1 c1 ?_
    have t2 : EvT S (b + 4) (sk 23) [("sign", tx [c]), ("row", tx l), ("at", .int (i : Nat))] [] (ifT (stm 23 2)) (.ok (nb c)) [] :=
      .val (.call H.O (w_is_name_begin (b := b + 3) H c) (.cons (.name rfl) .nil) (by kernel_rfl))
    have q2 : (c :: m).length ≤ l.length := by rw [← hd, List.length_drop]; omega
    cases c2 : nb c with
    | true =>
      have e : tokAt c m = nameLx c m := by unfold tokAt; rw [c1, c2]; rfl
      rw [e]
      have r := w_run_end (b := b + 1) H l (by omega) i (by omega)
      rw [hd] at r
      have sl : ∀ {p1 p2 p3 p4 p5 : Pos}, EvE S (b + 4) (sk 23) [("end", .int ((i + runs (c :: m) : Nat))), ("sign", tx [c]), ("row", tx l), ("at", .int (i : Nat))] [] (.Subscript (.Name "row" p1) (.Slice (some (.Name "at" p2)) (some (.Name "end" p3)) none p4) p5) (.ok (tx ((c :: m).take (runs (c :: m))))) [] := by
        intro p1 p2 p3 p4 p5
        have q : EvE S (b + 4) (sk 23) [("end", .int ((i + runs (c :: m) : Nat))), ("sign", tx [c]), ("row", tx l), ("at", .int (i : Nat))] [] (.Subscript (.Name "row" p1) (.Slice (some (.Name "at" p2)) (some (.Name "end" p3)) none p4) p5) _ [] := .slBoth (n := i) (m := i + runs (c :: m)) (.name (by kernel_rfl)) (.name (by kernel_rfl)) (.name (by kernel_rfl)) (Nat.le_add_right _ _) hl
        rw [hd, Nat.add_sub_cancel_left] at q
        exact q
      have ht : ((c :: m).take (runs (c :: m))).length ≤ 100000 := by rw [List.length_take]; omega
      have dr : l.drop (i + runs (c :: m)) = (c :: m).drop (runs (c :: m)) := by rw [← List.drop_drop, hd]
      have sl2 : ∀ {W : PyData} {p1 p2 p3 p4 p5 p6 p7 : Pos} {k : Nat}, EvE S (b + 4) (sk 23) [("told", W), ("end", .int ((i + runs (c :: m) : Nat))), ("sign", tx [c]), ("row", tx l), ("at", .int (i : Nat))] [] (.Subscript (.Name "row" p1) (.Slice (some (.Name "end" p2)) (some (.BinOp (.Name "end" p3) .Add (.Constant (.int 1) k p4) p5)) none p6) p7) (.ok (tx (((c :: m).drop (runs (c :: m))).take 1))) [] := by
        intro W p1 p2 p3 p4 p5 p6 p7 k
        have q : EvE S (b + 4) (sk 23) [("told", W), ("end", .int ((i + runs (c :: m) : Nat))), ("sign", tx [c]), ("row", tx l), ("at", .int (i : Nat))] [] (.Subscript (.Name "row" p1) (.Slice (some (.Name "end" p2)) (some (.BinOp (.Name "end" p3) .Add (.Constant (.int 1) k p4) p5)) none p6) p7) _ [] := .slBoth (n := i + runs (c :: m)) (m := i + runs (c :: m) + 1) (.name (by kernel_rfl)) (.name (by kernel_rfl)) (.bin (.cons (.name rfl) (.cons .cInt .nil)) prim_add) (Nat.le_add_right _ _) hl
        rw [dr, Nat.add_sub_cancel_left] at q
        exact q
      have body : EvSs S (b + 4) (sk 23) [("sign", tx [c]), ("row", tx l), ("at", .int (i : Nat))] [] (ifB (stm 23 2)) ((nameLx c m).so i) := by
        refine .set (.call H.O r (.cons (.name rfl) (.cons (.name rfl) .nil)) (by kernel_rfl)) (by kernel_rfl) (.set (.call H.O (w_capital (b := b + 3) H _ ht) (.cons sl .nil) (by kernel_rfl)) (by kernel_rfl) ?_)
        have t3 : EvT S (b + 4) (sk 23) [("told", tx (((c :: m).take (runs (c :: m))).map up)), ("end", .int ((i + runs (c :: m) : Nat))), ("sign", tx [c]), ("row", tx l), ("at", .int (i : Nat))] [] (ifT ((ifB (stm 23 2)).getD 2 (.Pass ⟨0, 0, 0, 0⟩))) (.ok (((c :: m).take (runs (c :: m))).map up == [65, 70] && (((c :: m).drop (runs (c :: m))).take 1 == [39] && true))) [] :=
          .andB (.cmp (.cons (.name rfl) (.cons .cStr .nil)) (prim_teq rfl (by kernel_rfl))) fun _ => .andB (.cmp (.cons sl2 (.cons .cStr .nil)) (prim_teq rfl (by kernel_rfl))) fun _ => .andNil
        rw [Bool.and_true] at t3
        unfold nameLx
        cases c3 : ((c :: m).take (runs (c :: m))).map up == [65, 70] && ((c :: m).drop (runs (c :: m))).take 1 == [39] with
        | true => exact .hit t3 c3 (.ret (.ret (.tp (.cons (.tp (.cons .cStr (.cons .cStr .nil))) (.cons (.bin (d := .int ((i + (runs (c :: m) + 1) : Nat))) (.cons (.name rfl) (.cons .cInt .nil)) prim_add) .nil)))))
        | false => exact .skip t3 c3 (.ret (.ret (.tp (.cons (.tp (.cons .cStr (.cons (.name rfl) .nil))) (.cons (.name rfl) .nil)))))
      obtain ⟨t, n, hn⟩ : ∃ t n, nameLx c m = .tok t n := by unfold nameLx; split <;> exact ⟨_, _, rfl⟩
      rw [hn] at body ⊢
      exact .hit t2 c2 body
    | false =>
      refine .skip t2 c2 ?_
      have t3 : EvT S (b + 4) (sk 23) [("sign", tx [c]), ("row", tx l), ("at", .int (i : Nat))] [] (ifT (stm 23 3)) (.ok (decide (c ∈ [39, 34]))) [] :=
        .cmp (.cons (.name rfl) (.cons (.glob H.O H.quotes (by kernel_rfl)) .nil)) (prim_thas rfl)
      cases c3 : decide (c ∈ [39, 34]) with
      | true =>
        have e : tokAt c m = textLx c m := by unfold tokAt; rw [c1, c2, c3]; rfl
        rw [e]
        have w := w_text_at (b := b + 1) H l hl i c m hd
        have cal : ∀ {p1 p2 p3 p4 : Pos}, EvE S (b + 4) (sk 23) [("sign", tx [c]), ("row", tx l), ("at", .int (i : Nat))] [] (.Call (.Name "text_at" p1) [.Name "row" p2, .Name "at" p3] [] p4) (txOut (i + 1) (txAt c m [] 0)) [] :=
          .call H.O w (.cons (.name (by kernel_rfl)) (.cons (.name (by kernel_rfl)) .nil)) (by kernel_rfl)
        unfold textLx
        cases hx : txAt c m [] 0 with
        | none => rw [hx] at cal; exact .hitX t3 c3 (.exc (.unpackX cal))
        | some x =>
          obtain ⟨t, k⟩ := x
          rw [hx] at cal
          have ei : i + (1 + k) = i + 1 + k := by omega
          show EvSs _ _ _ _ _ _ (.ret (.tuple [.tuple [.str "text", .str (T t)], .int ((i + (1 + k) : Nat))]) [])
          rw [ei]
          exact .hit t3 c3 (.cons (.unpack cal (.tup [("told", _), ("end", _)] rfl rfl ⟨by kernel_rfl, rfl, by kernel_rfl, rfl, trivial⟩)) (.ret (.ret (.tp (.cons (.tp (.cons .cStr (.cons (.name rfl) .nil))) (.cons (.name rfl) .nil))))))
      | false =>
        refine .skip t3 c3 ?_
        have sl : ∀ {p1 p2 p3 p4 p5 p6 p7 : Pos} {k : Nat}, EvE S (b + 4) (sk 23) [("sign", tx [c]), ("row", tx l), ("at", .int (i : Nat))] [] (.Subscript (.Name "row" p1) (.Slice (some (.Name "at" p2)) (some (.BinOp (.Name "at" p3) .Add (.Constant (.int 2) k p4) p5)) none p6) p7) (.ok (tx ((c :: m).take 2))) [] := by
          intro p1 p2 p3 p4 p5 p6 p7 k
          have q : EvE S (b + 4) (sk 23) [("sign", tx [c]), ("row", tx l), ("at", .int (i : Nat))] [] (.Subscript (.Name "row" p1) (.Slice (some (.Name "at" p2)) (some (.BinOp (.Name "at" p3) .Add (.Constant (.int 2) k p4) p5)) none p6) p7) _ [] := .slBoth (n := i) (m := i + 2) (.name (by kernel_rfl)) (.name (by kernel_rfl)) (.bin (.cons (.name rfl) (.cons .cInt .nil)) prim_add) (Nat.le_add_right _ _) hl
          rw [hd, Nat.add_sub_cancel_left] at q
          exact q
        have t4 : EvT S (b + 4) (sk 23) [("sign", tx [c]), ("row", tx l), ("at", .int (i : Nat))] [] (ifT (stm 23 4)) (.ok (s2 ((c :: m).take 2))) [] :=
          .cmp (.cons sl (.cons (.glob H.O (H.dat "SIGNS_OF_TWO" _ (by kernel_rfl)) (by kernel_rfl)) .nil)) prim_in2
        cases c4 : s2 ((c :: m).take 2) with
        | true =>
          have e : tokAt c m = .tok (.sign (T ((c :: m).take 2))) 2 := by unfold tokAt; rw [c1, c2, c3, c4]; rfl
          rw [e]
          exact .hit t4 c4 (.ret (.ret (.tp (.cons (.tp (.cons .cStr (.cons sl .nil))) (.cons (.bin (d := .int ((i + 2 : Nat))) (.cons (.name rfl) (.cons .cInt .nil)) prim_add) .nil)))))
        | false =>
          refine .skip t4 c4 ?_
          have t5 : EvT S (b + 4) (sk 23) [("sign", tx [c]), ("row", tx l), ("at", .int (i : Nat))] [] (ifT (stm 23 5)) (.ok (decide (c ∈ Mine.signs))) [] :=
            .cmp (.cons (.name rfl) (.cons (.glob H.O H.signs (by kernel_rfl)) .nil)) (prim_thas rfl)
          cases c5 : decide (c ∈ Mine.signs) with
          | true =>
            have e : tokAt c m = .tok (.sign (T [c])) 1 := by unfold tokAt; rw [c1, c2, c3, c4, c5]; rfl
            rw [e]
            exact .hit t5 c5 (.ret (.ret (.tp (.cons (.tp (.cons .cStr (.cons (.name rfl) .nil))) (.cons (.bin (d := .int ((i + 1 : Nat))) (.cons (.name rfl) (.cons .cInt .nil)) prim_add) .nil)))))
          | false =>
            have e : tokAt c m = .bad ("a strange sign: " ++ T [c]) := by unfold tokAt; rw [c1, c2, c3, c4, c5]; rfl
            rw [e]
            exact .skip t5 c5 (.raiseA H (.bin (.cons .cStr (.cons (.name rfl) .nil)) (prim_cat (Nat.le_of_ble_eq_true (by kernel_rfl)))) (by kernel_rfl) (by omega))
end
end
section
variable [Pm]

noncomputable def ws (c : Nat) : Bool := decide (c ∈ [32, 9, 13])
/-- the tokens of a row; none: the measure does not reach -/
noncomputable def toks : Nat → List Nat → List Tk → Option (Except Str (List Tk))
  | 0, _, _ => none
  | _ + 1, [], acc => some (.ok acc)
  | f + 1, c :: m, acc => if c == 59 then some (.ok acc) else if ws c then toks f m acc else match tokAt c m with
    | .tok t n => toks f ((c :: m).drop n) (acc ++ [t])
    | .bad t => some (.error t)
noncomputable def tkOut : Except Str (List Tk) → Out PyData
  | .ok ts => .ok (.list (ts.map Tk.enc))
  | .error t => .exc false t

section
variable {S : St} {K : Frag} {cR : Addr} {b : Nat}
theorem toks_loop (H : Has S K cR) (l : List Nat) (hl : l.length ≤ 100000) : ∀ (f : Nat) (m : List Nat) (acc : List Tk) (i : Nat) (r : Except Str (List Tk)), toks f m acc = some r → l.drop i = m → acc.length + f ≤ 200000 →
    match r with
    | .ok ts => ∃ j : Nat, EvW S (b + 5) (sk 24) [("row", tx l), ("at", .int (i : Nat))] [("found", .list (acc.map Tk.enc))] (whT (stm 24 1)) (whB (stm 24 1)) (.next [("row", tx l), ("at", .int (j : Nat))] [("found", .list (ts.map Tk.enc))])
    | .error t => EvW S (b + 5) (sk 24) [("row", tx l), ("at", .int (i : Nat))] [("found", .list (acc.map Tk.enc))] (whT (stm 24 1)) (whB (stm 24 1)) (.exc false t)
  | 0, _, _, _, _, h, _, _ => by cases h
  | f + 1, [], acc, i, r, h, hd, ha => by
    cases h
    have : l.length ≤ i := List.drop_eq_nil_iff.mp hd
    refine ⟨i, .stop (.and (c := false) (.as (.cmp (.cons (.name rfl) (.cons (.len (l := l) H (.name rfl) (by omega) (by kernel_rfl)) .nil)) prim_lt) ?_) ⟨rfl, rfl⟩)⟩
    rw [decide_eq_false]; omega
  | f + 1, c :: m, acc, i, r, h, hd, ha => by
    obtain ⟨h1, h2, h3⟩ := drop_get hd
    have e : decide ((i : Int) < (l.length : Int)) = true := by rw [decide_eq_true]; omega
    have tt : EvT S (b + 5) (sk 24) [("row", tx l), ("at", .int (i : Nat))] [("found", .list (acc.map Tk.enc))] (whT (stm 24 1)) (.ok (!([c] == [59]) && true)) [("found", .list (acc.map Tk.enc))] :=
      .and (c := true) (.as (.cmp (.cons (.name rfl) (.cons (.len (l := l) H (.name rfl) (by omega) (by kernel_rfl)) .nil)) prim_lt) e) (.andB (.cmp (.cons (.at (.name rfl) (.name rfl) h1 (by omega)) (.cons .cStr .nil)) (prim_tne rfl (by kernel_rfl))) fun _ => .andNil)
    rw [Bool.and_true, eqb1] at tt
    unfold toks at h
    cases c1 : c == 59 with
    | true =>
      rw [c1] at h tt
      cases h
      exact ⟨i, .stop tt⟩
    | false =>
      rw [c1] at tt
      replace h := onF c1 h
      have t2 : EvT S (b + 5) (sk 24) [("row", tx l), ("at", .int (i : Nat))] [("found", .list (acc.map Tk.enc))] (ifT ((whB (stm 24 1)).getD 0 (.Pass ⟨0, 0, 0, 0⟩))) (.ok (ws c)) [("found", .list (acc.map Tk.enc))] :=
        .cmp (.cons (.at (.name rfl) (.name rfl) h1 (by omega)) (.cons .cStr .nil)) (prim_thas (l := [32, 9, 13]) (by kernel_rfl))
      cases c2 : ws c with
      | true =>
        rw [c2] at t2
        replace h := onT c2 h
        have key := toks_loop H l hl f m acc (i + 1) r h h2 (by omega)
        have bdy : EvSs S (b + 5) (sk 24) [("row", tx l), ("at", .int (i : Nat))] [("found", .list (acc.map Tk.enc))] (whB (stm 24 1)) (.next [("row", tx l), ("at", .int ((i + 1 : Nat)))] [("found", .list (acc.map Tk.enc))]) :=
          .less (.cons (.ite (c := true) t2 (.cons (.aug (d := .int ((i + 1 : Nat))) rfl .cInt prim_iadd (by kernel_rfl)) .nil)) .nil) ⟨by kernel_rfl, by kernel_rfl, trivial⟩
        cases r with
        | ok ts => obtain ⟨j, key⟩ := key; exact ⟨j, .turn tt bdy key⟩
        | error t => exact .turn tt bdy key
      | false =>
        rw [c2] at t2
        replace h := onF c2 h
        have w := w_token_at (b := b) H l hl i c m hd
        have cal : ∀ {p1 p2 p3 p4 : Pos}, EvE S (b + 5) (sk 24) [("row", tx l), ("at", .int (i : Nat))] [("found", .list (acc.map Tk.enc))] (.Call (.Name "token_at" p1) [.Name "row" p2, .Name "at" p3] [] p4) ((tokAt c m).out i) [("found", .list (acc.map Tk.enc))] :=
          .call H.O w (.cons (.name (by kernel_rfl)) (.cons (.name (by kernel_rfl)) .nil)) (by kernel_rfl)
        cases hx : tokAt c m with
        | bad t =>
          rw [hx] at h cal
          cases h
          exact .exc tt (.exc (.ite (c := false) t2 (.exc (.unpackX cal))))
        | tok t n =>
          rw [hx] at h cal
          have key := toks_loop H l hl f ((c :: m).drop n) (acc ++ [t]) (i + n) r h (by rw [← List.drop_drop, hd]) (by rw [List.length_append]; show _ + 1 + f ≤ _; omega)
          have bdy : EvSs S (b + 5) (sk 24) [("row", tx l), ("at", .int (i : Nat))] [("found", .list (acc.map Tk.enc))] (whB (stm 24 1)) (.next [("row", tx l), ("at", .int ((i + n : Nat)))] [("found", .list ((acc ++ [t]).map Tk.enc))]) := by
            rw [List.map_append]
            exact .less (.cons (.ite (c := false) t2 (.cons (.unpack cal (.tup [("told", _), ("at", _)] rfl rfl ⟨by kernel_rfl, rfl, by kernel_rfl, rfl, trivial⟩)) (.cons (.append [] [] (.name rfl) (by rw [List.length_map]; exact Nat.le_trans (show _ ≤ 200000 by omega) (by decide))) .nil))) .nil) ⟨by kernel_rfl, by kernel_rfl, trivial⟩
          cases r with
          | ok ts => obtain ⟨j, key⟩ := key; exact ⟨j, .turn tt bdy key⟩
          | error t => exact .turn tt bdy key
theorem w_tokens_of (H : Has S K cR) (l : List Nat) (hl : l.length ≤ 100000) (f : Nat) (hf : f ≤ 200000) (r : Except Str (List Tk)) (h : toks f l [] = some r) : CalN S (b + 6) "tokens_of" [tx l] (tkOut r) := by
  have hfn := H.fn 24 "tokens_of" ["row"] (by kernel_rfl)
  have ok : ScOk (sk 24) ["row"] := .of (by kernel_rfl)
  have key := toks_loop (b := b) H l hl f l [] 0 r h rfl (by show 0 + f ≤ _; omega)
  have first : EvS S (b + 5) (sk 24) [("row", tx l)] [] (stm 24 0) (.next [("row", tx l), ("at", .int ((0 : Nat)))] [("found", .list [])]) := by
    refine .less (.tup true [("found", _), ("at", _)] rfl (.new (.dat (d := .int ((0 : Nat))) .cInt .nil)) rfl ⟨by kernel_rfl, rfl, by kernel_rfl, rfl, rfl, trivial⟩ (fun env he => ?_) (hz := Nat.le_of_ble_eq_true (by kernel_rfl))) ?_
    · unfold swappedStores Env.blockKind Env.kindOf; rw [he]; kernel_rfl
    · exact ⟨by kernel_rfl, by kernel_rfl, trivial⟩
  cases r with
  | ok ts =>
    obtain ⟨j, key⟩ := key
    exact .mk H.O hfn ok (.ret _ []) (.cons first (.cons (.while key) (.freeze [] [] (.ret (.ret (.name (by kernel_rfl)))))))
  | error t => exact .mk H.O hfn ok (.exc _ _) (.cons first (.exc (.while key)))
end
end
section
variable [Pm]

noncomputable def Tk.isSign (s : Str) : Tk → Bool
  | .sign x => x == s
  | _ => false
noncomputable def Tk.word : Tk → Option Str
  | .sign s => some s
  | .name s => some s
  | _ => none
noncomputable def opD (s : Str) : PyData := (Spec.lookup (.str s) sameD).getD (.str s)

section
variable {S : St} {K : Frag} {cR : Addr} {b : Nat}
theorem kind_false {k : Str} {x : PyData} (h : (k == ("sign" : Str)) = false) {sc : Scope} {δ : List (Str × PyData)} {e₂ : Expr} {es : List Expr} {p p0 p2 p3 p4 p5 : Pos} {k1 k2 : Nat} (hn : δ.lookup ("token" : Str) = some (.tuple [.str k, x])) :
    EvE S b sc δ [] (.BoolOp .And (.Compare (.Subscript (.Name "token" p) (.Constant (.int 0) k1 p2) p3) [.Eq] [.Constant (.str "sign") k2 p4] p5 :: e₂ :: es) p0) (.ok (.bool false)) [] :=
  .and (c := false) (by rw [← h]; exact .cmp (.cons (.sub (.cons (.name hn) (.cons .cInt .nil)) (prim_tupAt (n := 0) rfl rfl (by omega))) (.cons .cStr .nil)) prim_seq) ⟨rfl, rfl⟩
theorem w_is_sign (H : Has S K cR) (t : Tk) (s : Str) : CalN S (b + 1) "is_sign" [t.enc, .str s] (.ok (.bool (t.isSign s))) := by
  have hf := H.fn 25 "is_sign" ["token", "sign"] (by kernel_rfl)
  have ok : ScOk (sk 25) ["token", "sign"] := .of (by kernel_rfl)
  cases t with
  | sign x =>
    exact .mk H.O hf ok (.ret _ []) (.ret (.ret (.and (c := true) (.cmp (.cons (.sub (.cons (.name (d := .tuple [.str "sign", .str x]) (by kernel_rfl)) (.cons .cInt .nil)) (prim_tupAt (n := 0) rfl rfl (by omega))) (.cons .cStr .nil)) (prim_seq (a := "sign") (c := "sign"))) (.bool1 (.cmp (.cons (.sub (.cons (.name (d := .tuple [.str "sign", .str x]) (by kernel_rfl)) (.cons .cInt .nil)) (prim_tupAt (n := 1) rfl rfl (by omega))) (.cons (.name rfl) .nil)) prim_seq)))))
  | num v => exact .mk H.O hf ok (.ret _ []) (.ret (.ret (kind_false (k := "number") (x := .int v) (by kernel_rfl) (by kernel_rfl))))
  | name v => exact .mk H.O hf ok (.ret _ []) (.ret (.ret (kind_false (k := "name") (x := .str v) (by kernel_rfl) (by kernel_rfl))))
  | text v => exact .mk H.O hf ok (.ret _ []) (.ret (.ret (kind_false (k := "text") (x := .str v) (by kernel_rfl) (by kernel_rfl))))
  | fin => exact .mk H.O hf ok (.ret _ []) (.ret (.ret (kind_false (k := "end") (x := .str "") (by kernel_rfl) (by kernel_rfl))))
theorem w_operator_of (H : Has S K cR) (t : Tk) (s : Str) (h : t.word = some s) : CalN S (b + 1) "operator_of" [t.enc] (.ok (opD s)) := by
  have hf := H.fn 26 "operator_of" ["token"] (by kernel_rfl)
  have ok : ScOk (sk 26) ["token"] := .of (by kernel_rfl)
  have hS := H.dat "SAME" (.dict sameD) (by kernel_rfl)
  cases t with
  | sign x =>
    cases h
    exact .mk H.O hf ok (.ret _ []) (.hit (.or (c := true) (.cmp (.cons (.sub (.cons (.name (d := .tuple [.str "sign", .str s]) (by kernel_rfl)) (.cons .cInt .nil)) (prim_tupAt (n := 0) rfl rfl (by omega))) (.cons .cStr .nil)) (prim_seq (a := "sign") (c := "sign"))) ⟨rfl, rfl⟩) rfl
      (.ret (.ret (.dget H.O (.glob H.O hS (by kernel_rfl)) (.cons (.sub (.cons (.name (d := .tuple [.str "sign", .str s]) (by kernel_rfl)) (.cons .cInt .nil)) (prim_tupAt (n := 1) rfl rfl (by omega))) (.cons (.sub (.cons (.name (d := .tuple [.str "sign", .str s]) (by kernel_rfl)) (.cons .cInt .nil)) (prim_tupAt (n := 1) rfl rfl (by omega))) .nil)) (prim_dget2 H.O)))))
  | name x =>
    cases h
    exact .mk H.O hf ok (.ret _ []) (.hit (.or (c := false) (.as (.cmp (.cons (.sub (.cons (.name (d := .tuple [.str "name", .str s]) (by kernel_rfl)) (.cons .cInt .nil)) (prim_tupAt (n := 0) rfl rfl (by omega))) (.cons .cStr .nil)) (prim_seq (a := "name") (c := "sign"))) (by kernel_rfl)) (.or (c := true) (.cmp (.cons (.sub (.cons (.name (d := .tuple [.str "name", .str s]) (by kernel_rfl)) (.cons .cInt .nil)) (prim_tupAt (n := 0) rfl rfl (by omega))) (.cons .cStr .nil)) (prim_seq (a := "name") (c := "name"))) ⟨rfl, rfl⟩)) rfl
      (.ret (.ret (.dget H.O (.glob H.O hS (by kernel_rfl)) (.cons (.sub (.cons (.name (d := .tuple [.str "name", .str s]) (by kernel_rfl)) (.cons .cInt .nil)) (prim_tupAt (n := 1) rfl rfl (by omega))) (.cons (.sub (.cons (.name (d := .tuple [.str "name", .str s]) (by kernel_rfl)) (.cons .cInt .nil)) (prim_tupAt (n := 1) rfl rfl (by omega))) .nil)) (prim_dget2 H.O)))))
  | num v => cases h
  | text v => cases h
  | fin => cases h
end
end
section
variable [Pm]

noncomputable def mst (i j : Nat) : Stmt := (mbd i).getD j (.Pass ⟨0, 0, 0, 0⟩)
/-- a Reader's fields -/
noncomputable def rd (ts : List PyData) (a d o : Nat) : List (Str × PyData) := [("tokens", .list ts), ("at", .int a), ("depth", .int d), ("operators", .int o)]
noncomputable def tkAt (ts : List Tk) (a : Nat) : Tk := ts[a]?.getD .fin

section
variable {S : St} {K : Frag} {cR : Addr} {b : Nat} {sc : Scope} {δ : List (Str × PyData)} {ts : List Tk} {a d o : Nat} {np pos : Pos} {v : PyData} {n : Str}
theorem EvE.self (H : Has S K cR) {ps : List (Str × PyData)} (hl : ps.lookup n = some v) (hf : findIn K (.ref cR) n = some none) (he : ∀ env, eval (.Attribute (.Name "self" np) n pos) env = (do
      let o ← eval (.Name "self" np) env
      standAt pos.atName
      let r ← holding [o] (getAttr o n true)
      letTemporaryGo (.Name "self" np) o r
      pure r) := by intro _; kernel_rfl) : EvE S b sc δ [("self", .inst cR ps)] (.Attribute (.Name "self" np) n pos) (.ok v) [("self", .inst cR ps)] :=
  .fld [] [] H.E.toExcT.toExcS.X H.R hf hl (by decide) he
theorem fT (H : Has S K cR) : findIn K (.ref cR) "tokens" = some none := H.absent _ (by simp)
theorem fA (H : Has S K cR) : findIn K (.ref cR) "at" = some none := H.absent _ (by simp)
theorem fD (H : Has S K cR) : findIn K (.ref cR) "depth" = some none := H.absent _ (by simp)
theorem fO (H : Has S K cR) : findIn K (.ref cR) "operators" = some none := H.absent _ (by simp)
theorem EvE.lenD (H : Has S K cR) {μ : List (Str × Mut)} {e : Expr} {l : List PyData} (h : EvE S b sc δ μ e (.ok (.list l)) μ) (hl : l.length < 2 ^ 61) (hk : sc.names.lookup ("len" : Str) = some .globalImplicit) (hs : noStar [e] := by intro _; rfl) :
    EvE S b sc δ μ (.Call (.Name "len" np) [e] [] pos) (.ok (.int l.length)) μ := by
  obtain ⟨h1, h2⟩ := H.blt (n := "len") (id := "len") (by kernel_rfl)
  exact .callB H.O h1 h2 hk (.cons h .nil) (prim_lenL (by omega)) hs
theorem w_here (H : Has S K cR) (ts : List Tk) (a d o : Nat) (hl : ts.length < 2 ^ 61) : MethN S K cR (b + 1) "here" (.inst cR (rd (ts.map Tk.enc) a d o)) [] (.ok (tkAt ts a).enc) (.inst cR (rd (ts.map Tk.enc) a d o)) := by
  have hf := H.mt 1 "here" ["self"] (by kernel_rfl)
  have ok : ScOk (msk 1) ["self"] := .of (by kernel_rfl)
  have hlm : (ts.map Tk.enc).length < 2 ^ 61 := by rw [List.length_map]; exact hl
  refine .mk H.O hf ok (.ret _ [("self", .inst cR (rd (ts.map Tk.enc) a d o))]) (.ret (.ret ?_)) .ret
  by_cases h : a < ts.length
  · have e : decide ((a : Int) < ((ts.map Tk.enc).length : Int)) = true := by rw [decide_eq_true]; rw [List.length_map]; omega
    have hg : (ts.map Tk.enc)[a]? = some (tkAt ts a).enc := by
      unfold tkAt
      rw [List.getElem?_map, List.getElem?_eq_getElem h]; rfl
    exact .iteT (.cmp (.cons (.self H rfl (fA H)) (.cons (.lenD H (.self H rfl (fT H)) hlm (by kernel_rfl)) .nil)) prim_lt) e (.sub (.cons (.self H rfl (fT H)) (.cons (.self H rfl (fA H)) .nil)) (prim_lstAt (n := a) hg rfl (by omega)))
  · have e : decide ((a : Int) < ((ts.map Tk.enc).length : Int)) = false := by rw [decide_eq_false]; rw [List.length_map]; omega
    have hg : tkAt ts a = .fin := by
      unfold tkAt
      rw [List.getElem?_eq_none (by omega)]; rfl
    rw [hg]
    exact .iteF (.cmp (.cons (.self H rfl (fA H)) (.cons (.lenD H (.self H rfl (fT H)) hlm (by kernel_rfl)) .nil)) prim_lt) e (.tp (.cons .cStr (.cons .cStr .nil)))
theorem EvE.sm (H : Has S K cR) {ps qs : List (Str × PyData)} {es : List Expr} {ds : List PyData} {out : Out PyData} {ap : Pos} {μ₁ : Mut} (c : MethN S K cR b n μ₁ ds out (.inst cR qs)) (h : EvEs S b sc δ [("self", .inst cR ps)] es (.ok ds) [("self", μ₁)]) (hm : ps.lookup n = none := by rfl) (hs : noStar es := by intro _; rfl)
    (he : ∀ env, eval (.Call (.Attribute (.Name "self" np) n ap) es [] pos) env = (do
      let ov ← eval (.Name "self" np) env
      standAt ap.atName
      let (f, first) ← holding [ov] (getMethod ov n (do let r ← importBound (.Name "self" np) env; pure (r.getD true)))
      callWith pos f first (backTo pos (starEach es env)) []) := by intro _; kernel_rfl) : EvE S b sc δ [("self", .inst cR ps)] (.Call (.Attribute (.Name "self" np) n ap) es [] pos) out [("self", .inst cR qs)] :=
  .meth [] [] H.E.toExcT.toExcS.X H.R c h hm (by decide) hs he
theorem EvS.sAug (H : Has S K cR) {op : Operator} {ps : List (Str × PyData)} {x y r : PyData} {value : Expr} {ap : Pos} (hf : findIn K (.ref cR) n = some none) (hl : ps.lookup n = some x) (h : EvE S b sc δ [("self", .inst cR ps)] value (.ok y) [("self", .inst cR ps)]) (pr : Prim S (two (inplaceOp op)) [x, y] r) (hz : ps.length ≤ 1000) :
    EvS S b sc δ [("self", .inst cR ps)] (.AugAssign (.Attribute (.Name "self" np) n ap) op value pos) (.next δ [("self", .inst cR (putD n r ps))]) := .augAttr [] [] H.E.toExcT.toExcS.X H.R hf hl h pr hz (by decide)
theorem put_at (ts : List PyData) (a d o a' : Nat) : putD "at" (.int a') (rd ts a d o) = rd ts a' d o := rfl
theorem w_take (H : Has S K cR) (ts : List Tk) (a d o : Nat) (hl : ts.length < 2 ^ 61) : MethN S K cR (b + 2) "take" (.inst cR (rd (ts.map Tk.enc) a d o)) [] (.ok (tkAt ts a).enc) (.inst cR (rd (ts.map Tk.enc) (a + 1) d o)) := by
  have hf := H.mt 2 "take" ["self"] (by kernel_rfl)
  have ok : ScOk (msk 2) ["self"] := .of (by kernel_rfl)
  refine .mk H.O hf ok (.ret _ [("self", .inst cR (rd (ts.map Tk.enc) (a + 1) d o))]) (.cons (δ₁ := [("found", (tkAt ts a).enc)]) (μ₁ := [("self", .inst cR (rd (ts.map Tk.enc) a d o))]) (.set (.sm H (w_here (b := b) H ts a d o hl) .nil) (by kernel_rfl)) (.cons (δ₁ := [("found", (tkAt ts a).enc)]) (μ₁ := [("self", .inst cR (rd (ts.map Tk.enc) (a + 1) d o))]) ?_ (.ret (.ret (.name (by kernel_rfl)))))) .ret
  rw [← put_at (ts.map Tk.enc) a d o (a + 1)]
  exact .sAug H (fA H) rfl .cInt prim_iadd (Nat.le_of_ble_eq_true rfl)
end
end
section
variable [Pm]

theorem bits_256 : Builtin.Int.intBits (256 : Int) ≤ 64 := Nat.le_of_ble_eq_true (by kernel_rfl)
noncomputable def foldTx : List Nat → Nat → Nat
  | [], a => a
  | c :: l, a => foldTx l (a * 256 + c % 256)
noncomputable def txNum (l : List Nat) : Option Nat := if decide (1 ≤ l.length) && decide (l.length ≤ 2) then some (foldTx l 0) else none
noncomputable def txNumOut : Option Nat → Out PyData
  | some v => .ok (.int v)
  | none => .exc false "no text of one sign or two"

section
variable {S : St} {K : Frag} {cR : Addr} {b : Nat}
theorem fold_loop (H : Has S K cR) (F : PyData) : ∀ (l : List Nat) (a : Nat), EvF S b (sk 28) [("text", F), ("found", .int a)] [] (forT (stm 28 2)) (forB (stm 28 2)) (l.map fun c => tx [c]) (.next [("text", F), ("found", .int (foldTx l a))] [])
  | [], a => .nil
  | c :: l, a => by
    obtain ⟨n2, b2⟩ := H.blt (n := "ord") (id := "ord") (by kernel_rfl)
    refine .turn (μ₂ := []) (.name (by kernel_rfl)) ?_ (fold_loop H F l (a * 256 + c % 256))
    have e : (((a * 256 + c % 256 : Nat)) : Int) = (a : Int) * 256 + (((T [c]).cps.getD 0 0 : Nat) : Int).fmod 256 := by
      show _ = (a : Int) * 256 + ((c : Nat) : Int).fmod 256
      rw [Int.fmod_eq_emod_of_nonneg _ (by omega)]
      push_cast
      rfl
    refine .less (.cons (.set (d := .int ((a * 256 + c % 256 : Nat))) ?_ (by kernel_rfl)) .nil) ⟨by kernel_rfl, by kernel_rfl, trivial⟩
    rw [e]
    exact .bin (.cons (.bin (.cons (.name rfl) (.cons .cInt .nil)) (prim_mul (.of_right (bits_256)))) (.cons (.bin (.cons (.callB H.O n2 b2 (by kernel_rfl) (.cons (.name (d := tx [c]) (by kernel_rfl)) .nil) (prim_ord (by kernel_rfl))) (.cons .cInt .nil)) (prim_mod (by omega))) .nil)) prim_add
theorem w_text_number (H : Has S K cR) (l : List Nat) (hl : l.length ≤ 100000) : CalN S (b + 3) "text_number" [tx l] (txNumOut (txNum l)) := by
  have hf := H.fn 28 "text_number" ["text"] (by kernel_rfl)
  have ok : ScOk (sk 28) ["text"] := .of (by kernel_rfl)
  have ct : EvT S (b + 2) (sk 28) [("text", tx l)] [] (ifT (stm 28 0)) (.ok (!(decide (1 ≤ l.length) && decide (l.length ≤ 2)))) [] := by
    refine .not (.chain (c := decide (1 ≤ l.length)) (z := .int 2) (.cons .cInt (.cons (.len (l := l) H (.name (by kernel_rfl)) (by omega) (by kernel_rfl)) .nil)) ?_ ?_)
    · have e : decide ((1 : Int) ≤ (l.length : Int)) = decide (1 ≤ l.length) := by rw [decide_eq_decide]; omega
      rw [← e]
      exact prim_le
    · by_cases h : 1 ≤ l.length
      · rw [decide_eq_true h]
        have e : decide ((l.length : Int) ≤ 2) = decide (l.length ≤ 2) := by rw [decide_eq_decide]; omega
        refine ⟨.cInt, ?_⟩
        rw [Bool.true_and, ← e]
        exact prim_le
      · rw [decide_eq_false h]; exact ⟨rfl, rfl⟩
  cases c : decide (1 ≤ l.length) && decide (l.length ≤ 2) with
  | false =>
    have e : txNum l = none := by unfold txNum; rw [c]; rfl
    rw [e]
    rw [c] at ct
    exact .mk H.O hf ok (.exc _ _) (.hitX ct rfl (.raiseA H .cStr (by kernel_rfl) (by omega)))
  | true =>
    have e : txNum l = some (foldTx l 0) := by unfold txNum; rw [c]; rfl
    rw [e]
    rw [c] at ct
    have key := EvF.weak (δ := [("found", .int ((0 : Nat))), ("text", tx l)]) (fold_loop (b := b + 2) H (tx l) l 0) ⟨by kernel_rfl, by kernel_rfl, trivial⟩
    exact .mk H.O hf ok (.ret _ []) (.skip ct rfl (.set (d := .int ((0 : Nat))) .cInt (by kernel_rfl) (.cons (.for (.str (.name (d := tx l) (by kernel_rfl))) key) (.ret (.ret (.name (by kernel_rfl)))))))
end
end
section
variable [Pm]

inductive Tree where
  | num (v : Nat)
  | here
  | name (s : Str)
  | two (op : Str) (a b : Tree)
noncomputable def Tree.enc : Tree → PyData
  | .num v => .tuple [.str "number", .int v]
  | .here => .tuple [.str "here"]
  | .name s => .tuple [.str "name", .str s]
  | .two op a b => .tuple [.str "two", .str op, a.enc, b.enc]
inductive Job where
  | whole (lv : Nat)
  | loop (lv : Nat) (t : Tree)
  | single
  | value (tk : Tk)
inductive Pr where
  | ok (t : Tree) (a o : Nat)
  | bad (s : Str)
noncomputable def unary : List Str := ["+", "-", "NOT", "HIGH", "LOW"]
noncomputable def signed (s : Str) (r : Option Pr) : Option Pr := if unary.any (· == s) then (match r with | some (.bad t) => some (.bad t) | _ => none) else none
/-- the reading of an expression; none: the measure does not reach, or what the law does not need -/
noncomputable def prs (ts : List Tk) : Nat → Job → Nat → Nat → Nat → Option Pr
  | 0, _, _, _, _ => none
  | f + 1, .whole lv, a, d, o => if lv == 5 then prs ts f .single a d o else match prs ts f (.whole (lv + 1)) a d o with
    | some (.ok t a o) => prs ts f (.loop lv t) a d o
    | r => r
  | f + 1, .loop lv t, a, d, o => match (tkAt ts a).word with
    | none => some (.ok t a o)
    | some s => if (levels.getD lv []).any (· == s) then
        (if decide (64 < o + 1) then some (.bad "an expression too long") else if (Spec.lookup (.str s) sameD).isSome then none else match prs ts f (.whole (lv + 1)) (a + 1) d (o + 1) with
          | some (.ok t2 a o) => prs ts f (.loop lv (.two s t t2)) a d o
          | r => r)
      else some (.ok t a o)
  | f + 1, .single, a, d, o => if decide (12 < d + 1) then some (.bad "an expression too deep") else match prs ts f (.value (tkAt ts a)) (a + 1) (d + 1) o with
    | some (.ok t a o) => some (.ok t a o)
    | r => r
  | f + 1, .value tk, a, d, o => match tk with
    | .num v => some (.ok (.num v) a o)
    | .text s => match txNum s.cps.toList with
      | some v => if s.cps.toList.length ≤ 100000 then some (.ok (.num v) a o) else none
      | none => if s.cps.toList.length ≤ 100000 then some (.bad "no text of one sign or two") else none
    | .sign s => if s == ("$" : Str) then some (.ok .here a o) else if s == ("(" : Str) then
        (match prs ts f (.whole 0) a d o with
          | some (.ok t a o) => if (tkAt ts a).isSign ")" then some (.ok t (a + 1) o) else some (.bad "a parenthesis is not closed")
          | r => r)
      else if unary.any (· == s) then (match prs ts f .single a d o with | some (.bad t) => some (.bad t) | _ => none) else some (.bad "a value is missing")
    | .name s => if unary.any (· == s) then (match prs ts f .single a d o with | some (.bad t) => some (.bad t) | _ => none) else some (.ok (.name s) a o)
    | .fin => some (.bad "a value is missing")
noncomputable def Pr.out : Pr → Out PyData
  | .ok t _ _ => .ok t.enc
  | .bad s => .exc false s
noncomputable def Pr.fl (T : List PyData) (d : Nat) : Pr → List (Str × PyData)
  | .ok _ a o => rd T a d o
  | .bad _ => rd T 0 0 0
noncomputable def Pr.so (cR : Addr) (T : List PyData) (d : Nat) : Pr → SO
  | .ok t a o => .ret t.enc [("self", .inst cR (rd T a d o))]
  | .bad s => .exc false s
noncomputable def Pr.loop (cR : Addr) (T : List PyData) (lv d : Nat) : Pr → SO
  | .ok t a o => .next [("level", .int lv), ("found", t.enc)] [("self", .inst cR (rd T a d o))]
  | .bad s => .exc false s
theorem Pr.ends (cR : Addr) (T : List PyData) (d : Nat) (r : Pr) : Ends "self" (.inst cR (r.fl T d)) (r.so cR T d) r.out := by cases r <;> constructor

/-- what the text does for a job -/
noncomputable def Does (S : St) (K : Frag) (cR : Addr) (ts : List Tk) (B : Nat) (a d o : Nat) (r : Pr) : Job → Prop
  | .whole lv => lv ≤ 5 → MethN S K cR B "whole" (.inst cR (rd (ts.map Tk.enc) a d o)) [.int lv] r.out (.inst cR (r.fl (ts.map Tk.enc) d))
  | .loop lv t => lv < 5 → EvW S B (msk 3) [("level", .int lv), ("found", t.enc)] [("self", .inst cR (rd (ts.map Tk.enc) a d o))] (whT (mst 3 2)) (whB (mst 3 2)) (r.loop cR (ts.map Tk.enc) lv d)
  | .single => MethN S K cR B "single" (.inst cR (rd (ts.map Tk.enc) a d o)) [] r.out (.inst cR (r.fl (ts.map Tk.enc) d))
  | .value tk => MethN S K cR B "value" (.inst cR (rd (ts.map Tk.enc) a d o)) [tk.enc] r.out (.inst cR (r.fl (ts.map Tk.enc) d))

theorem EvSs.setM {S : St} {b : Nat} {sc : Scope} {δ : List (Str × PyData)} {μ μ₁ : List (Str × Mut)} {value : Expr} {d : PyData} {n : Str} {np pos : Pos} {rest : List Stmt} {so : SO} (h : EvE S b sc δ μ value (.ok d) μ₁) (hk : sc.names.lookup n = some .local) (r : EvSs S b sc ((n, d) :: δ) μ₁ rest so) (hμ : μ₁.lookup n = none := by rfl) (hs : ∀ env, env.scope = sc → swapsWith value (some (.Name n np)) pos.line env = pure false := by intro _ _; rfl) :
    EvSs S b sc δ μ (.Assign [.Name n np] value pos :: rest) so := .cons (.set h hk hμ hs) r
section
variable {S : St} {K : Frag} {cR : Addr} {ts : List Tk}
theorem Has.levels (H : Has S K cR) : S.D "LEVELS" (.tuple (Mine.levels.map strT)) := H.dat "LEVELS" _ (by kernel_rfl)
theorem does_whole (H : Has S K cR) (hl : ts.length < 2 ^ 61) {f : Nat} (ih : ∀ job a d o r, prs ts f job a d o = some r → ∀ B, f + 6 ≤ B → Does S K cR ts B a d o r job) {lv a d o : Nat} {r : Pr} (h : prs ts (f + 1) (.whole lv) a d o = some r) {B : Nat} (hB : f + 1 + 6 ≤ B) : Does S K cR ts B a d o r (.whole lv) := by
  intro hlv
  obtain ⟨B, rfl⟩ : ∃ B', B = B' + 1 := ⟨B - 1, by omega⟩
  have hf := H.mt 3 "whole" ["self", "level"] (by kernel_rfl)
  have ok : ScOk (msk 3) ["self", "level"] := .of (by kernel_rfl)
  have test : EvT S B (msk 3) [("level", .int lv)] [("self", .inst cR (rd (ts.map Tk.enc) a d o))] (ifT (mst 3 0)) (.ok ((lv : Int) == 5)) [("self", .inst cR (rd (ts.map Tk.enc) a d o))] := by
    obtain ⟨h1, h2⟩ := H.blt (n := "len") (id := "len") (by kernel_rfl)
    exact .cmp (.cons (.name rfl) (.cons (.callB H.O h1 h2 (by kernel_rfl) (.cons (.glob H.O H.levels (by kernel_rfl)) .nil) (prim_lenT (by decide))) .nil)) prim_ieq
  unfold prs at h
  by_cases h5 : lv = 5
  · have e : ((lv : Int) == 5) = true := by rw [h5]; rfl
    have e' : (lv == 5) = true := by rw [h5]; rfl
    rw [e'] at h
    have key := ih .single a d o r h B (by omega)
    refine .mk H.O hf ok (r.so cR _ d) ?_ (r.ends cR _ d)
    cases r with
    | ok t a' o' => exact .hit test e (.ret (.ret (.sm H key .nil)))
    | bad s => exact .hitX test e (.exc (.retX (.sm H key .nil)))
  · have e : ((lv : Int) == 5) = false := by rw [beq_eq_false_iff_ne]; omega
    have e' : (lv == 5) = false := by rw [beq_eq_false_iff_ne]; exact h5
    replace h := onF (e') h
    refine .mk H.O hf ok (r.so cR _ d) (.skip test e ?_) (r.ends cR _ d)
    cases hr : prs ts f (.whole (lv + 1)) a d o with
    | none => rw [hr] at h; cases h
    | some r1 =>
      rw [hr] at h
      have k1 := ih _ a d o r1 hr B (by omega) (by omega)
      cases r1 with
      | bad s =>
        cases h
        exact .exc (.setX (.sm H k1 (.cons (.bin (d := .int ((lv + 1 : Nat))) (.cons (.name rfl) (.cons .cInt .nil)) prim_add) .nil)))
      | ok t a1 o1 =>
        have k2 := EvW.weak (δ := [("found", t.enc), ("level", .int lv)]) (ih (.loop lv t) a1 d o1 r h B (by omega) (by omega)) ⟨by kernel_rfl, by kernel_rfl, trivial⟩
        cases r with
        | bad s => exact .setM (.sm H k1 (.cons (.bin (d := .int ((lv + 1 : Nat))) (.cons (.name rfl) (.cons .cInt .nil)) prim_add) .nil)) (by kernel_rfl) (.exc (.while k2))
        | ok t2 a2 o2 => exact .setM (.sm H k1 (.cons (.bin (d := .int ((lv + 1 : Nat))) (.cons (.name rfl) (.cons .cInt .nil)) prim_add) .nil)) (by kernel_rfl) (.cons (.while k2) (.ret (.ret (.name (by kernel_rfl)))))
theorem put_op (ts : List PyData) (a d o o' : Nat) : putD "operators" (.int o') (rd ts a d o) = rd ts a d o' := rfl
theorem put_dp (ts : List PyData) (a d o d' : Nat) : putD "depth" (.int d') (rd ts a d o) = rd ts a d' o := rfl
theorem prim_word {s : Str} : Prim S (two (compareOp .In)) [.str s, .tuple [.str "sign", .str "name"]] (.bool ((["sign", "name"] : List Str).any (· == s))) := prim_intup (ss := ["sign", "name"])
theorem does_loop (H : Has S K cR) (hl : ts.length < 2 ^ 61) {f : Nat} (ih : ∀ job a d o r, prs ts f job a d o = some r → ∀ B, f + 6 ≤ B → Does S K cR ts B a d o r job) {lv a d o : Nat} {t : Tree} {r : Pr} (h : prs ts (f + 1) (.loop lv t) a d o = some r) {B : Nat} (hB : f + 1 + 6 ≤ B) : Does S K cR ts B a d o r (.loop lv t) := by
  intro hlv
  obtain ⟨B, rfl⟩ : ∃ B', B = B' + 2 := ⟨B - 2, by omega⟩
  have hh := w_here (b := B + 1) H ts a d o hl
  unfold prs at h
  cases hw : (tkAt ts a).word with
  | none =>
    rw [hw] at h
    cases h
    have hk : ∃ k x, (tkAt ts a).enc = .tuple [.str k, x] ∧ (["sign", "name"] : List Str).any (· == k) = false := by
      cases ht : tkAt ts a with
      | num v => exact ⟨"number", _, rfl, by kernel_rfl⟩
      | text v => exact ⟨"text", _, rfl, by kernel_rfl⟩
      | fin => exact ⟨"end", _, rfl, by kernel_rfl⟩
      | sign s => rw [ht] at hw; cases hw
      | name s => rw [ht] at hw; cases hw
    obtain ⟨k, x, he, hk⟩ := hk
    rw [he] at hh
    exact .stop (.and (c := false) (.as (.cmp (.cons (.sub (.cons (.sm H hh .nil) (.cons .cInt .nil)) (prim_tupAt (n := 0) rfl rfl (by omega))) (.cons (.tp (.cons .cStr (.cons .cStr .nil))) .nil)) prim_word) hk) ⟨rfl, rfl⟩)
  | some s =>
    rw [hw] at h
    dsimp only at h
    have hk : ∃ k, (tkAt ts a).enc = .tuple [.str k, .str s] ∧ (["sign", "name"] : List Str).any (· == k) = true := by
      cases ht : tkAt ts a with
      | num v => rw [ht] at hw; cases hw
      | text v => rw [ht] at hw; cases hw
      | fin => rw [ht] at hw; cases hw
      | sign s => rw [ht] at hw; cases hw; exact ⟨"sign", rfl, by kernel_rfl⟩
      | name s => rw [ht] at hw; cases hw; exact ⟨"name", rfl, by kernel_rfl⟩
    obtain ⟨k, he, hk⟩ := hk
    have hh' := hh
    rw [he] at hh
    have hlev : (Mine.levels.map strT)[lv]? = some (.tuple ((Mine.levels.getD lv []).map .str)) := by
      rw [List.getElem?_map, List.getElem?_eq_getElem (show lv < Mine.levels.length from hlv), List.getD_eq_getElem?_getD, List.getElem?_eq_getElem (show lv < Mine.levels.length from hlv)]
      rfl
    have test : EvT S (B + 2) (msk 3) [("level", .int lv), ("found", t.enc)] [("self", .inst cR (rd (ts.map Tk.enc) a d o))] (whT (mst 3 2)) (.ok ((Mine.levels.getD lv []).any (· == s))) [("self", .inst cR (rd (ts.map Tk.enc) a d o))] := by
      have q : EvT S (B + 2) (msk 3) [("level", .int lv), ("found", t.enc)] [("self", .inst cR (rd (ts.map Tk.enc) a d o))] (whT (mst 3 2)) (.ok ((Mine.levels.getD lv []).any (· == s) && true)) [("self", .inst cR (rd (ts.map Tk.enc) a d o))] :=
        .and (c := true) (.as (.cmp (.cons (.sub (.cons (.sm H hh .nil) (.cons .cInt .nil)) (prim_tupAt (n := 0) rfl rfl (by omega))) (.cons (.tp (.cons .cStr (.cons .cStr .nil))) .nil)) prim_word) hk)
          (.andB (.cmp (.cons (.sub (.cons (.sm H hh .nil) (.cons .cInt .nil)) (prim_tupAt (n := 1) rfl rfl (by omega))) (.cons (.sub (.cons (.glob H.O H.levels (by kernel_rfl)) (.cons (.name rfl) .nil)) (prim_tupAt (n := lv) hlev rfl (by omega))) .nil)) prim_intup) fun _ => .andNil)
      rwa [Bool.and_true] at q
    cases hi : (Mine.levels.getD lv []).any (· == s) with
    | false =>
      rw [hi] at h test
      cases h
      exact .stop test
    | true =>
      rw [hi] at test
      replace h := onT hi h
      have tk := w_take (b := B) H ts a d o hl
      have op := w_operator_of (b := B + 1) H (tkAt ts a) s hw
      have hM := H.dat "MOST_OPERATORS" (.int 64) (by kernel_rfl)
      have pre : ∀ {so : SO}, EvSs S (B + 2) (msk 3) [("op", opD s), ("level", .int lv), ("found", t.enc)] [("self", .inst cR (rd (ts.map Tk.enc) (a + 1) d (o + 1)))] ((whB (mst 3 2)).drop 2) so → EvSs S (B + 2) (msk 3) [("level", .int lv), ("found", t.enc)] [("self", .inst cR (rd (ts.map Tk.enc) a d o))] (whB (mst 3 2)) so := fun q =>
        .setM (.call H.O op (.cons (.sm H tk .nil) .nil) (by kernel_rfl)) (by kernel_rfl) (.cons (μ₁ := [("self", .inst cR (rd (ts.map Tk.enc) (a + 1) d (o + 1)))]) (by
          rw [← put_op (ts.map Tk.enc) (a + 1) d o (o + 1)]
          exact .sAug H (fO H) rfl .cInt prim_iadd (Nat.le_of_ble_eq_true rfl)) q)
      have t2 : EvT S (B + 2) (msk 3) [("op", opD s), ("level", .int lv), ("found", t.enc)] [("self", .inst cR (rd (ts.map Tk.enc) (a + 1) d (o + 1)))] (ifT ((whB (mst 3 2)).getD 2 (.Pass ⟨0, 0, 0, 0⟩))) (.ok (decide (64 < o + 1))) [("self", .inst cR (rd (ts.map Tk.enc) (a + 1) d (o + 1)))] := by
        have e : decide ((64 : Int) < ((o + 1 : Nat) : Int)) = decide (64 < o + 1) := by rw [decide_eq_decide]; omega
        rw [← e]
        exact .cmp (.cons (.self H rfl (fO H)) (.cons (.glob H.O hM (by kernel_rfl)) .nil)) prim_gt
      cases h64 : decide (64 < o + 1) with
      | true =>
        rw [h64] at h t2
        cases h
        exact .exc test (pre (.hitX t2 rfl (.raiseA H .cStr (by kernel_rfl) (by omega))))
      | false =>
        rw [h64] at t2
        replace h := onF h64 h
        cases hS : (Spec.lookup (.str s) sameD).isSome with
        | true => rw [hS] at h; cases h
        | false =>
          replace h := onF hS h
          have hn : Spec.lookup (.str s) sameD = none := by
            cases q : Spec.lookup (.str s) sameD with
            | none => rfl
            | some x => rw [q] at hS; cases hS
          have hop : opD s = .str s := by unfold opD; rw [hn]; rfl
          rw [hop] at t2 pre
          cases hr : prs ts f (.whole (lv + 1)) (a + 1) d (o + 1) with
          | none => rw [hr] at h; cases h
          | some r1 =>
            rw [hr] at h
            have k1 := ih _ (a + 1) d (o + 1) r1 hr (B + 2) (by omega) (by omega)
            cases r1 with
            | bad x =>
              cases h
              exact .exc test (pre (.skip t2 rfl (.exc (.setX (.tupX (.cons .cStr (.cons (.name rfl) (.cons (.name rfl) (.here (.sm H k1 (.cons (.bin (d := .int ((lv + 1 : Nat))) (.cons (.name rfl) (.cons .cInt .nil)) prim_add) .nil)))))))))))
            | ok t' a1 o1 =>
              have k2 := ih (.loop lv (.two s t t')) a1 d o1 r h (B + 2) (by omega) hlv
              refine .turn test (μ₂ := [("self", .inst cR (rd (ts.map Tk.enc) a1 d o1))]) (δ₂ := [("level", .int lv), ("found", (Tree.two s t t').enc)]) (.less (pre (.skip t2 rfl (.setM (.tp (.cons .cStr (.cons (.name rfl) (.cons (.name rfl) (.cons (.sm H k1 (.cons (.bin (d := .int ((lv + 1 : Nat))) (.cons (.name rfl) (.cons .cInt .nil)) prim_add) .nil)) .nil))))) (by kernel_rfl) .nil))) ⟨by kernel_rfl, by kernel_rfl, trivial⟩) k2
end
end
section
variable [Pm]

section
variable {S : St} {K : Frag} {cR : Addr} {ts : List Tk}
theorem does_single (H : Has S K cR) (hl : ts.length < 2 ^ 61) {f : Nat} (ih : ∀ job a d o r, prs ts f job a d o = some r → ∀ B, f + 6 ≤ B → Does S K cR ts B a d o r job) {a d o : Nat} {r : Pr} (h : prs ts (f + 1) .single a d o = some r) {B : Nat} (hB : f + 1 + 6 ≤ B) : Does S K cR ts B a d o r .single := by
  obtain ⟨B, rfl⟩ : ∃ B', B = B' + 3 := ⟨B - 3, by omega⟩
  have hf := H.mt 4 "single" ["self"] (by kernel_rfl)
  have ok : ScOk (msk 4) ["self"] := .of (by kernel_rfl)
  have hM := H.dat "MOST_DEPTH" (.int 12) (by kernel_rfl)
  have tk := w_take (b := B) H ts a (d + 1) o hl
  unfold prs at h
  have first : EvS S (B + 2) (msk 4) [] [("self", .inst cR (rd (ts.map Tk.enc) a d o))] (mst 4 0) (.next [] [("self", .inst cR (rd (ts.map Tk.enc) a (d + 1) o))]) := by
    rw [← put_dp (ts.map Tk.enc) a d o (d + 1)]
    exact .sAug H (fD H) rfl .cInt prim_iadd (Nat.le_of_ble_eq_true rfl)
  have test : EvT S (B + 2) (msk 4) [] [("self", .inst cR (rd (ts.map Tk.enc) a (d + 1) o))] (ifT (mst 4 1)) (.ok (decide (12 < d + 1))) [("self", .inst cR (rd (ts.map Tk.enc) a (d + 1) o))] := by
    have e : decide ((12 : Int) < ((d + 1 : Nat) : Int)) = decide (12 < d + 1) := by rw [decide_eq_decide]; omega
    rw [← e]
    exact .cmp (.cons (.self H rfl (fD H)) (.cons (.glob H.O hM (by kernel_rfl)) .nil)) prim_gt
  refine .mk H.O hf ok (r.so cR _ d) (.cons first ?_) (r.ends cR _ d)
  cases h12 : decide (12 < d + 1) with
  | true =>
    rw [h12] at h test
    cases h
    exact .hitX test rfl (.raiseA H .cStr (by kernel_rfl) (by omega))
  | false =>
    rw [h12] at test
    replace h := onF h12 h
    refine .skip test rfl ?_
    cases hr : prs ts f (.value (tkAt ts a)) (a + 1) (d + 1) o with
    | none => rw [hr] at h; cases h
    | some r1 =>
      rw [hr] at h
      have k1 := ih _ (a + 1) (d + 1) o r1 hr (B + 2) (by omega)
      cases r1 with
      | bad x => cases h; exact .exc (.setX (.sm H k1 (.cons (.sm H tk .nil) .nil)))
      | ok t a1 o1 =>
        cases h
        have last : EvS S (B + 2) (msk 4) [("found", t.enc)] [("self", .inst cR (rd (ts.map Tk.enc) a1 (d + 1) o1))] (mst 4 3) (.next [("found", t.enc)] [("self", .inst cR (rd (ts.map Tk.enc) a1 d o1))]) := by
          rw [← put_dp (ts.map Tk.enc) a1 (d + 1) o1 d]
          have e : ((d : Nat) : Int) = ((d + 1 : Nat) : Int) - 1 := by omega
          rw [e]
          exact .sAug H (fD H) rfl .cInt prim_isub (Nat.le_of_ble_eq_true rfl)
        exact .setM (.sm H k1 (.cons (.sm H tk .nil) .nil)) (by kernel_rfl) (.cons last (.ret (.ret (.name (by kernel_rfl)))))
end
end
section
variable [Pm]

section
variable {S : St} {K : Frag} {cR : Addr} {ts : List Tk} {B : Nat} {tk : Tk} {k : Str} {x : PyData} {μ : List (Str × Mut)}
theorem T_back (s : Str) : T s.cps.toList = s := by cases s; rfl
theorem Has.unary (H : Has S K cR) : S.D "UNARY" (.tuple (Mine.unary.map .str)) := H.dat "UNARY" _ (by kernel_rfl)
noncomputable abbrev vδ (tk : Tk) (k : Str) (x : PyData) : List (Str × PyData) := [("told", x), ("kind", .str k), ("token", tk.enc)]
theorem v_first (he : tk.enc = .tuple [.str k, x]) (hμ : μ.lookup ("kind" : Str) = none) (hμ' : μ.lookup ("told" : Str) = none) : EvS S B (msk 5) [("token", tk.enc)] μ (mst 5 0) (.next (vδ tk k x) μ) :=
  .unpack (d := .tuple [.str k, x]) (he ▸ .name (by kernel_rfl)) (.tup [("kind", _), ("told", _)] rfl rfl ⟨by kernel_rfl, hμ, by kernel_rfl, hμ', trivial⟩)
theorem v1 : EvT S B (msk 5) (vδ tk k x) μ (ifT (mst 5 1)) (.ok (k == ("number" : Str))) μ := .cmp (.cons (.name rfl) (.cons .cStr .nil)) prim_seq
theorem v2 : EvT S B (msk 5) (vδ tk k x) μ (ifT (mst 5 2)) (.ok (k == ("text" : Str))) μ := .cmp (.cons (.name rfl) (.cons .cStr .nil)) prim_seq
theorem v3 (H : Has S K cR) : EvT S (B + 1) (msk 5) (vδ tk k x) μ (ifT (mst 5 3)) (.ok (tk.isSign "$")) μ := .val (.call H.O (w_is_sign (b := B) H tk "$") (.cons (.name (by kernel_rfl)) (.cons .cStr .nil)) (by kernel_rfl))
theorem v4 (H : Has S K cR) : EvT S (B + 1) (msk 5) (vδ tk k x) μ (ifT (mst 5 4)) (.ok (tk.isSign "(")) μ := .val (.call H.O (w_is_sign (b := B) H tk "(") (.cons (.name (by kernel_rfl)) (.cons .cStr .nil)) (by kernel_rfl))
theorem v5 (H : Has S K cR) {s : Str} : EvT S B (msk 5) (vδ tk k (.str s)) μ (ifT (mst 5 5)) (.ok ((["sign", "name"] : List Str).any (· == k) && ((Mine.unary).any (· == s) && true))) μ :=
  .andB (.cmp (.cons (.name rfl) (.cons (.tp (.cons .cStr (.cons .cStr .nil))) .nil)) prim_word) fun _ => .andB (.cmp (.cons (.name rfl) (.cons (.glob H.O H.unary (by kernel_rfl)) .nil)) prim_intup) fun _ => .andNil
theorem v6 : EvT S B (msk 5) (vδ tk k x) μ (ifT (mst 5 6)) (.ok (k == ("name" : Str))) μ := .cmp (.cons (.name rfl) (.cons .cStr .nil)) prim_seq

theorem does_value (H : Has S K cR) (hl : ts.length < 2 ^ 61) {f : Nat} (ih : ∀ job a d o r, prs ts f job a d o = some r → ∀ B, f + 6 ≤ B → Does S K cR ts B a d o r job) {tk : Tk} {a d o : Nat} {r : Pr} (h : prs ts (f + 1) (.value tk) a d o = some r) {B : Nat} (hB : f + 1 + 6 ≤ B) : Does S K cR ts B a d o r (.value tk) := by
  obtain ⟨B, rfl⟩ : ∃ B', B = B' + 4 := ⟨B - 4, by omega⟩
  have hf := H.mt 5 "value" ["self", "token"] (by kernel_rfl)
  have ok : ScOk (msk 5) ["self", "token"] := .of (by kernel_rfl)
  unfold prs at h
  have go : ∀ {k : Str} {x : PyData}, tk.enc = .tuple [.str k, x] → EvSs S (B + 3) (msk 5) (vδ tk k x) [("self", .inst cR (rd (ts.map Tk.enc) a d o))] ((mbd 5).drop 1) (r.so cR (ts.map Tk.enc) d) → Does S K cR ts (B + 4) a d o r (.value tk) := fun he q =>
    .mk H.O hf ok (r.so cR _ d) (.cons (v_first he (by kernel_rfl) (by kernel_rfl)) q) (r.ends cR _ d)
  have one : ∀ {k s : Str}, ((["sign", "name"] : List Str).any (· == k)) = true → Mine.unary.any (· == s) = true → (match prs ts f .single a d o with | some (.bad t) => some (.bad t) | _ => none) = some r →
      EvSs S (B + 3) (msk 5) (vδ tk k (.str s)) [("self", .inst cR (rd (ts.map Tk.enc) a d o))] ((mbd 5).drop 5) (r.so cR (ts.map Tk.enc) d) := by
    intro k s hk hu h
    cases hr : prs ts f .single a d o with
    | none => rw [hr] at h; cases h
    | some r1 =>
      rw [hr] at h
      have k1 := ih .single a d o r1 hr (B + 3) (by omega)
      cases r1 with
      | ok t a1 o1 => cases h
      | bad z =>
        cases h
        exact .hitX (v5 H) (by rw [hk, hu]; rfl) (.exc (.retX (.tupX (.cons .cStr (.cons (.name rfl) (.here (.sm H k1 .nil)))))))
  cases tk with
  | num v =>
    cases h
    exact go (k := "number") rfl (.hit v1 (by kernel_rfl) (.ret (.ret (.tp (.cons .cStr (.cons (.name rfl) .nil))))))
  | text s =>
    dsimp only at h
    refine go (k := "text") rfl (.skip v1 (by kernel_rfl) ?_)
    have hlen : s.cps.toList.length ≤ 100000 := by
      cases hn : txNum s.cps.toList with
      | none => rw [hn] at h; dsimp only at h; split at h; assumption; cases h
      | some v => rw [hn] at h; dsimp only at h; split at h; assumption; cases h
    have w := w_text_number (b := B) H s.cps.toList hlen
    rw [show tx s.cps.toList = .str s from congrArg PyData.str (T_back s)] at w
    cases hn : txNum s.cps.toList with
    | none =>
      rw [hn] at h w
      dsimp only at h
      rw [if_pos hlen] at h
      cases h
      exact .hitX v2 (by kernel_rfl) (.exc (.retX (.tupX (.cons .cStr (.here (.call H.O w (.cons (.name rfl) .nil) (by kernel_rfl)))))))
    | some v =>
      rw [hn] at h w
      dsimp only at h
      rw [if_pos hlen] at h
      cases h
      exact .hit v2 (by kernel_rfl) (.ret (.ret (.tp (.cons .cStr (.cons (.call H.O w (.cons (.name rfl) .nil) (by kernel_rfl)) .nil)))))
  | name s =>
    dsimp only at h
    refine go (k := "name") rfl (.skip v1 (by kernel_rfl) (.skip v2 (by kernel_rfl) (.skip (v3 H) rfl (.skip (v4 H) rfl ?_))))
    cases hu : Mine.unary.any (· == s) with
    | true => rw [hu] at h; exact one (by kernel_rfl) hu h
    | false =>
      rw [hu] at h
      cases h
      exact .skip (v5 H) (by rw [hu]; kernel_rfl) (.hit v6 (by kernel_rfl) (.ret (.ret (.tp (.cons .cStr (.cons (.name rfl) .nil))))))
  | fin =>
    cases h
    exact go (k := "end") (x := .str "") rfl (.skip v1 (by kernel_rfl) (.skip v2 (by kernel_rfl) (.skip (v3 H) rfl (.skip (v4 H) rfl (.skip (v5 H) (by kernel_rfl) (.skip v6 (by kernel_rfl) (.raiseA H .cStr (by kernel_rfl) (by omega))))))))
  | sign s =>
    dsimp only at h
    refine go (k := "sign") rfl (.skip v1 (by kernel_rfl) (.skip v2 (by kernel_rfl) ?_))
    cases h1 : s == ("$" : Str) with
    | true =>
      rw [h1] at h
      cases h
      exact .hit (v3 H) h1 (.ret (.ret (.tp (.cons .cStr .nil))))
    | false =>
      replace h := onF h1 h
      refine .skip (v3 H) h1 ?_
      cases h2 : s == ("(" : Str) with
      | true =>
        replace h := onT h2 h
        cases hr : prs ts f (.whole 0) a d o with
        | none => rw [hr] at h; cases h
        | some r1 =>
          rw [hr] at h
          have k1 := ih (.whole 0) a d o r1 hr (B + 3) (by omega) (by omega)
          cases r1 with
          | bad z =>
            cases h
            exact .hitX (v4 H) h2 (.exc (.setX (.sm H k1 (.cons .cInt .nil))))
          | ok t a1 o1 =>
            dsimp only at h
            have tk := w_take (b := B + 1) H ts a1 d o1 hl
            have is := w_is_sign (b := B + 2) H (tkAt ts a1) ")"
            cases hc : (tkAt ts a1).isSign ")" with
            | true =>
              rw [hc] at h is
              cases h
              exact .hit (v4 H) h2 (.setM (.sm H k1 (.cons .cInt .nil)) (by kernel_rfl) (.cons (.ite (c := false) (.as (.not (.val (.call H.O is (.cons (.sm H tk .nil) (.cons .cStr .nil)) (by kernel_rfl)))) rfl) .nil) (.ret (.ret (.name (by kernel_rfl))))))
            | false =>
              rw [hc] at h is
              cases h
              exact .hitX (v4 H) h2 (.setM (.sm H k1 (.cons .cInt .nil)) (by kernel_rfl) (.exc (.ite (c := true) (.as (.not (.val (.call H.O is (.cons (.sm H tk .nil) (.cons .cStr .nil)) (by kernel_rfl)))) rfl) (.raiseA H .cStr (by kernel_rfl) (by omega)))))
      | false =>
        replace h := onF h2 h
        refine .skip (v4 H) h2 ?_
        cases hu : Mine.unary.any (· == s) with
        | true => rw [hu] at h; exact one (by kernel_rfl) hu h
        | false =>
          rw [hu] at h
          cases h
          exact .skip (v5 H) (by rw [hu]; kernel_rfl) (.skip v6 (by kernel_rfl) (.raiseA H .cStr (by kernel_rfl) (by omega)))
theorem prs_does (H : Has S K cR) (hl : ts.length < 2 ^ 61) : ∀ (f : Nat) (job : Job) (a d o : Nat) (r : Pr), prs ts f job a d o = some r → ∀ B, f + 6 ≤ B → Does S K cR ts B a d o r job
  | 0, _, _, _, _, _, h, _, _ => by cases h
  | f + 1, .whole lv, a, d, o, r, h, B, hB => does_whole H hl (prs_does H hl f) h hB
  | f + 1, .loop lv t, a, d, o, r, h, B, hB => does_loop H hl (prs_does H hl f) h hB
  | f + 1, .single, a, d, o, r, h, B, hB => does_single H hl (prs_does H hl f) h hB
  | f + 1, .value tk, a, d, o, r, h, B, hB => does_value H hl (prs_does H hl f) h hB
end
end
section
variable [Pm]

noncomputable def exprOf (f : Nat) (ts : List Tk) : Option (Except Str Tree) := match prs ts f (.whole 0) 0 0 0 with
  | some (.ok t a _) => if a < ts.length then some (.error "something behind an expression") else some (.ok t)
  | some (.bad s) => some (.error s)
  | none => none
noncomputable def exOut : Except Str Tree → Out PyData
  | .ok t => .ok t.enc
  | .error s => .exc false s

section
variable {S : St} {K : Frag} {cR : Addr} {b : Nat}
theorem EvE.om {sc : Scope} {δ : List (Str × PyData)} {nm n : Str} {np pos ap : Pos} (H : Has S K cR) {ps qs : List (Str × PyData)} {es : List Expr} {ds : List PyData} {out : Out PyData} {μ₁ : Mut} (c : MethN S K cR b n μ₁ ds out (.inst cR qs)) (h : EvEs S b sc δ [(nm, .inst cR ps)] es (.ok ds) [(nm, μ₁)]) (hm : ps.lookup n = none := by rfl) (hs : noStar es := by intro _; rfl)
    (he : ∀ env, eval (.Call (.Attribute (.Name nm np) n ap) es [] pos) env = (do
      let ov ← eval (.Name nm np) env
      standAt ap.atName
      let (f, first) ← holding [ov] (getMethod ov n (do let r ← importBound (.Name nm np) env; pure (r.getD true)))
      callWith pos f first (backTo pos (starEach es env)) []) := by intro _; kernel_rfl) (hd : (nm == ("__debug__" : Str)) = false := by decide) : EvE S b sc δ [(nm, .inst cR ps)] (.Call (.Attribute (.Name nm np) n ap) es [] pos) out [(nm, .inst cR qs)] :=
  .meth [] [] H.E.toExcT.toExcS.X H.R c h hm hd hs he
theorem EvE.of {sc : Scope} {δ : List (Str × PyData)} {nm n : Str} {np pos : Pos} {v : PyData} (H : Has S K cR) {ps : List (Str × PyData)} (hl : ps.lookup n = some v) (hf : findIn K (.ref cR) n = some none) (he : ∀ env, eval (.Attribute (.Name nm np) n pos) env = (do
      let o ← eval (.Name nm np) env
      standAt pos.atName
      let r ← holding [o] (getAttr o n true)
      letTemporaryGo (.Name nm np) o r
      pure r) := by intro _; kernel_rfl) (hd : (nm == ("__debug__" : Str)) = false := by decide) : EvE S b sc δ [(nm, .inst cR ps)] (.Attribute (.Name nm np) n pos) (.ok v) [(nm, .inst cR ps)] :=
  .fld [] [] H.E.toExcT.toExcS.X H.R hf hl hd he
theorem w_init (H : Has S K cR) (l : List PyData) : MethN S K cR (b + 1) "__init__" (.inst cR []) [.list l] (.ok .none) (.inst cR (rd l 0 0 0)) := by
  have hf := H.mt 0 "__init__" ["self", "tokens"] (by kernel_rfl)
  have ok : ScOk (msk 0) ["self", "tokens"] := .of (by kernel_rfl)
  have X := H.E.toExcT.toExcS.X
  have s1 : EvS S b (msk 0) [("tokens", .list l)] [("self", .inst cR [])] (mst 0 0) (.next [("tokens", .list l)] [("self", .inst cR (putD "tokens" (.list l) []))]) := .setAttr [] [] X H.R (fT H) (.name (by kernel_rfl)) (Nat.le_of_ble_eq_true rfl)
  have s2 : EvS S b (msk 0) [("tokens", .list l)] [("self", .inst cR (putD "tokens" (.list l) []))] (mst 0 1) (.next [("tokens", .list l)] [("self", .inst cR (putD "at" (.int 0) (putD "tokens" (.list l) [])))]) := .setAttr [] [] X H.R (fA H) .cInt (Nat.le_of_ble_eq_true rfl)
  have s3 : EvS S b (msk 0) [("tokens", .list l)] [("self", .inst cR (putD "at" (.int 0) (putD "tokens" (.list l) [])))] (mst 0 2) (.next [("tokens", .list l)] [("self", .inst cR (putD "depth" (.int 0) (putD "at" (.int 0) (putD "tokens" (.list l) []))))]) := .setAttr [] [] X H.R (fD H) .cInt (Nat.le_of_ble_eq_true rfl)
  have s4 : EvS S b (msk 0) [("tokens", .list l)] [("self", .inst cR (putD "depth" (.int 0) (putD "at" (.int 0) (putD "tokens" (.list l) []))))] (mst 0 3) (.next [("tokens", .list l)] [("self", .inst cR (putD "operators" (.int 0) (putD "depth" (.int 0) (putD "at" (.int 0) (putD "tokens" (.list l) [])))))]) := .setAttr [] [] X H.R (fO H) .cInt (Nat.le_of_ble_eq_true rfl)
  have e : putD "operators" (.int 0) (putD "depth" (.int 0) (putD "at" (.int 0) (putD "tokens" (.list l) []))) = rd l 0 0 0 := by kernel_rfl
  rw [e] at s4
  exact .mk H.O hf ok (.next [("tokens", .list l)] [("self", .inst cR (rd l 0 0 0))]) (.cons s1 (.cons s2 (.cons s3 (.cons s4 .nil)))) .next
theorem w_expression_of (H : Has S K cR) (ts : List Tk) (hl : ts.length < 2 ^ 61) (f : Nat) (r : Except Str Tree) (h : exprOf f ts = some r) (B : Nat) (hB : f + 8 ≤ B) : CalN S B "expression_of" [.list (ts.map Tk.enc)] (exOut r) := by
  obtain ⟨B, rfl⟩ : ∃ B', B = B' + 2 := ⟨B - 2, by omega⟩
  have hf := H.fn 29 "expression_of" ["tokens"] (by kernel_rfl)
  have ok : ScOk (sk 29) ["tokens"] := .of (by kernel_rfl)
  have hlm : (ts.map Tk.enc).length < 2 ^ 61 := by rw [List.length_map]; exact hl
  obtain ⟨B, rfl⟩ : ∃ B', B = B' + 1 := ⟨B - 1, by omega⟩
  have first : EvS S (B + 2) (sk 29) [("tokens", .list (ts.map Tk.enc))] [] (stm 29 0) (.next [("tokens", .list (ts.map Tk.enc))] [("reader", .inst cR (rd (ts.map Tk.enc) 0 0 0))]) :=
    .make H.O H.E.toExcT.toExcS.X H.makes H.kp H.gR (w_init (b := B) H (ts.map Tk.enc)) (.cons (.name (by kernel_rfl)) .nil) (by kernel_rfl) (by kernel_rfl)
  unfold exprOf at h
  cases hr : prs ts f (.whole 0) 0 0 0 with
  | none => rw [hr] at h; cases h
  | some r1 =>
    rw [hr] at h
    have k1 := prs_does H hl f (.whole 0) 0 0 0 r1 hr (B + 2) (by omega) (by omega)
    cases r1 with
    | bad s =>
      cases h
      exact .mk H.O hf ok (.exc _ _) (.cons first (.exc (.setX (.om H k1 (.cons .cInt .nil)))))
    | ok t a o =>
      dsimp only at h
      have test : EvT S (B + 2) (sk 29) [("found", t.enc), ("tokens", .list (ts.map Tk.enc))] [("reader", .inst cR (rd (ts.map Tk.enc) a 0 o))] (ifT (stm 29 2)) (.ok (decide (a < ts.length))) [("reader", .inst cR (rd (ts.map Tk.enc) a 0 o))] := by
        have e : decide ((a : Int) < ((ts.map Tk.enc).length : Int)) = decide (a < ts.length) := by rw [decide_eq_decide, List.length_map]; omega
        rw [← e]
        exact .cmp (.cons (.of H rfl (fA H)) (.cons (.lenD H (.name (by kernel_rfl)) hlm (by kernel_rfl)) .nil)) prim_lt
      cases hc : decide (a < ts.length) with
      | true =>
        have h' := of_decide_eq_true hc
        rw [if_pos h'] at h
        cases h
        exact .mk H.O hf ok (.exc _ _) (.cons first (.setM (.om H k1 (.cons .cInt .nil)) (by kernel_rfl) (.hitX test hc (.raiseA H .cStr (by kernel_rfl) (by omega)))))
      | false =>
        have h' := of_decide_eq_false hc
        rw [if_neg h'] at h
        cases h
        exact .mk H.O hf ok (.ret _ [("reader", .inst cR (rd (ts.map Tk.enc) a 0 o))]) (.cons first (.setM (.om H k1 (.cons .cInt .nil)) (by kernel_rfl) (.skip test hc (.ret (.ret (.name (by kernel_rfl)))))))
end
end
section
variable [Pm]
theorem calN_fn {S : St} {b : Nat} {n : Str} {ds : List PyData} {out : Out PyData} (c : CalN S b n ds out) : ∃ fa o fd, S.mg n = some (.ref fa) ∧ S.B.get? fa = some o ∧ o.data = .func fd ∧ True := let ⟨fa, o, fd, h1, h2, h3, _⟩ := c; ⟨fa, o, fd, h1, h2, h3, trivial⟩
noncomputable def retE : Stmt → Expr
  | .Return (some e) _ => e
  | _ => .Constant .none 0 ⟨0, 0, 0, 0⟩

inductive Op where
  | add | sub | div | mod
noncomputable def Op.str : Op → Str
  | .add => "+"
  | .sub => "-"
  | .div => "/"
  | .mod => "MOD"
/-- what the law needs of two_worked -/
noncomputable def Op.work (x y : Int) : Op → Option (Except (Bool × Str) Int)
  | .add => some (.ok ((x + y).fmod 65536))
  | .sub => some (.ok ((x - y).fmod 65536))
  | .div => if y = 0 then some (.error (false, "a division by nought")) else none
  | .mod => if y = 0 then some (.error (false, "a division by nought")) else none
noncomputable def vOut : Except (Bool × Str) Int → Out PyData
  | .ok v => .ok (.int v)
  | .error (u, t) => .exc u t

section
variable {S : St} {K : Frag} {cR : Addr} {b : Nat}
theorem two_div (H : Has S K cR) {op : Str} {x y : Int} (h1 : (op == ("+" : Str)) = false) (h2 : (op == ("-" : Str)) = false) (h3 : (op == ("*" : Str)) = false) (h4 : (op == ("/" : Str) || (op == ("MOD" : Str) || false)) = true) (hy : y = 0) : CalN S (b + 3) "two_worked" [.str op, .int x, .int y] (.exc false "a division by nought") := by
  have hf := H.fn 32 "two_worked" ["op", "one", "other"] (by kernel_rfl)
  have ok : ScOk (sk 32) ["op", "one", "other"] := .of (by kernel_rfl)
  subst hy
  exact .mk H.O hf ok (.exc _ _) (.skip (.orB (.cmp (.cons (.name rfl) (.cons .cStr .nil)) prim_seq) fun _ => .orB (.cmp (.cons (.name rfl) (.cons .cStr .nil)) prim_seq) fun _ => .orNil) (by rw [h1, h2]; rfl)
    (.skip (.cmp (.cons (.name rfl) (.cons .cStr .nil)) prim_seq) h3
    (.hitX (.orB (.cmp (.cons (.name rfl) (.cons .cStr .nil)) prim_seq) fun _ => .orB (.cmp (.cons (.name rfl) (.cons .cStr .nil)) prim_seq) fun _ => .orNil) h4
      (.hitX (.cmp (.cons (.name rfl) (.cons .cInt .nil)) prim_ieq) rfl (.raiseA H .cStr (by kernel_rfl) (by omega))))))
theorem w_two_worked (H : Has S K cR) (op : Op) (x y : Int) (r : Except (Bool × Str) Int) (h : op.work x y = some r) : CalN S (b + 3) "two_worked" [.str op.str, .int x, .int y] (vOut r) := by
  have hf := H.fn 32 "two_worked" ["op", "one", "other"] (by kernel_rfl)
  have ok : ScOk (sk 32) ["op", "one", "other"] := .of (by kernel_rfl)
  cases op with
  | add =>
    cases h
    exact .mk H.O hf ok (.ret _ []) (.hit (.or (c := true) (.cmp (.cons (.name rfl) (.cons .cStr .nil)) (prim_seq (a := "+") (c := "+"))) ⟨rfl, rfl⟩) rfl (.ret (.ret (.bin (.cons (.iteT (.cmp (.cons (.name rfl) (.cons .cStr .nil)) (prim_seq (a := "+") (c := "+"))) (by kernel_rfl) (.bin (.cons (.name rfl) (.cons (.name rfl) .nil)) prim_add)) (.cons .cInt .nil)) (prim_mod (by omega))))))
  | sub =>
    cases h
    exact .mk H.O hf ok (.ret _ []) (.hit (.or (c := false) (.as (.cmp (.cons (.name rfl) (.cons .cStr .nil)) (prim_seq (a := "-") (c := "+"))) (by kernel_rfl)) (.or (c := true) (.cmp (.cons (.name rfl) (.cons .cStr .nil)) (prim_seq (a := "-") (c := "-"))) ⟨rfl, rfl⟩)) rfl (.ret (.ret (.bin (.cons (.iteF (.cmp (.cons (.name rfl) (.cons .cStr .nil)) (prim_seq (a := "-") (c := "+"))) (by kernel_rfl) (.bin (.cons (.name rfl) (.cons (.name rfl) .nil)) prim_sub)) (.cons .cInt .nil)) (prim_mod (by omega))))))
  | div =>
    unfold Op.work at h
    by_cases hy : y = 0
    · rw [if_pos hy] at h; cases h; exact two_div H (by kernel_rfl) (by kernel_rfl) (by kernel_rfl) (by kernel_rfl) hy
    · rw [if_neg hy] at h; cases h
  | mod =>
    unfold Op.work at h
    by_cases hy : y = 0
    · rw [if_pos hy] at h; cases h; exact two_div H (by kernel_rfl) (by kernel_rfl) (by kernel_rfl) (by kernel_rfl) hy
    · rw [if_neg hy] at h; cases h

noncomputable def opOf (s : Str) : Option Op := if s == ("+" : Str) then some .add else if s == ("-" : Str) then some .sub else if s == ("/" : Str) then some .div else if s == ("MOD" : Str) then some .mod else none
theorem opOf_str {s : Str} {o : Op} (h : opOf s = some o) : o.str = s := by
  unfold opOf at h
  split at h
  · rename_i q; cases h; exact (beq_iff_eq.mp q).symm
  · split at h
    · rename_i q; cases h; exact (beq_iff_eq.mp q).symm
    · split at h
      · rename_i q; cases h; exact (beq_iff_eq.mp q).symm
      · split at h
        · rename_i q; cases h; exact (beq_iff_eq.mp q).symm
        · cases h
/-- the value of an expression -/
noncomputable def valT (D : List (PyData × PyData)) (at' : Int) : Tree → Option (Except (Bool × Str) Int)
  | .num v => some (.ok v)
  | .here => some (.ok (at'.fmod 65536))
  | .name s => match Spec.lookup (.str s) D with
    | none => if s.cps.toList.length ≤ 100000 then some (.error (true, "an unknown name: " ++ s)) else none
    | some (.int v) => some (.ok v)
    | some _ => none
  | .two op a b => match opOf op with
    | none => none
    | some o => match valT D at' a with
      | some (.ok x) => match valT D at' b with
        | some (.ok y) => o.work x y
        | r => r
      | r => r
noncomputable def Tree.height : Tree → Nat
  | .two _ a b => max a.height b.height + 1
  | _ => 0
noncomputable abbrev valδ (k : Str) (t : Tree) (D : List (PyData × PyData)) (at' : Int) : List (Str × PyData) := [("kind", .str k), ("tree", t.enc), ("symbols", .dict D), ("at", .int at')]
theorem u1 {k : Str} {t : Tree} {D : List (PyData × PyData)} {at' : Int} : EvT S b (sk 33) (valδ k t D at') [] (ifT (stm 33 1)) (.ok (k == ("number" : Str))) [] := .cmp (.cons (.name rfl) (.cons .cStr .nil)) prim_seq
theorem u2 {k : Str} {t : Tree} {D : List (PyData × PyData)} {at' : Int} : EvT S b (sk 33) (valδ k t D at') [] (ifT (stm 33 2)) (.ok (k == ("here" : Str))) [] := .cmp (.cons (.name rfl) (.cons .cStr .nil)) prim_seq
theorem u3 {k : Str} {t : Tree} {D : List (PyData × PyData)} {at' : Int} : EvT S b (sk 33) (valδ k t D at') [] (ifT (stm 33 3)) (.ok (k == ("name" : Str))) [] := .cmp (.cons (.name rfl) (.cons .cStr .nil)) prim_seq
theorem u4 {k : Str} {t : Tree} {D : List (PyData × PyData)} {at' : Int} : EvT S b (sk 33) (valδ k t D at') [] (ifT (stm 33 4)) (.ok (k == ("one" : Str))) [] := .cmp (.cons (.name rfl) (.cons .cStr .nil)) prim_seq
theorem w_value_of (H : Has S K cR) (D : List (PyData × PyData)) (at' : Int) : ∀ (t : Tree) (r : Except (Bool × Str) Int), valT D at' t = some r → ∀ B, t.height + 4 ≤ B → CalN S B "value_of" [t.enc, .dict D, .int at'] (vOut r)
  | .num v, r, h, B, hB => by
    cases h
    obtain ⟨B, rfl⟩ : ∃ B', B = B' + 1 := ⟨B - 1, by omega⟩
    exact .mk H.O (H.fn 33 "value_of" ["tree", "symbols", "at"] (by kernel_rfl)) (.of (by kernel_rfl)) (.ret _ []) (.set (d := .str "number") (.sub (.cons (.name (d := (Tree.num v).enc) (by kernel_rfl)) (.cons .cInt .nil)) (prim_tupAt (n := 0) rfl rfl (by omega))) (by kernel_rfl) (.hit u1 (by kernel_rfl) (.ret (.ret (.sub (.cons (.name (d := (Tree.num v).enc) (by kernel_rfl)) (.cons .cInt .nil)) (prim_tupAt (n := 1) rfl rfl (by omega)))))))
  | .here, r, h, B, hB => by
    cases h
    obtain ⟨B, rfl⟩ : ∃ B', B = B' + 1 := ⟨B - 1, by omega⟩
    exact .mk H.O (H.fn 33 "value_of" ["tree", "symbols", "at"] (by kernel_rfl)) (.of (by kernel_rfl)) (.ret _ []) (.set (d := .str "here") (.sub (.cons (.name (d := (Tree.here).enc) (by kernel_rfl)) (.cons .cInt .nil)) (prim_tupAt (n := 0) rfl rfl (by omega))) (by kernel_rfl) (.skip u1 (by kernel_rfl) (.hit u2 (by kernel_rfl) (.ret (.ret (.bin (.cons (.name rfl) (.cons .cInt .nil)) (prim_mod (by omega))))))))
  | .name s, r, h, B, hB => by
    obtain ⟨B, rfl⟩ : ∃ B', B = B' + 3 := ⟨B - 3, by omega⟩
    have hf := H.fn 33 "value_of" ["tree", "symbols", "at"] (by kernel_rfl)
    have hk : EvE S (B + 2) (sk 33) [("tree", (Tree.name s).enc), ("symbols", .dict D), ("at", .int at')] [] _ (.ok (.str "name")) [] := .sub (.cons (.name (n := "tree") (pos := ⟨0, 0, 0, 0⟩) (d := (Tree.name s).enc) (by kernel_rfl)) (.cons (.cInt (pos := ⟨0, 0, 0, 0⟩) (k := 0)) .nil)) (prim_tupAt (n := 0) rfl rfl (by omega)) (pos := ⟨0, 0, 0, 0⟩)
    have hn : ∀ {p1 p2 p3 : Pos} {k : Nat}, EvE S (B + 2) (sk 33) (valδ "name" (.name s) D at') [] (.Subscript (.Name "tree" p1) (.Constant (.int 1) k p2) p3) (.ok (.str s)) [] := .sub (.cons (.name (d := (Tree.name s).enc) (by kernel_rfl)) (.cons .cInt .nil)) (prim_tupAt (n := 1) rfl rfl (by omega))
    have u5 : EvT S (B + 2) (sk 33) (valδ "name" (.name s) D at') [] (ifT ((ifB (stm 33 3)).getD 0 (.Pass ⟨0, 0, 0, 0⟩))) (.ok (!(Spec.lookup (.str s) D).isSome)) [] := .cmp (.cons hn (.cons (.name rfl) .nil)) (prim_nind H.O)
    unfold valT at h
    cases hl : Spec.lookup (.str s) D with
    | none =>
      rw [hl] at h u5
      dsimp only at h
      have hlen : s.cps.toList.length ≤ 100000 := by split at h; assumption; cases h
      rw [if_pos hlen] at h
      cases h
      have fit : ("an unknown name: " : Str).length + s.length ≤ sizeLine := by
        show 17 + s.cps.size ≤ _
        rw [Array.length_toList] at hlen
        exact Nat.le_trans (show _ ≤ 100017 by omega) (by decide)
      exact .mk H.O hf (.of (by kernel_rfl)) (.exc _ _) (.set (d := .str "name") (.sub (.cons (.name (d := (Tree.name s).enc) (by kernel_rfl)) (.cons .cInt .nil)) (prim_tupAt (n := 0) rfl rfl (by omega))) (by kernel_rfl) (.skip u1 (by kernel_rfl) (.skip u2 (by kernel_rfl) (.hitX u3 (by kernel_rfl) (.hitX u5 rfl (.raiseU H (.bin (.cons .cStr (.cons hn .nil)) (prim_cat fit)) (by kernel_rfl) (by omega)))))))
    | some v =>
      rw [hl] at h u5
      cases v with
      | int v =>
        cases h
        exact .mk H.O hf (.of (by kernel_rfl)) (.ret _ []) (.set (d := .str "name") (.sub (.cons (.name (d := (Tree.name s).enc) (by kernel_rfl)) (.cons .cInt .nil)) (prim_tupAt (n := 0) rfl rfl (by omega))) (by kernel_rfl) (.skip u1 (by kernel_rfl) (.skip u2 (by kernel_rfl) (.hit u3 (by kernel_rfl) (.skip u5 rfl (.ret (.ret (.sub (.cons (.name rfl) (.cons hn .nil)) (prim_dAt H.O hl)))))))))
      | _ => cases h
  | .two op a b, r, h, B, hB => by
    have hB' : max a.height b.height + 1 + 4 ≤ B := hB
    obtain ⟨B, rfl⟩ : ∃ B', B = B' + 4 := ⟨B - 4, by omega⟩
    have hf := H.fn 33 "value_of" ["tree", "symbols", "at"] (by kernel_rfl)
    have tr : ∀ {δ : List (Str × PyData)} {i : Nat} {d : PyData} {p1 p2 p3 : Pos} {k : Nat}, δ.lookup ("tree" : Str) = some (Tree.two op a b).enc → ([.str "two", .str op, a.enc, b.enc] : List PyData)[i]? = some d → i < 2 ^ 62 → EvE S (B + 3) (sk 33) δ [] (.Subscript (.Name "tree" p1) (.Constant (.int (i : Int)) k p2) p3) (.ok d) [] := fun h1 h2 h3 =>
      .sub (.cons (.name (d := (Tree.two op a b).enc) h1) (.cons .cInt .nil)) (prim_tupAt h2 rfl h3)
    have go : ∀ {so : SO}, EvSs S (B + 3) (sk 33) (valδ "two" (.two op a b) D at') [] ((bd 33).drop 5) so → EvSs S (B + 3) (sk 33) [("tree", (Tree.two op a b).enc), ("symbols", .dict D), ("at", .int at')] [] (bd 33) so := fun q =>
      .set (d := .str "two") (tr (i := 0) (by kernel_rfl) rfl (by omega)) (by kernel_rfl) (.skip u1 (by kernel_rfl) (.skip u2 (by kernel_rfl) (.skip u3 (by kernel_rfl) (.skip u4 (by kernel_rfl) q))))
    unfold valT at h
    cases ho : opOf op with
    | none => rw [ho] at h; cases h
    | some o =>
      rw [ho] at h
      dsimp only at h
      cases hx : valT D at' a with
      | none => rw [hx] at h; cases h
      | some rx =>
        rw [hx] at h
        have cx := w_value_of H D at' a rx hx (B + 3) (by omega)
        cases rx with
        | error e =>
          cases h
          obtain ⟨u, t⟩ := e
          exact .mk H.O hf (.of (by kernel_rfl)) (.exc _ _) (go (.exc (.setX (.call H.O cx (.cons (tr (i := 2) (by kernel_rfl) rfl (by omega)) (.cons (.name rfl) (.cons (.name rfl) .nil))) (by kernel_rfl)))))
        | ok x =>
          dsimp only at h
          cases hy : valT D at' b with
          | none => rw [hy] at h; cases h
          | some ry =>
            rw [hy] at h
            have cy := w_value_of H D at' b ry hy (B + 3) (by omega)
            have cm : ∃ fa o fd, S.mg ("two_worked" : Str) = some (.ref fa) ∧ S.B.get? fa = some o ∧ o.data = .func fd := by
              obtain ⟨fa, o, fd, q1, q2, q3, _⟩ := calN_fn (w_two_worked (b := 0) H .add 0 0 _ rfl)
              exact ⟨fa, o, fd, q1, q2, q3⟩
            cases ry with
            | error e =>
              cases h
              obtain ⟨u, t⟩ := e
              exact .mk H.O hf (.of (by kernel_rfl)) (.exc _ _) (go (.set (.call H.O cx (.cons (tr (i := 2) (by kernel_rfl) rfl (by omega)) (.cons (.name rfl) (.cons (.name rfl) .nil))) (by kernel_rfl)) (by kernel_rfl)
                (.exc (.retX (.callX H.O cm (.cons (tr (i := 1) (by kernel_rfl) rfl (by omega)) (.cons (.name rfl) (.here (.call H.O cy (.cons (tr (i := 3) (by kernel_rfl) rfl (by omega)) (.cons (.name rfl) (.cons (.name rfl) .nil))) (by kernel_rfl))))) (by kernel_rfl))))))
            | ok y =>
              have c2 := w_two_worked (b := B) H o x y r h
              rw [opOf_str ho] at c2
              have fin : ∀ {p1 : Pos}, EvE S (B + 3) (sk 33) (("one", .int x) :: valδ "two" (.two op a b) D at') [] (retE ((bd 33).getD 6 (.Pass ⟨0, 0, 0, 0⟩))) (vOut r) [] := .call H.O c2 (.cons (tr (i := 1) (by kernel_rfl) rfl (by omega)) (.cons (.name rfl) (.cons (.call H.O cy (.cons (tr (i := 3) (by kernel_rfl) rfl (by omega)) (.cons (.name rfl) (.cons (.name rfl) .nil))) (by kernel_rfl)) .nil))) (by kernel_rfl)
              cases r with
              | ok v => exact .mk H.O hf (.of (by kernel_rfl)) (.ret _ []) (go (.set (.call H.O cx (.cons (tr (i := 2) (by kernel_rfl) rfl (by omega)) (.cons (.name rfl) (.cons (.name rfl) .nil))) (by kernel_rfl)) (by kernel_rfl) (.ret (.ret (fin (p1 := ⟨0, 0, 0, 0⟩))))))
              | error e =>
                obtain ⟨u, t⟩ := e
                exact .mk H.O hf (.of (by kernel_rfl)) (.exc _ _) (go (.set (.call H.O cx (.cons (tr (i := 2) (by kernel_rfl) rfl (by omega)) (.cons (.name rfl) (.cons (.name rfl) .nil))) (by kernel_rfl)) (by kernel_rfl) (.exc (.retX (fin (p1 := ⟨0, 0, 0, 0⟩))))))
end
end
section
variable [Pm]

section
variable {S : St} {b : Nat} {sc : Scope} {δ : List (Str × PyData)} {m₁ m₂ : Str × Mut} {A : Around} {env : Env} {Fs : List Addr} {h₀ : Heap} {nr : Nat} {Xr Y₀ Y : List Addr} {Xs : List (List Addr)} {s : Shared}
theorem PreS.swap (P : PreS S b sc A env Fs h₀ nr Xr Y₀ Y Xs δ [m₁, m₂] s) (hb : byRef sc = false) (hc : isComp sc = false) : ∃ Xs', PreS S b sc A env Fs h₀ nr Xr Y₀ Y Xs' δ [m₂, m₁] s := by
  have hM := P.pre.muts
  obtain ⟨x₁, x₂, rfl⟩ : ∃ x₁ x₂, Xs = [x₁, x₂] := by
    match Xs, hM with
    | [a, b], _ => exact ⟨a, b, rfl⟩
    | [], q => exact q.elim
    | [_], q => exact q.2.elim
    | _ :: _ :: _ :: _, q => exact q.2.2.elim
  have f1 : ([x₁, x₂] : List (List Addr)).flatten = x₁ ++ x₂ := by simp
  have f2 : ([x₂, x₁] : List (List Addr)).flatten = x₂ ++ x₁ := by simp
  have mem : ∀ {a : Addr}, a ∈ ([x₂, x₁] : List (List Addr)).flatten → a ∈ ([x₁, x₂] : List (List Addr)).flatten := fun h => by
    rw [f2] at h; rw [f1]; exact List.mem_append.mpr (List.mem_append.mp h).symm
  obtain ⟨hXr, hnr, h0⟩ := P.xr hc
  have hz : nr = 0 := h0.elim id fun q => by rw [hb] at q; cases q
  subst hz
  refine ⟨[x₂, x₁], ⟨?_, fun _ => ⟨hXr, Nat.zero_le _, .inl rfl⟩, P.y0⟩⟩
  have P := P.pre
  exact { P with
    muts := ⟨hM.2.1, hM.1, trivial⟩
    nodup := by
      have := P.nodup
      rw [f1] at this; rw [f2]
      have := List.nodup_append.mp this
      exact List.nodup_append.mpr ⟨this.2.1, this.1, fun a ha b hb e => this.2.2 b hb a ha e.symm⟩
    sepY := fun a q => P.sepY a (mem q)
    sepF := fun a q => P.sepF a (mem q)
    sepN := ⟨fun q => P.sepN.1 (mem q), fun x c e q => P.sepN.2 x c e (mem q)⟩
    sepH := fun a q => P.sepH a (mem q) }
theorem EvSs.swap (hb : byRef sc = false := by rfl) (hc : isComp sc = false := by rfl) : EvSs S b sc δ [m₁, m₂] [] (.next δ [m₂, m₁]) := by
  with_unfolding_all
  intro A env Fs h₀ nr Xr Y₀ Y Xs s R E P K
  obtain ⟨Xs', P'⟩ := P.swap hb hc
  exact wpAny_pure (K s.heap s.toks Y Xs' (.refl ..) (fun a q => .inl q) P')
end

noncomputable def encL (l : List Tk) : PyData := .list (l.map Tk.enc)
noncomputable def pcs : List Tk → List (List Tk) → List Tk → Int → List (List Tk)
  | [], fo, he, _ => fo ++ [he]
  | t :: ts, fo, he, d =>
    if t.isSign "," && ((if t.isSign ")" then (if t.isSign "(" then d + 1 else d) - 1 else (if t.isSign "(" then d + 1 else d)) == 0) then pcs ts (fo ++ [he]) [] (if t.isSign ")" then (if t.isSign "(" then d + 1 else d) - 1 else (if t.isSign "(" then d + 1 else d))
    else pcs ts fo (he ++ [t]) (if t.isSign ")" then (if t.isSign "(" then d + 1 else d) - 1 else (if t.isSign "(" then d + 1 else d))
noncomputable def pieces (ts : List Tk) : List (List Tk) := if ts.isEmpty then [] else pcs ts [] [] 0

section
variable {S : St} {K : Frag} {cR : Addr} {b : Nat}
noncomputable abbrev pδ (X : PyData) (t : Tk) (d : Int) : List (Str × PyData) := [("token", t.enc), ("tokens", X), ("depth", .int d)]
theorem p_is (H : Has S K cR) {X : PyData} {t : Tk} {d : Int} {μ : List (Str × Mut)} {s : Str} {p1 p2 p3 p4 : Pos} {k : Nat} : EvT S (b + 1) (sk 40) (pδ X t d) μ (.Call (.Name "is_sign" p1) [.Name "token" p2, .Constant (.str s) k p3] [] p4) (.ok (t.isSign s)) μ :=
  .val (.call H.O (w_is_sign (b := b) H t s) (.cons (.name (by kernel_rfl)) (.cons .cStr .nil)) (by kernel_rfl))
theorem p_step1 (H : Has S K cR) {X : PyData} {t : Tk} {d : Int} {μ : List (Str × Mut)} (hμ : μ.lookup ("depth" : Str) = none) : EvS S (b + 1) (sk 40) (pδ X t d) μ ((forB (stm 40 2)).getD 0 (.Pass ⟨0, 0, 0, 0⟩)) (.next (pδ X t (if t.isSign "(" then d + 1 else d)) μ) := by
  cases h : t.isSign "(" with
  | true => exact .less (.ite (c := true) (.as (p_is H) h) (.cons (.aug (d := .int (d + 1)) rfl .cInt prim_iadd (by kernel_rfl) hμ) .nil)) ⟨by kernel_rfl, by kernel_rfl, by kernel_rfl, trivial⟩
  | false => exact .ite (c := false) (.as (p_is H) h) .nil
theorem p_step2 (H : Has S K cR) {X : PyData} {t : Tk} {d : Int} {μ : List (Str × Mut)} (hμ : μ.lookup ("depth" : Str) = none) : EvS S (b + 1) (sk 40) (pδ X t d) μ ((forB (stm 40 2)).getD 1 (.Pass ⟨0, 0, 0, 0⟩)) (.next (pδ X t (if t.isSign ")" then d - 1 else d)) μ) := by
  cases h : t.isSign ")" with
  | true => exact .less (.ite (c := true) (.as (p_is H) h) (.cons (.aug (d := .int (d - 1)) rfl .cInt prim_isub (by kernel_rfl) hμ) .nil)) ⟨by kernel_rfl, by kernel_rfl, by kernel_rfl, trivial⟩
  | false => exact .ite (c := false) (.as (p_is H) h) .nil
theorem pcs_loop (H : Has S K cR) (X : PyData) : ∀ (ts : List Tk) (fo : List (List Tk)) (he : List Tk) (d : Int), fo.length + he.length + ts.length ≤ 100000 → ∃ fo' he' d', pcs ts fo he d = fo' ++ [he'] ∧ fo'.length ≤ 100000 ∧
    EvF S (b + 1) (sk 40) [("tokens", X), ("depth", .int d)] [("here", .list (he.map Tk.enc)), ("found", .list (fo.map encL))] (forT (stm 40 2)) (forB (stm 40 2)) (ts.map Tk.enc) (.next [("tokens", X), ("depth", .int d')] [("here", .list (he'.map Tk.enc)), ("found", .list (fo'.map encL))])
  | [], fo, he, d, hz => ⟨fo, he, d, rfl, by omega, .nil⟩
  | t :: ts, fo, he, d, hz => by
    have hz' : fo.length + he.length + (ts.length + 1) ≤ 100000 := hz
    have test : EvT S (b + 1) (sk 40) (pδ X t (if t.isSign ")" then (if t.isSign "(" then d + 1 else d) - 1 else (if t.isSign "(" then d + 1 else d))) [("here", .list (he.map Tk.enc)), ("found", .list (fo.map encL))] (ifT ((forB (stm 40 2)).getD 2 (.Pass ⟨0, 0, 0, 0⟩)))
        (.ok (t.isSign "," && (((if t.isSign ")" then (if t.isSign "(" then d + 1 else d) - 1 else (if t.isSign "(" then d + 1 else d)) == 0) && true))) [("here", .list (he.map Tk.enc)), ("found", .list (fo.map encL))] :=
      .andB (p_is H) fun _ => .andB (.cmp (.cons (.name rfl) (.cons .cInt .nil)) prim_ieq) fun _ => .andNil
    rw [Bool.and_true] at test
    generalize hD : (if t.isSign ")" then (if t.isSign "(" then d + 1 else d) - 1 else (if t.isSign "(" then d + 1 else d)) = D at test
    have e : pcs (t :: ts) fo he d = if t.isSign "," && (D == 0) then pcs ts (fo ++ [he]) [] D else pcs ts fo (he ++ [t]) D := by rw [← hD]; rfl
    have s1 := p_step1 (b := b) H (X := X) (t := t) (d := d) (μ := [("here", .list (he.map Tk.enc)), ("found", .list (fo.map encL))]) (by kernel_rfl)
    have s2 := p_step2 (b := b) H (X := X) (t := t) (d := if t.isSign "(" then d + 1 else d) (μ := [("here", .list (he.map Tk.enc)), ("found", .list (fo.map encL))]) (by kernel_rfl)
    rw [hD] at s2
    cases hc : t.isSign "," && (D == 0) with
    | true =>
      rw [hc] at e test
      obtain ⟨fo', he', d', r1, r2, r3⟩ := pcs_loop H X ts (fo ++ [he]) [] D (by rw [List.length_append]; show _ + 1 + 0 + _ ≤ _; omega)
      refine ⟨fo', he', d', e.trans r1, r2, .turn (δ₂ := [("tokens", X), ("depth", .int D)]) (μ₂ := [("here", .list (([] : List Tk).map Tk.enc)), ("found", .list ((fo ++ [he]).map encL))]) (.name (by kernel_rfl)) (.less (δ₁ := pδ X t D) (.cons s1 (.cons s2 (.cons (.ite (c := true) test (.freeze [] [("found", .list (fo.map encL))] ?_)) .nil))) ⟨by kernel_rfl, by kernel_rfl, trivial⟩) r3⟩
      rw [List.map_append]
      exact .cons (.append [] [] (.name rfl) (by rw [List.length_map]; exact Nat.le_trans (show _ ≤ 100000 by omega) (by decide))) (.weak (δ₁ := pδ X t D) (.cons (.new (by kernel_rfl)) .swap) ⟨by kernel_rfl, by kernel_rfl, by kernel_rfl, trivial⟩)
    | false =>
      rw [hc] at e test
      obtain ⟨fo', he', d', r1, r2, r3⟩ := pcs_loop H X ts fo (he ++ [t]) D (by rw [List.length_append]; show _ + (_ + 1) + _ ≤ _; omega)
      refine ⟨fo', he', d', e.trans r1, r2, .turn (δ₂ := [("tokens", X), ("depth", .int D)]) (μ₂ := [("here", .list ((he ++ [t]).map Tk.enc)), ("found", .list (fo.map encL))]) (.name (by kernel_rfl)) (.less (δ₁ := pδ X t D) (.cons s1 (.cons s2 (.cons (.ite (c := false) test ?_) .nil))) ⟨by kernel_rfl, by kernel_rfl, trivial⟩) r3⟩
      rw [List.map_append]
      exact .cons (.append [] [("found", .list (fo.map encL))] (.name rfl) (by rw [List.length_map]; exact Nat.le_trans (show _ ≤ 100000 by omega) (by decide))) .nil
end
end
section
variable [Pm]

section
variable {S : St} {K : Frag} {cR : Addr} {b : Nat}
theorem w_pieces_of (H : Has S K cR) (ts : List Tk) (hl : ts.length ≤ 100000) : CalN S (b + 2) "pieces_of" [encL ts] (.ok (.list ((pieces ts).map encL))) := by
  have hf := H.fn 40 "pieces_of" ["tokens"] (by kernel_rfl)
  have ok : ScOk (sk 40) ["tokens"] := .of (by kernel_rfl)
  have hlm : (ts.map Tk.enc).length < 2 ^ 61 := by rw [List.length_map]; omega
  have test : EvT S (b + 1) (sk 40) [("tokens", encL ts)] [] (ifT (stm 40 0)) (.ok (((ts.map Tk.enc).length : Int) == 0)) [] := .cmp (.cons (.lenD H (.name (by kernel_rfl)) hlm (by kernel_rfl)) (.cons .cInt .nil)) prim_ieq
  cases ts with
  | nil => exact .mk H.O hf ok (.ret _ []) (.hit test rfl (.ret (.ret (.ls .nil))))
  | cons t ts =>
    have hne : ((((t :: ts).map Tk.enc).length : Int) == 0) = false := by rw [beq_eq_false_iff_ne, List.length_map, List.length_cons]; omega
    obtain ⟨fo, he, d, r1, r2, r3⟩ := pcs_loop (b := b) H (encL (t :: ts)) (t :: ts) [] [] 0 (by show 0 + 0 + _ ≤ _; omega)
    have first : EvS S (b + 1) (sk 40) [("tokens", encL (t :: ts))] [] (stm 40 1) (.next [("tokens", encL (t :: ts)), ("depth", .int 0)] [("here", .list (([] : List Tk).map Tk.enc)), ("found", .list (([] : List (List Tk)).map encL))]) := by
      refine .less (.tup true [("found", _), ("here", _), ("depth", _)] rfl (.new (.new (.dat (d := .int 0) .cInt .nil))) rfl ⟨by kernel_rfl, rfl, by kernel_rfl, rfl, rfl, by kernel_rfl, rfl, rfl, trivial⟩ (fun env he => ?_) (hz := Nat.le_of_ble_eq_true (by kernel_rfl))) ?_
      · unfold swappedStores Env.blockKind Env.kindOf; rw [he]; kernel_rfl
      · exact ⟨by kernel_rfl, by kernel_rfl, trivial⟩
    have e : pieces (t :: ts) = fo ++ [he] := r1
    rw [e, List.map_append]
    exact .mk H.O hf ok (.ret _ []) (.skip test hne (.cons first (.cons (.for (.list (.name (d := encL (t :: ts)) (by kernel_rfl))) r3) (.freeze [] [("found", .list (fo.map encL))] (.freeze [] [] (.ret (.ret (.bin (.cons (.name rfl) (.cons (.ls (.cons (.name rfl) .nil)) .nil)) (prim_lists (by rw [List.length_map]; exact Nat.le_trans (show _ ≤ 100001 by show _ + 1 ≤ _; omega) (by decide))))))))))) 

/-! wrapped in parentheses -/
noncomputable def wrLoop (n : Nat) : List Tk → Nat → Int → Option Bool
  | [], _, _ => none
  | t :: ts, i, d => if t.isSign ")" then (if (if t.isSign "(" then d + 1 else d) - 1 == 0 then some ((i : Int) == (n : Int) - 1) else wrLoop n ts (i + 1) ((if t.isSign "(" then d + 1 else d) - 1)) else wrLoop n ts (i + 1) (if t.isSign "(" then d + 1 else d)
noncomputable def wrapped (ts : List Tk) : Bool := if decide (ts.length < 3) || !(tkAt ts 0).isSign "(" then false else (wrLoop ts.length ts 0 0).getD false
noncomputable abbrev wδ (ts : List Tk) (t : Tk) (i : Nat) (d : Int) : List (Str × PyData) := [("token", t.enc), ("at", .int i), ("tokens", encL ts), ("depth", .int d)]
theorem wr_is (H : Has S K cR) {ts : List Tk} {t : Tk} {i : Nat} {d : Int} {s : Str} {p1 p2 p3 p4 : Pos} {k : Nat} : EvT S (b + 1) (sk 41) (wδ ts t i d) [] (.Call (.Name "is_sign" p1) [.Name "token" p2, .Constant (.str s) k p3] [] p4) (.ok (t.isSign s)) [] :=
  .val (.call H.O (w_is_sign (b := b) H t s) (.cons (.name (by kernel_rfl)) (.cons .cStr .nil)) (by kernel_rfl))
theorem wr_step1 (H : Has S K cR) {ts : List Tk} {t : Tk} {i : Nat} {d : Int} : EvS S (b + 1) (sk 41) (wδ ts t i d) [] ((forB (stm 41 2)).getD 0 (.Pass ⟨0, 0, 0, 0⟩)) (.next (wδ ts t i (if t.isSign "(" then d + 1 else d)) []) := by
  cases h : t.isSign "(" with
  | true => exact .less (.ite (c := true) (.as (wr_is H) h) (.cons (.aug (d := .int (d + 1)) rfl .cInt prim_iadd (by kernel_rfl)) .nil)) ⟨by kernel_rfl, by kernel_rfl, by kernel_rfl, by kernel_rfl, trivial⟩
  | false => exact .ite (c := false) (.as (wr_is H) h) .nil
theorem wr_loop (H : Has S K cR) (all : List Tk) (hl : all.length ≤ 100000) : ∀ (ts : List Tk) (i : Nat) (d : Int), EvF S (b + 1) (sk 41) [("tokens", encL all), ("depth", .int d)] [] (forT (stm 41 2)) (forB (stm 41 2)) (numbered i (ts.map Tk.enc))
    (match wrLoop all.length ts i d with | some r => .ret (.bool r) [] | none => .next [("tokens", encL all)] [])
  | [], i, d => EvF.weak (δ₁ := [("tokens", encL all)]) .nil ⟨by kernel_rfl, trivial⟩
  | t :: ts, i, d => by
    have hlm : (all.map Tk.enc).length < 2 ^ 61 := by rw [List.length_map]; omega
    have ha : EvA S (b + 1) (sk 41) [("tokens", encL all), ("depth", .int d)] [] (forT (stm 41 2)) (.tuple [.int i, t.enc]) (wδ all t i d) := .tup [("at", _), ("token", _)] rfl rfl ⟨by kernel_rfl, rfl, by kernel_rfl, rfl, trivial⟩
    have s1 := wr_step1 (b := b) H (ts := all) (t := t) (i := i) (d := d)
    generalize hD : (if t.isSign "(" then d + 1 else d) = D at s1
    have e0 : wrLoop all.length (t :: ts) i d = if t.isSign ")" then (if D - 1 == 0 then some ((i : Int) == (all.length : Int) - 1) else wrLoop all.length ts (i + 1) (D - 1)) else wrLoop all.length ts (i + 1) D := by rw [← hD]; rfl
    cases h : t.isSign ")" with
    | false =>
      rw [h] at e0
      rw [show wrLoop all.length (t :: ts) i d = wrLoop all.length ts (i + 1) D from e0]
      exact .turn (δ₂ := [("tokens", encL all), ("depth", .int D)]) (μ₂ := []) ha (.less (.cons s1 (.cons (.ite (c := false) (.as (wr_is H) h) .nil) .nil)) ⟨by kernel_rfl, by kernel_rfl, trivial⟩) (wr_loop H all hl ts (i + 1) D)
    | true =>
      rw [h] at e0
      have t2 : EvT S (b + 1) (sk 41) (("depth", .int (D - 1)) :: wδ all t i D) [] (ifT ((ifB ((forB (stm 41 2)).getD 1 (.Pass ⟨0, 0, 0, 0⟩))).getD 1 (.Pass ⟨0, 0, 0, 0⟩))) (.ok (D - 1 == 0)) [] := .cmp (.cons (.name rfl) (.cons .cInt .nil)) prim_ieq
      cases hz : D - 1 == 0 with
      | true =>
        rw [hz] at e0
        rw [show wrLoop all.length (t :: ts) i d = some ((i : Int) == (all.length : Int) - 1) from e0]
        have hlen : ((all.map Tk.enc).length : Int) = (all.length : Int) := by rw [List.length_map]
        refine .ret ha (.cons s1 (.ret (.ite (c := true) (.as (wr_is H) h) (.cons (.aug (d := .int (D - 1)) rfl .cInt prim_isub (by kernel_rfl)) (.hit t2 hz (.ret (.ret ?_)))))))
        rw [← hlen]
        exact .cmp (.cons (.name rfl) (.cons (.bin (.cons (.lenD H (.name (by kernel_rfl)) hlm (by kernel_rfl)) (.cons .cInt .nil)) prim_sub) .nil)) prim_ieq
      | false =>
        rw [hz] at e0
        rw [show wrLoop all.length (t :: ts) i d = wrLoop all.length ts (i + 1) (D - 1) from e0]
        exact .turn (δ₂ := [("tokens", encL all), ("depth", .int (D - 1))]) (μ₂ := []) ha (.less (.cons s1 (.cons (.ite (c := true) (.as (wr_is H) h) (.cons (.aug (d := .int (D - 1)) rfl .cInt prim_isub (by kernel_rfl)) (.skip t2 hz .nil))) .nil)) ⟨by kernel_rfl, by kernel_rfl, trivial⟩) (wr_loop H all hl ts (i + 1) (D - 1))
theorem enc_at {ts : List Tk} {k : Nat} (h : k < ts.length) : (ts.map Tk.enc)[k]? = some (tkAt ts k).enc := by
  unfold tkAt
  rw [List.getElem?_map, List.getElem?_eq_getElem h]; rfl
theorem w_is_wrapped (H : Has S K cR) (ts : List Tk) (hl : ts.length ≤ 100000) : CalN S (b + 2) "is_wrapped" [encL ts] (.ok (.bool (wrapped ts))) := by
  have hf := H.fn 41 "is_wrapped" ["tokens"] (by kernel_rfl)
  have ok : ScOk (sk 41) ["tokens"] := .of (by kernel_rfl)
  have hlm : (ts.map Tk.enc).length < 2 ^ 61 := by rw [List.length_map]; omega
  have test : EvT S (b + 1) (sk 41) [("tokens", encL ts)] [] (ifT (stm 41 0)) (.ok (decide (ts.length < 3) || (!(tkAt ts 0).isSign "(" || false))) [] := by
    have e : decide (((ts.map Tk.enc).length : Int) < 3) = decide (ts.length < 3) := by rw [decide_eq_decide, List.length_map]; omega
    rw [← e]
    refine .orB (.cmp (.cons (.lenD H (.name (by kernel_rfl)) hlm (by kernel_rfl)) (.cons .cInt .nil)) prim_lt) fun h3 => .orB (.not (.val (.call H.O (w_is_sign (b := b) H (tkAt ts 0) "(") (.cons (.sub (.cons (.name (d := encL ts) (by kernel_rfl)) (.cons .cInt .nil)) (prim_lstAt (n := 0) (enc_at ?_) rfl (by omega))) (.cons .cStr .nil)) (by kernel_rfl)))) fun _ => .orNil
    rw [e] at h3
    have := of_decide_eq_false h3
    omega
  rw [Bool.or_false] at test
  unfold wrapped
  cases hc : decide (ts.length < 3) || !(tkAt ts 0).isSign "(" with
  | true => exact .mk H.O hf ok (.ret _ []) (.hit test hc (.ret (.ret .cBool)))
  | false =>
    have key := EvF.weak (δ := [("depth", .int 0), ("tokens", encL ts)]) (wr_loop (b := b) H ts hl ts 0 0) ⟨by kernel_rfl, by kernel_rfl, trivial⟩
    obtain ⟨h1, h2⟩ := H.bi "enumerate" (.type "enumerate") (by kernel_rfl)
    cases hw : wrLoop ts.length ts 0 0 with
    | none =>
      rw [hw] at key
      exact .mk H.O hf ok (.ret _ []) (.skip test hc (.set .cInt (by kernel_rfl) (.cons (.for (.enum H.O h1 h2 (by kernel_rfl) (.name (d := encL ts) (by kernel_rfl))) key) (.ret (.ret .cBool)))))
    | some r =>
      rw [hw] at key
      exact .mk H.O hf ok (.ret _ []) (.skip test hc (.set .cInt (by kernel_rfl) (.ret (.for (.enum H.O h1 h2 (by kernel_rfl) (.name (d := encL ts) (by kernel_rfl))) key))))
end
end
section
variable [Pm]

noncomputable def Tk.kind : Tk → Str
  | .num _ => "number"
  | .name _ => "name"
  | .text _ => "text"
  | .sign _ => "sign"
  | .fin => "end"
noncomputable def Tk.told : Tk → PyData
  | .num v => .int v
  | .name s => .str s
  | .text s => .str s
  | .sign s => .str s
  | .fin => .str ""
theorem Tk.enc_eq (t : Tk) : t.enc = .tuple [.str t.kind, t.told] := by cases t <;> rfl
theorem Tk.is_name {t : Tk} (h : (t.kind == ("name" : Str)) = true) : ∃ s, t = .name s := by
  cases t with
  | name s => exact ⟨s, rfl⟩
  | num v => exact absurd h (by rw [show ((Tk.num v).kind == ("name" : Str)) = false by kernel_rfl]; decide)
  | text v => exact absurd h (by rw [show ((Tk.text v).kind == ("name" : Str)) = false by kernel_rfl]; decide)
  | sign v => exact absurd h (by rw [show ((Tk.sign v).kind == ("name" : Str)) = false by kernel_rfl]; decide)
  | fin => exact absurd h (by rw [show (Tk.fin.kind == ("name" : Str)) = false by kernel_rfl]; decide)
theorem Tk.is_text {t : Tk} (h : (t.kind == ("text" : Str)) = true) : ∃ s, t = .text s := by
  cases t with
  | text s => exact ⟨s, rfl⟩
  | num v => exact absurd h (by rw [show ((Tk.num v).kind == ("text" : Str)) = false by kernel_rfl]; decide)
  | name v => exact absurd h (by rw [show ((Tk.name v).kind == ("text" : Str)) = false by kernel_rfl]; decide)
  | sign v => exact absurd h (by rw [show ((Tk.sign v).kind == ("text" : Str)) = false by kernel_rfl]; decide)
  | fin => exact absurd h (by rw [show (Tk.fin.kind == ("text" : Str)) = false by kernel_rfl]; decide)
noncomputable def Tk.nameIn (l : List Str) : Tk → Bool
  | .name s => l.any (· == s)
  | _ => false
noncomputable def isIdx (ts : List Tk) : Bool := if decide (ts.length < 3) || !(tkAt ts 0).nameIn ["IX", "IY"] then false else (tkAt ts 1).isSign "+" || (tkAt ts 1).isSign "-"

section
variable {S : St} {K : Frag} {cR : Addr} {b : Nat} {sc : Scope} {δ : List (Str × PyData)} {e : Expr} {p1 p2 p3 p4 : Pos} {k1 k2 : Nat} {ts : List Tk}
/-- e[i][0], e[i][1] -/
theorem EvE.tkAt {i : Nat} (he : EvE S b sc δ [] e (.ok (encL ts)) []) (h : i < ts.length) (hi : i < 2 ^ 62) : EvE S b sc δ [] (.Subscript e (.Constant (.int (i : Int)) k1 p1) p2) (.ok (Mine.tkAt ts i).enc) [] := .sub (.cons he (.cons .cInt .nil)) (prim_lstAt (n := i) (enc_at h) rfl hi)
theorem EvE.kindAt {i : Nat} (he : EvE S b sc δ [] e (.ok (encL ts)) []) (h : i < ts.length) (hi : i < 2 ^ 62) : EvE S b sc δ [] (.Subscript (.Subscript e (.Constant (.int (i : Int)) k1 p1) p2) (.Constant (.int 0) k2 p3) p4) (.ok (.str (Mine.tkAt ts i).kind)) [] := by
  have q : EvE S b sc δ [] (.Subscript e (.Constant (.int (i : Int)) k1 p1) p2) _ [] := .tkAt he h hi
  rw [Tk.enc_eq] at q
  exact .sub (.cons q (.cons .cInt .nil)) (prim_tupAt (n := 0) rfl rfl (by omega))
theorem EvE.toldAt {i : Nat} (he : EvE S b sc δ [] e (.ok (encL ts)) []) (h : i < ts.length) (hi : i < 2 ^ 62) : EvE S b sc δ [] (.Subscript (.Subscript e (.Constant (.int (i : Int)) k1 p1) p2) (.Constant (.int 1) k2 p3) p4) (.ok (Mine.tkAt ts i).told) [] := by
  have q : EvE S b sc δ [] (.Subscript e (.Constant (.int (i : Int)) k1 p1) p2) _ [] := .tkAt he h hi
  rw [Tk.enc_eq] at q
  exact .sub (.cons q (.cons .cInt .nil)) (prim_tupAt (n := 1) rfl rfl (by omega))
theorem EvE.lenT (H : Has S K cR) {np pos : Pos} (he : EvE S b sc δ [] e (.ok (encL ts)) []) (hl : ts.length ≤ 100000) (hk : sc.names.lookup ("len" : Str) = some .globalImplicit) (hs : noStar [e] := by intro _; rfl) : EvE S b sc δ [] (.Call (.Name "len" np) [e] [] pos) (.ok (.int (ts.length : Int))) [] := by
  have q : EvE S b sc δ [] (.Call (.Name "len" np) [e] [] pos) _ [] := .lenD H he (by rw [List.length_map]; omega) hk hs
  rw [List.length_map] at q
  exact q
theorem w_is_index (H : Has S K cR) (ts : List Tk) (hl : ts.length ≤ 100000) : CalN S (b + 2) "is_index" [encL ts] (.ok (.bool (isIdx ts))) := by
  have hf := H.fn 42 "is_index" ["inner"] (by kernel_rfl)
  have ok : ScOk (sk 42) ["inner"] := .of (by kernel_rfl)
  have hI := H.dat "INDEXES" (strT ["IX", "IY"]) (by kernel_rfl)
  have test : EvT S (b + 1) (sk 42) [("inner", encL ts)] [] (ifT (stm 42 0)) (.ok (decide (ts.length < 3) || !(tkAt ts 0).nameIn ["IX", "IY"])) [] := by
    have e : decide ((ts.length : Int) < 3) = decide (ts.length < 3) := by rw [decide_eq_decide]; omega
    rw [← e]
    refine .orB (.cmp (.cons (.lenT H (.name (by kernel_rfl)) hl (by kernel_rfl)) (.cons .cInt .nil)) prim_lt) fun h3 => ?_
    rw [e] at h3
    have h3 := of_decide_eq_false h3
    cases hk : (tkAt ts 0).kind == ("name" : Str) with
    | false =>
      have e2 : (!(tkAt ts 0).nameIn ["IX", "IY"]) = true := by
        cases ht : tkAt ts 0 with
        | name s => rw [ht] at hk; exact absurd hk (by rw [show ((Tk.name s).kind == ("name" : Str)) = true by kernel_rfl]; decide)
        | _ => rfl
      rw [e2]
      exact .or (c := true) (.as (.cmp (.cons (.kindAt (i := 0) (.name (d := encL ts) (by kernel_rfl)) (by omega) (by omega)) (.cons .cStr .nil)) prim_sne) (by rw [hk]; rfl)) ⟨rfl, rfl⟩
    | true =>
      obtain ⟨s, hs⟩ := Tk.is_name hk
      have q : ∀ {p1 p2 p3 p4 : Pos} {k1 k2 : Nat}, EvE S (b + 1) (sk 42) [("inner", encL ts)] [] (.Subscript (.Subscript (.Name "inner" p1) (.Constant (.int 0) k1 p2) p3) (.Constant (.int 1) k2 p4) p4) (.ok (tkAt ts 0).told) [] := .toldAt (i := 0) (.name (by kernel_rfl)) (by omega) (by omega)
      have e2 : (!(tkAt ts 0).nameIn ["IX", "IY"]) = (!((["IX", "IY"] : List Str).any (· == s)) || false) := by rw [hs, Bool.or_false]; rfl
      rw [e2]
      refine .or (c := false) (.as (.cmp (.cons (.kindAt (i := 0) (.name (d := encL ts) (by kernel_rfl)) (by omega) (by omega)) (.cons .cStr .nil)) prim_sne) (by rw [hk]; rfl)) (.orB (.cmp (.cons (.toldAt (i := 0) (.name (d := encL ts) (by kernel_rfl)) (by omega) (by omega)) (.cons (.glob H.O hI (by kernel_rfl)) .nil)) ?_) fun _ => .orNil)
      rw [hs]
      exact prim_nintup (ss := ["IX", "IY"])
  unfold isIdx
  cases hc : decide (ts.length < 3) || !(tkAt ts 0).nameIn ["IX", "IY"] with
  | true => exact .mk H.O hf ok (.ret _ []) (.hit test hc (.ret (.ret .cBool)))
  | false =>
    have h3 : ¬ ts.length < 3 := of_decide_eq_false (Bool.or_eq_false_iff.mp hc).1
    exact .mk H.O hf ok (.ret _ []) (.skip test hc (.ret (.ret (.orB (.call H.O (w_is_sign (b := b) H (tkAt ts 1) "+") (.cons (.tkAt (i := 1) (.name (by kernel_rfl)) (by omega) (by omega)) (.cons .cStr .nil)) (by kernel_rfl)) fun _ => .bool1 (.call H.O (w_is_sign (b := b) H (tkAt ts 1) "-") (.cons (.tkAt (i := 1) (.name (by kernel_rfl)) (by omega) (by omega)) (.cons .cStr .nil)) (by kernel_rfl))))))
end
end
section
variable [Pm]

theorem pick_eq (ds : List PyData) (lo hi : Option Int) : pick ds lo hi = (Builtin.Str.strSliceIndices lo hi 1 ds.length).filterMap (ds[·]?) := rfl
theorem pick_nat (ds : List PyData) {a b : Nat} (h : a ≤ b) (hb : b ≤ ds.length) : pick ds (some (a : Int)) (some (b : Int)) = (ds.drop a).take (b - a) := by
  rw [pick_eq, StrLaws.strSliceIndices_plain h hb]
  exact StrLaws.picks ds (b - a) a (by omega)
theorem pick_from (ds : List PyData) (h : 1 ≤ ds.length) : pick ds (some 1) none = ds.drop 1 := by
  have e : pick ds (some 1) none = pick ds (some ((1 : Nat) : Int)) (some (ds.length : Int)) := by rw [pick_eq, pick_eq, StrLaws.sliceIdx_none_hi]; rfl
  rw [e, pick_nat ds h (Nat.le_refl _), List.take_of_length_le (by rw [List.length_drop]; exact Nat.le_refl _)]
theorem pick_mid (ds : List PyData) (h : 2 ≤ ds.length) : pick ds (some 1) (some (-1)) = (ds.drop 1).dropLast := by
  have e : pick ds (some 1) (some (-1)) = pick ds (some ((1 : Nat) : Int)) (some ((ds.length - 1 : Nat) : Int)) := by
    rw [pick_eq, pick_eq]
    unfold Builtin.Str.strSliceIndices
    have h1 : ((-1 : Int) < 0) := by omega
    have h2 : ¬ (((ds.length - 1 : Nat) : Int) < 0) := by omega
    have e1 : max (0 : Int) (min (-1 + (ds.length : Int)) (ds.length : Int)) = max (0 : Int) (min ((ds.length - 1 : Nat) : Int) (ds.length : Int)) := by omega
    simp only [h1, h2, if_true, if_false, e1, show ((1 : Int) > 0) = True from by simp]
    rfl
  rw [e, pick_nat ds (by omega) (by omega), List.dropLast_eq_take, List.length_drop]

inductive Oper where
  | r (s : Str)
  | p (s : Str)
  | f (s : Str)
  | m (s : Str)
  | x (s : Str) (t : Tree)
  | a (t : Tree)
  | n (t : Tree)
  | text (s : Str)
noncomputable def Oper.enc : Oper → PyData
  | .r s => .tuple [.str "r", .str s]
  | .p s => .tuple [.str "p", .str s]
  | .f s => .tuple [.str "f", .str s]
  | .m s => .tuple [.str "m", .str s]
  | .x s t => .tuple [.str "x", .str s, t.enc]
  | .a t => .tuple [.str "a", t.enc]
  | .n t => .tuple [.str "n", t.enc]
  | .text s => .tuple [.str "text", .str s]
noncomputable def opOut : Except Str Oper → Out PyData
  | .ok o => .ok o.enc
  | .error s => .exc false s
noncomputable def Tk.sOf : Tk → Str
  | .name s => s
  | .text s => s
  | _ => ""
noncomputable def inPar : List Str := ["HL", "BC", "DE", "SP", "C", "IX", "IY"]
noncomputable def withinF (f : Nat) (ts : List Tk) : Option (Except Str Oper) :=
  if decide (ts.length = 1) && (tkAt ts 0).nameIn inPar then some (.ok (.m (tkAt ts 0).sOf))
  else if isIdx ts then match exprOf f (.num 0 :: ts.drop 1) with
    | some (.ok t) => some (.ok (.x (tkAt ts 0).sOf t))
    | some (.error s) => some (.error s)
    | none => none
  else match exprOf f ts with
    | some (.ok t) => some (.ok (.a t))
    | some (.error s) => some (.error s)
    | none => none

section
variable {S : St} {K : Frag} {cR : Addr} {b : Nat} {ts : List Tk}
theorem nameIn_kind {t : Tk} {l : List Str} (h : t.nameIn l = true) : ∃ s, t = .name s ∧ l.any (· == s) = true := by
  cases t with
  | name s => exact ⟨s, rfl, h⟩
  | _ => cases h
theorem isIdx_ok (h : isIdx ts = true) : 3 ≤ ts.length ∧ ∃ s, tkAt ts 0 = .name s := by
  unfold isIdx at h
  cases hc : decide (ts.length < 3) || !(tkAt ts 0).nameIn ["IX", "IY"] with
  | true => rw [hc] at h; cases h
  | false =>
    obtain ⟨h1, h2⟩ := Bool.or_eq_false_iff.mp hc
    have h1 := of_decide_eq_false h1
    obtain ⟨s, hs, _⟩ := nameIn_kind (l := ["IX", "IY"]) (by rw [← Bool.not_eq_false']; exact h2)
    exact ⟨by omega, s, hs⟩
theorem w_within (H : Has S K cR) (ts : List Tk) (hl : ts.length ≤ 100000) (f : Nat) (r : Except Str Oper) (h : withinF f ts = some r) (B : Nat) (hB : f + 9 ≤ B) : CalN S B "within" [encL ts] (opOut r) := by
  obtain ⟨B, rfl⟩ : ∃ B', B = B' + 3 := ⟨B - 3, by omega⟩
  have hf := H.fn 43 "within" ["inner"] (by kernel_rfl)
  have ok : ScOk (sk 43) ["inner"] := .of (by kernel_rfl)
  have hI := H.dat "IN_PARENTHESES" (strT inPar) (by kernel_rfl)
  have test : EvT S (B + 2) (sk 43) [("inner", encL ts)] [] (ifT (stm 43 0)) (.ok (decide (ts.length = 1) && (tkAt ts 0).nameIn inPar)) [] := by
    have e : ((ts.length : Int) == 1) = decide (ts.length = 1) := by rw [Bool.eq_iff_iff, beq_iff_eq, decide_eq_true_iff]; omega
    rw [← e]
    refine .andB (.cmp (.cons (.lenT H (.name (by kernel_rfl)) hl (by kernel_rfl)) (.cons .cInt .nil)) prim_ieq) fun h1 => ?_
    rw [e] at h1
    have h1 := of_decide_eq_true h1
    cases hk : (tkAt ts 0).kind == ("name" : Str) with
    | false =>
      have e2 : (tkAt ts 0).nameIn inPar = false := by
        cases ht : tkAt ts 0 with
        | name s => rw [ht] at hk; exact absurd hk (by rw [show ((Tk.name s).kind == ("name" : Str)) = true by kernel_rfl]; decide)
        | _ => rfl
      rw [e2]
      exact .and (c := false) (.as (.cmp (.cons (.kindAt (i := 0) (.name (d := encL ts) (by kernel_rfl)) (by omega) (by omega)) (.cons .cStr .nil)) prim_seq) hk) ⟨rfl, rfl⟩
    | true =>
      obtain ⟨s, hs⟩ := Tk.is_name hk
      have e2 : (tkAt ts 0).nameIn inPar = (inPar.any (· == s) && true) := by rw [hs, Bool.and_true]; rfl
      rw [e2]
      refine .and (c := true) (.as (.cmp (.cons (.kindAt (i := 0) (.name (d := encL ts) (by kernel_rfl)) (by omega) (by omega)) (.cons .cStr .nil)) prim_seq) hk) (.andB (.cmp (.cons (.toldAt (i := 0) (.name (d := encL ts) (by kernel_rfl)) (by omega) (by omega)) (.cons (.glob H.O hI (by kernel_rfl)) .nil)) ?_) fun _ => .andNil)
      rw [hs]
      exact prim_intup (ss := inPar)
  unfold withinF at h
  cases hc : decide (ts.length = 1) && (tkAt ts 0).nameIn inPar with
  | true =>
    rw [hc] at h
    cases h
    obtain ⟨h1, h2⟩ := Bool.and_eq_true_iff.mp hc
    have h1 := of_decide_eq_true h1
    obtain ⟨s, hs, _⟩ := nameIn_kind h2
    have q : ∀ {p1 p2 p3 p4 p5 : Pos} {k1 k2 : Nat}, EvE S (B + 2) (sk 43) [("inner", encL ts)] [] (.Subscript (.Subscript (.Name "inner" p1) (.Constant (.int 0) k1 p2) p3) (.Constant (.int 1) k2 p4) p5) (.ok (tkAt ts 0).told) [] := .toldAt (i := 0) (.name (by kernel_rfl)) (by omega) (by omega)
    rw [hs] at q ⊢
    exact .mk H.O hf ok (.ret _ []) (.hit test hc (.ret (.ret (.tp (.cons .cStr (.cons q .nil))))))
  | false =>
    replace h := onF hc h
    have t2 : EvT S (B + 2) (sk 43) [("inner", encL ts)] [] (ifT (stm 43 1)) (.ok (isIdx ts)) [] := .val (.call H.O (w_is_index (b := B) H ts hl) (.cons (.name (by kernel_rfl)) .nil) (by kernel_rfl))
    cases hi : isIdx ts with
    | false =>
      replace h := onF hi h
      cases hx : exprOf f ts with
      | none => rw [hx] at h; cases h
      | some rx =>
        rw [hx] at h
        have cx := w_expression_of H ts (by omega) f rx hx (B + 2) (by omega)
        cases rx with
        | ok t => cases h; exact .mk H.O hf ok (.ret _ []) (.skip test hc (.skip t2 hi (.ret (.ret (.tp (.cons .cStr (.cons (.call H.O cx (.cons (.name (by kernel_rfl)) .nil) (by kernel_rfl)) .nil)))))))
        | error s => cases h; exact .mk H.O hf ok (.exc _ _) (.skip test hc (.skip t2 hi (.exc (.retX (.tupX (.cons .cStr (.here (.call H.O cx (.cons (.name (by kernel_rfl)) .nil) (by kernel_rfl)))))))))
    | true =>
      replace h := onT hi h
      obtain ⟨h3, s, hs⟩ := isIdx_ok hi
      have q : ∀ {p1 p2 p3 p4 p5 : Pos} {k1 k2 : Nat}, EvE S (B + 2) (sk 43) [("inner", encL ts)] [] (.Subscript (.Subscript (.Name "inner" p1) (.Constant (.int 0) k1 p2) p3) (.Constant (.int 1) k2 p4) p5) (.ok (tkAt ts 0).told) [] := .toldAt (i := 0) (.name (by kernel_rfl)) (by omega) (by omega)
      have hz : (ts.map Tk.enc).length ≤ sizeLine := by rw [List.length_map]; exact Nat.le_trans hl (by decide)
      have sl : ∀ {p1 p2 p3 p4 : Pos} {k : Nat}, EvE S (B + 2) (sk 43) [("inner", encL ts)] [] (.Subscript (.Name "inner" p1) (.Slice (some (.Constant (.int 1) k p2)) none none p3) p4) (.ok (.list ((ts.drop 1).map Tk.enc))) [] := by
        intro p1 p2 p3 p4 k
        have q : EvE S (B + 2) (sk 43) [("inner", encL ts)] [] (.Subscript (.Name "inner" p1) (.Slice (some (.Constant (.int 1) k p2)) none none p3) p4) _ [] := .lstSN (.cons (.name (d := encL ts) (by kernel_rfl)) (.cons .cInt .nil)) hz
        rw [pick_from _ (by rw [List.length_map]; omega), ← List.map_drop] at q
        exact q
      have hl' : (Tk.num 0 :: ts.drop 1).length ≤ 100000 := by rw [List.length_cons, List.length_drop]; omega
      rw [hs] at h q
      cases hx : exprOf f (.num 0 :: ts.drop 1) with
      | none => rw [hx] at h; cases h
      | some rx =>
        rw [hx] at h
        have cx := w_expression_of H (.num 0 :: ts.drop 1) (by omega) f rx hx (B + 2) (by omega)
        have lst : Prim S (two (binaryOp .Add)) [.list [(Tk.num 0).enc], .list ((ts.drop 1).map Tk.enc)] (.list ((Tk.num 0 :: ts.drop 1).map Tk.enc)) := prim_lists (by rw [List.length_map, List.length_drop]; exact Nat.le_trans (show 1 + _ ≤ 100001 by omega) (by decide))
        cases rx with
        | ok t => cases h; exact .mk H.O hf ok (.ret _ []) (.skip test hc (.hit t2 hi (.ret (.ret (.tp (.cons .cStr (.cons q (.cons (.call H.O cx (.cons (.bin (.cons (.ls (.cons (.tp (.cons .cStr (.cons .cInt .nil))) .nil)) (.cons sl .nil)) lst) .nil) (by kernel_rfl)) .nil))))))))
        | error z => cases h; exact .mk H.O hf ok (.exc _ _) (.skip test hc (.hitX t2 hi (.exc (.retX (.tupX (.cons .cStr (.cons q (.here (.call H.O cx (.cons (.bin (.cons (.ls (.cons (.tp (.cons .cStr (.cons .cInt .nil))) .nil)) (.cons sl .nil)) lst) .nil) (by kernel_rfl))))))))))
end
end
section
variable [Pm]

noncomputable def regs : List Str := ["B", "C", "D", "E", "H", "L", "A", "F", "I", "R", "IXH", "IXL", "IYH", "IYL"]
noncomputable def pairs : List Str := ["BC", "DE", "HL", "SP", "AF", "AF'", "IX", "IY"]
noncomputable def conds : List Str := ["NZ", "Z", "NC", "PO", "PE", "P", "M"]
noncomputable def restF (f : Nat) (ts : List Tk) : Option (Except Str Oper) := if wrapped ts then withinF f (ts.drop 1).dropLast else match exprOf f ts with
  | some (.ok t) => some (.ok (.n t))
  | some (.error s) => some (.error s)
  | none => none
noncomputable def operandF (f : Nat) (ts : List Tk) : Option (Except Str Oper) := if decide (ts.length = 0) then some (.error "an operand is missing") else
  if decide (ts.length = 1) && (tkAt ts 0).nameIn regs then some (.ok (.r (tkAt ts 0).sOf))
  else if decide (ts.length = 1) && (tkAt ts 0).nameIn pairs then some (.ok (.p (tkAt ts 0).sOf))
  else if decide (ts.length = 1) && (tkAt ts 0).nameIn conds then some (.ok (.f (tkAt ts 0).sOf))
  else if decide (ts.length = 1) && (tkAt ts 0).kind == ("text" : Str) then some (.ok (.text (tkAt ts 0).sOf))
  else restF f ts

section
variable {S : St} {K : Frag} {cR : Addr} {b : Nat} {ts : List Tk}
theorem wrapped_len (h : wrapped ts = true) : 3 ≤ ts.length := by
  unfold wrapped at h
  cases hc : decide (ts.length < 3) || !(tkAt ts 0).isSign "(" with
  | true => rw [hc] at h; cases h
  | false => have := of_decide_eq_false (Bool.or_eq_false_iff.mp hc).1; omega
noncomputable abbrev oδ (ts : List Tk) : List (Str × PyData) := [("told", (tkAt ts 0).told), ("kind", .str (tkAt ts 0).kind), ("tokens", encL ts)]
theorem oper_rest (H : Has S K cR) (ts : List Tk) (hl : ts.length ≤ 100000) (f : Nat) (r : Except Str Oper) (h : restF f ts = some r) (B : Nat) (hB : f + 9 ≤ B) : EvE S B (sk 44) (oδ ts) [] (retE (stm 44 4)) (opOut r) [] := by
  obtain ⟨B, rfl⟩ : ∃ B', B = B' + 2 := ⟨B - 2, by omega⟩
  have test : EvT S (B + 2) (sk 44) (oδ ts) [] (.Call (.Name "is_wrapped" ⟨0, 0, 0, 0⟩) [.Name "tokens" ⟨0, 0, 0, 0⟩] [] ⟨0, 0, 0, 0⟩) (.ok (wrapped ts)) [] := .val (.call H.O (w_is_wrapped (b := B) H ts hl) (.cons (.name (by kernel_rfl)) .nil) (by kernel_rfl))
  unfold restF at h
  cases hw : wrapped ts with
  | true =>
    replace h := onT hw h
    have h3 := wrapped_len hw
    have hz : (ts.map Tk.enc).length ≤ sizeLine := by rw [List.length_map]; exact Nat.le_trans hl (by decide)
    have sl : ∀ {p1 p2 p3 p4 p5 p6 : Pos} {k1 k2 : Nat}, EvE S (B + 2) (sk 44) (oδ ts) [] (.Subscript (.Name "tokens" p1) (.Slice (some (.Constant (.int 1) k1 p2)) (some (.UnaryOp .USub (.Constant (.int 1) k2 p3) p4)) none p5) p6) (.ok (encL (ts.drop 1).dropLast)) [] := by
      intro p1 p2 p3 p4 p5 p6 k1 k2
      have q : EvE S (B + 2) (sk 44) (oδ ts) [] (.Subscript (.Name "tokens" p1) (.Slice (some (.Constant (.int 1) k1 p2)) (some (.UnaryOp .USub (.Constant (.int 1) k2 p3) p4)) none p5) p6) _ [] := .lstSS (.cons (.name (d := encL ts) (by kernel_rfl)) (.cons .cInt (.cons .neg1 .nil))) hz
      rw [pick_mid _ (by rw [List.length_map]; omega), ← List.map_drop, ← List.map_dropLast] at q
      exact q
    have cw := w_within H (ts.drop 1).dropLast (by rw [List.length_dropLast, List.length_drop]; omega) f r h (B + 2) hB
    exact .iteT (.val (.call H.O (w_is_wrapped (b := B) H ts hl) (.cons (.name (by kernel_rfl)) .nil) (by kernel_rfl))) hw (.call H.O cw (.cons sl .nil) (by kernel_rfl))
  | false =>
    replace h := onF hw h
    cases hx : exprOf f ts with
    | none => rw [hx] at h; cases h
    | some rx =>
      rw [hx] at h
      have cx := w_expression_of H ts (by omega) f rx hx (B + 2) (by omega)
      cases rx with
      | ok t => cases h; exact .iteF (.val (.call H.O (w_is_wrapped (b := B) H ts hl) (.cons (.name (by kernel_rfl)) .nil) (by kernel_rfl))) hw (.tp (.cons .cStr (.cons (.call H.O cx (.cons (.name (by kernel_rfl)) .nil) (by kernel_rfl)) .nil)))
      | error s => cases h; exact .iteF (.val (.call H.O (w_is_wrapped (b := B) H ts hl) (.cons (.name (by kernel_rfl)) .nil) (by kernel_rfl))) hw (.tupX (.cons .cStr (.here (.call H.O cx (.cons (.name (by kernel_rfl)) .nil) (by kernel_rfl)))))
noncomputable def opSo : Except Str Oper → SO
  | .ok o => .ret o.enc []
  | .error s => .exc false s
theorem opSo_out (r : Except Str Oper) : opOut r = (opSo r).out := by cases r <;> rfl
theorem EvSs.retO {sc : Scope} {δ : List (Str × PyData)} {e : Expr} {p : Pos} {rest : List Stmt} {r : Except Str Oper} (h : EvE S b sc δ [] e (opOut r) []) : EvSs S b sc δ [] (.Return (some e) p :: rest) (opSo r) := by
  cases r with
  | ok o => exact .ret (.ret h)
  | error s => exact .exc (.retX h)
theorem EvSs.sk2 {sc : Scope} {δ : List (Str × PyData)} {μ : List (Str × Mut)} {test : Expr} {body rest : List Stmt} {so : SO} {p : Pos} (h : EvT S b sc δ μ test (.ok true) μ) (hb : EvSs S b sc δ μ body (.next δ μ)) (r : EvSs S b sc δ μ rest so) : EvSs S b sc δ μ (.If test body [] p :: rest) so := .cons (.ite (c := true) h hb) r
theorem w_operand_of (H : Has S K cR) (ts : List Tk) (hl : ts.length ≤ 100000) (f : Nat) (r : Except Str Oper) (h : operandF f ts = some r) (B : Nat) (hB : f + 10 ≤ B) : CalN S B "operand_of" [encL ts] (opOut r) := by
  obtain ⟨B, rfl⟩ : ∃ B', B = B' + 3 := ⟨B - 3, by omega⟩
  have hf := H.fn 44 "operand_of" ["tokens"] (by kernel_rfl)
  have ok : ScOk (sk 44) ["tokens"] := .of (by kernel_rfl)
  have hR := H.dat "REGISTERS" (strT regs) (by kernel_rfl)
  have hP := H.dat "PAIRS" (strT pairs) (by kernel_rfl)
  have hC := H.dat "CONDITIONS" (strT conds) (by kernel_rfl)
  have t0 : EvT S (B + 2) (sk 44) [("tokens", encL ts)] [] (ifT (stm 44 0)) (.ok ((ts.length : Int) == 0)) [] := .cmp (.cons (.lenT H (.name (by kernel_rfl)) hl (by kernel_rfl)) (.cons .cInt .nil)) prim_ieq
  refine .mk H.O hf ok (opSo r) ?_ (opSo_out r)
  unfold operandF at h
  by_cases h0 : ts.length = 0
  · rw [decide_eq_true h0] at h
    cases h
    exact .hitX t0 (by rw [h0]; rfl) (.raiseA H .cStr (by kernel_rfl) (by omega))
  · replace h := onF (decide_eq_false h0) h
    have e0 : ((ts.length : Int) == 0) = false := by rw [beq_eq_false_iff_ne]; omega
    have first : EvS S (B + 2) (sk 44) [("tokens", encL ts)] [] (stm 44 1) (.next (oδ ts) []) := by
      refine .unpack (d := .tuple [.str (tkAt ts 0).kind, (tkAt ts 0).told]) ?_ (.tup [("kind", _), ("told", _)] rfl rfl ⟨by kernel_rfl, rfl, by kernel_rfl, rfl, trivial⟩)
      rw [← Tk.enc_eq]
      exact .tkAt (i := 0) (.name (by kernel_rfl)) (by omega) (by omega)
    refine .skip t0 e0 (.cons first ?_)
    have el : ((ts.length : Int) == 1) = decide (ts.length = 1) := by rw [Bool.eq_iff_iff, beq_iff_eq, decide_eq_true_iff]; omega
    have t2 : EvT S (B + 2) (sk 44) (oδ ts) [] (ifT (stm 44 2)) (.ok (decide (ts.length = 1) && ((tkAt ts 0).kind == ("name" : Str) && true))) [] := by
      rw [← el]
      exact .andB (.cmp (.cons (.lenT H (.name (by kernel_rfl)) hl (by kernel_rfl)) (.cons .cInt .nil)) prim_ieq) fun _ => .andB (.cmp (.cons (.name rfl) (.cons .cStr .nil)) prim_seq) fun _ => .andNil
    have t3 : EvT S (B + 2) (sk 44) (oδ ts) [] (ifT (stm 44 3)) (.ok (decide (ts.length = 1) && ((tkAt ts 0).kind == ("text" : Str) && true))) [] := by
      rw [← el]
      exact .andB (.cmp (.cons (.lenT H (.name (by kernel_rfl)) hl (by kernel_rfl)) (.cons .cInt .nil)) prim_ieq) fun _ => .andB (.cmp (.cons (.name rfl) (.cons .cStr .nil)) prim_seq) fun _ => .andNil
    rw [Bool.and_true] at t2 t3
    have rest : restF f ts = some r → EvSs S (B + 2) (sk 44) (oδ ts) [] ((bd 44).drop 4) (opSo r) := fun q => .retO (oper_rest H ts hl f r q (B + 2) (by omega))
    by_cases h1 : ts.length = 1
    · have el1 := decide_eq_true h1
      rw [el1] at t2 t3
      cases hk : (tkAt ts 0).kind == ("name" : Str) with
      | true =>
        obtain ⟨s, hs⟩ := Tk.is_name hk
        rw [hk] at t2
        have i1 : ∀ {l : List Str} {n : Str} {p1 p2 p3 : Pos}, S.D n (.tuple (l.map .str)) → (sk 44).names.lookup n = some .globalImplicit → (n == ("__debug__" : Str)) = false → EvT S (B + 2) (sk 44) (oδ ts) [] (.Compare (.Name "told" p1) [.In] [.Name n p2] p3) (.ok (l.any (· == s))) [] := by
          intro l n p1 p2 p3 hD hk hd
          have hn : EvE S (B + 2) (sk 44) (oδ ts) [] (.Name "told" p1) (.ok (tkAt ts 0).told) [] := .name (by kernel_rfl)
          rw [hs] at hn
          exact .cmp (.cons hn (.cons (.glob H.O hD hk hd) .nil)) prim_intup
        have qn : ∀ l, (decide (ts.length = 1) && (tkAt ts 0).nameIn l) = l.any (· == s) := fun l => by rw [el1, hs]; rfl
        have hn : ∀ {p1 : Pos}, EvE S (B + 2) (sk 44) (oδ ts) [] (.Name "told" p1) (.ok (.str s)) [] := by
          intro p1
          have q : EvE S (B + 2) (sk 44) (oδ ts) [] (.Name "told" p1) (.ok (tkAt ts 0).told) [] := .name (by kernel_rfl)
          rw [hs] at q
          exact q
        have so : (tkAt ts 0).sOf = s := by rw [hs]; rfl
        rw [so] at h
        cases c1 : regs.any (· == s) with
        | true => cases onT ((qn _).trans c1) h; exact .hit t2 rfl (.hit (i1 hR (by kernel_rfl) (by decide)) c1 (.ret (.ret (.tp (.cons .cStr (.cons hn .nil))))))
        | false =>
          replace h := onF ((qn _).trans c1) h
          cases c2 : pairs.any (· == s) with
          | true => cases onT ((qn _).trans c2) h; exact .hit t2 rfl (.skip (i1 hR (by kernel_rfl) (by decide)) c1 (.hit (i1 hP (by kernel_rfl) (by decide)) c2 (.ret (.ret (.tp (.cons .cStr (.cons hn .nil)))))))
          | false =>
            replace h := onF ((qn _).trans c2) h
            cases c3 : conds.any (· == s) with
            | true => cases onT ((qn _).trans c3) h; exact .hit t2 rfl (.skip (i1 hR (by kernel_rfl) (by decide)) c1 (.skip (i1 hP (by kernel_rfl) (by decide)) c2 (.hit (i1 hC (by kernel_rfl) (by decide)) c3 (.ret (.ret (.tp (.cons .cStr (.cons hn .nil))))))))
            | false =>
              replace h := onF ((qn _).trans c3) h
              have hkt : ((tkAt ts 0).kind == ("text" : Str)) = false := by rw [hs]; kernel_rfl
              replace h := onF (show (decide (ts.length = 1) && (tkAt ts 0).kind == ("text" : Str)) = false by rw [hkt, Bool.and_false]) h
              rw [hkt] at t3
              exact .sk2 t2 (.skip (i1 hR (by kernel_rfl) (by decide)) c1 (.skip (i1 hP (by kernel_rfl) (by decide)) c2 (.skip (i1 hC (by kernel_rfl) (by decide)) c3 .nil))) (.skip t3 rfl (rest h))
      | false =>
        have en : ∀ l, (tkAt ts 0).nameIn l = false := fun l => by
          cases ht : tkAt ts 0 with
          | name s => rw [ht] at hk; exact absurd hk (by rw [show ((Tk.name s).kind == ("name" : Str)) = true by kernel_rfl]; decide)
          | _ => rfl
        have qn : ∀ l, (decide (ts.length = 1) && (tkAt ts 0).nameIn l) = false := fun l => by rw [en, Bool.and_false]
        replace h := onF (qn _) (onF (qn _) (onF (qn _) h))
        refine .skip t2 hk ?_
        cases hkt : (tkAt ts 0).kind == ("text" : Str) with
        | true =>
          cases onT (show (decide (ts.length = 1) && (tkAt ts 0).kind == ("text" : Str)) = true by rw [hkt, el1]; rfl) h
          obtain ⟨s, hs⟩ := Tk.is_text hkt
          have hn : ∀ {p1 : Pos}, EvE S (B + 2) (sk 44) (oδ ts) [] (.Name "told" p1) (.ok (tkAt ts 0).told) [] := .name (by kernel_rfl)
          rw [hs] at hn ⊢
          rw [hs] at t3 hkt
          exact .hit t3 hkt (.ret (.ret (.tp (.cons .cStr (.cons hn .nil)))))
        | false => exact .skip t3 hkt (rest (onF (show (decide (ts.length = 1) && (tkAt ts 0).kind == ("text" : Str)) = false by rw [hkt, Bool.and_false]) h))
    · have el1 := decide_eq_false h1
      have qn : ∀ b : Bool, (decide (ts.length = 1) && b) = false := fun b => by rw [el1]; rfl
      replace h := onF (qn _) (onF (qn _) (onF (qn _) (onF (qn _) h)))
      rw [qn] at t2 t3
      exact .skip t2 rfl (.skip t3 rfl (rest h))
end
end
section
variable [Pm]

noncomputable def lcE : Expr → Expr
  | .ListComp e _ _ _ => e
  | e => e
noncomputable def lcT : Expr → Expr
  | .ListComp _ (g :: _) _ _ => g.target
  | e => e
noncomputable def lcS : Expr → Scope
  | .ListComp _ _ s _ => s
  | _ => default
theorem EvE.compX0 {S : St} {b : Nat} {sc scope : Scope} {δ : List (Str × PyData)} {μ μ₁ : List (Str × Mut)} {target elt iter : Expr} {pos : Pos} {ds : List PyData} {u : Bool} {t : Str} (hi : EvI S b sc δ μ target iter (.ok ds) μ₁) (ok : CompOk scope) (hcl : freeNames scope = []) (hl : EvL S b (inner scope sc) [] [] target elt ds (.exc u t) []) (hz : ds.length ≤ sizeLine)
    (hst : ∀ env x, foldedSetIterable iter env x = pure x := by intro _ _; kernel_rfl) : EvE S b sc δ μ (.ListComp elt [⟨target, iter, [], 0⟩] scope pos) (.exc u t) μ₁ :=
  .compX (δc := []) hi ok (by rw [hcl]; trivial) trivial hl hz kept_none hst

noncomputable def opsF (f : Nat) : List (List Tk) → Option (Except Str (List Oper))
  | [] => some (.ok [])
  | p :: ps => if decide (p.length ≤ 100000) then (match operandF f p with
    | some (.ok o) => (match opsF f ps with
      | some (.ok os) => some (.ok (o :: os))
      | r => r)
    | some (.error s) => some (.error s)
    | none => none) else none
noncomputable def opsOut : Except Str (List Oper) → Out (List PyData)
  | .ok os => .ok (os.map Oper.enc)
  | .error s => .exc false s
noncomputable def opsOut' : Except Str (List Oper) → Out PyData
  | .ok os => .ok (.list (os.map Oper.enc))
  | .error s => .exc false s

section
variable {S : St} {K : Frag} {cR : Addr} {b : Nat}
theorem ops_loop (H : Has S K cR) (f : Nat) (B : Nat) (hB : f + 10 ≤ B) : ∀ (ps : List (List Tk)) (r : Except Str (List Oper)), opsF f ps = some r → EvL S B (inner (lcS (retE (stm 45 0))) (sk 45)) [] [] (lcT (retE (stm 45 0))) (lcE (retE (stm 45 0))) (ps.map encL) (opsOut r) []
  | [], r, h => by cases h; exact .nil
  | p :: ps, r, h => by
    unfold opsF at h
    by_cases hp : p.length ≤ 100000
    · replace h := onT (decide_eq_true hp) h
      cases ho : operandF f p with
      | none => rw [ho] at h; cases h
      | some ro =>
        rw [ho] at h
        have c := w_operand_of H p hp f ro ho B hB
        cases ro with
        | error s => cases h; exact .exc (.name (by kernel_rfl)) (.call H.O c (.cons (.name (by kernel_rfl)) .nil) (by kernel_rfl))
        | ok o =>
          dsimp only at h
          cases hr : opsF f ps with
          | none => rw [hr] at h; cases h
          | some r1 =>
            rw [hr] at h
            have k := EvL.weak (δ := [("piece", encL p)]) (ops_loop H f B hB ps r1 hr) trivial
            cases r1 with
            | ok os => cases h; exact EvL.cons (.name (by kernel_rfl)) (.call H.O c (.cons (.name (by kernel_rfl)) .nil) (by kernel_rfl)) k
            | error s => cases h; exact EvL.cons (out := .exc false s) (.name (by kernel_rfl)) (.call H.O c (.cons (.name (by kernel_rfl)) .nil) (by kernel_rfl)) k
    · rw [decide_eq_false hp] at h; cases h
theorem w_operands_of (H : Has S K cR) (ts : List Tk) (hl : ts.length ≤ 100000) (f : Nat) (r : Except Str (List Oper)) (h : opsF f (pieces ts) = some r) (hp : (pieces ts).length ≤ 100000) (B : Nat) (hB : f + 11 ≤ B) : CalN S B "operands_of" [encL ts] (opsOut' r) := by
  obtain ⟨B, rfl⟩ : ∃ B', B = B' + 3 := ⟨B - 3, by omega⟩
  have hf := H.fn 45 "operands_of" ["tokens"] (by kernel_rfl)
  have ok : ScOk (sk 45) ["tokens"] := .of (by kernel_rfl)
  have key := ops_loop H f (B + 2) (by omega) (pieces ts) r h
  have hz : ((pieces ts).map encL).length ≤ sizeLine := by rw [List.length_map]; exact Nat.le_trans hp (by decide)
  cases r with
  | ok os => exact .mk H.O hf ok (.ret _ []) (.ret (.ret (.comp0 (.list (.call H.O (w_pieces_of (b := B) H ts hl) (.cons (.name (by kernel_rfl)) .nil) (by kernel_rfl))) (.of (by kernel_rfl)) (by kernel_rfl) key hz)))
  | error s => exact .mk H.O hf ok (.exc _ _) (.exc (.retX (.compX0 (.list (.call H.O (w_pieces_of (b := B) H ts hl) (.cons (.name (by kernel_rfl)) .nil) (by kernel_rfl))) (.of (by kernel_rfl)) (by kernel_rfl) key hz)))
end
end
section
variable [Pm]

noncomputable def optI : Option Int → PyData
  | none => .none
  | some v => .int v
noncomputable def valF (f : Nat) (D : List (PyData × PyData)) (at' : Int) (t : Tree) : Option (Except (Bool × Str) Int) := if decide (t.height ≤ f) then valT D at' t else none
noncomputable def knownV (f : Nat) (D : List (PyData × PyData)) (at' : Int) (un : Option Int) (t : Tree) : Option (Except (Bool × Str) Int) := match valF f D at' t with
  | some (.error (true, s)) => (match un with
    | none => some (.error (true, s))
    | some v => some (.ok v))
  | r => r
noncomputable def signedOff (v : Int) : Int := if decide (32768 ≤ v) then v - 65536 else v
noncomputable def dOut : Except (Bool × Str) PyData → Out PyData
  | .ok d => .ok d
  | .error (u, t) => .exc u t
noncomputable def workO (f : Nat) (D : List (PyData × PyData)) (at' : Int) (un : Option Int) : Oper → Option (Except (Bool × Str) PyData)
  | .x s t => match knownV f D at' (un.map fun _ => 0) t with
    | some (.ok v) => some (.ok (.tuple [.str "x", .str s, .int (signedOff v)]))
    | some (.error e) => some (.error e)
    | none => none
  | .a t => match knownV f D at' un t with
    | some (.ok v) => some (.ok (.tuple [.str "a", .int v]))
    | some (.error e) => some (.error e)
    | none => none
  | .n t => match knownV f D at' un t with
    | some (.ok v) => some (.ok (.tuple [.str "n", .int v]))
    | some (.error e) => some (.error e)
    | none => none
  | .text s => match exprOf f [.text s] with
    | some (.ok t) => (match valF f D at' t with
      | some (.ok v) => some (.ok (.tuple [.str "n", .int v]))
      | some (.error e) => some (.error e)
      | none => none)
    | some (.error s) => some (.error (false, s))
    | none => none
  | .r s => some (.ok (.tuple [.str "r", .str s]))
  | .p s => some (.ok (.tuple [.str "p", .str s]))
  | .f s => some (.ok (.tuple [.str "f", .str s]))
  | .m s => some (.ok (.tuple [.str "m", .str s]))

section
variable {S : St} {K : Frag} {cR : Addr} {b : Nat}
theorem w_valF (H : Has S K cR) (D : List (PyData × PyData)) (at' : Int) (f : Nat) (t : Tree) (r : Except (Bool × Str) Int) (h : valF f D at' t = some r) (B : Nat) (hB : f + 4 ≤ B) : CalN S B "value_of" [t.enc, .dict D, .int at'] (vOut r) := by
  unfold valF at h
  by_cases hh : t.height ≤ f
  · rw [decide_eq_true hh] at h; exact w_value_of H D at' t r h B (by omega)
  · rw [decide_eq_false hh] at h; cases h
theorem w_known_value (H : Has S K cR) (D : List (PyData × PyData)) (at' : Int) (un : Option Int) (f : Nat) (t : Tree) (r : Except (Bool × Str) Int) (h : knownV f D at' un t = some r) (B : Nat) (hB : f + 6 ≤ B) : CalN S B "known_value" [t.enc, .dict D, .int at', optI un] (vOut r) := by
  obtain ⟨B, rfl⟩ : ∃ B', B = B' + 1 := ⟨B - 1, by omega⟩
  have hf := H.fn 46 "known_value" ["tree", "symbols", "at", "unknown"] (by kernel_rfl)
  have ok : ScOk (sk 46) ["tree", "symbols", "at", "unknown"] := .of (by kernel_rfl)
  unfold knownV at h
  cases hv : valF f D at' t with
  | none => rw [hv] at h; cases h
  | some rv =>
    rw [hv] at h
    have c := w_valF H D at' f t rv hv B (by omega)
    cases rv with
    | ok v => cases h; exact .mk H.O hf ok (.ret _ []) (.ret (.tryRet (.ret (.ret (.call H.O c (.cons (.name (by kernel_rfl)) (.cons (.name (by kernel_rfl)) (.cons (.name (by kernel_rfl)) .nil))) (by kernel_rfl))))))
    | error e =>
      obtain ⟨u, s⟩ := e
      cases u with
      | false => cases h; exact .mk H.O hf ok (.exc _ _) (.exc (.tryPass H.O H.E.toExcT (c := true) (.ret (.call H.O c (.cons (.name (by kernel_rfl)) (.cons (.name (by kernel_rfl)) (.cons (.name (by kernel_rfl)) .nil))) (by kernel_rfl))) H.gU (by kernel_rfl) rfl))
      | true =>
        have q : EvS S B (sk 46) [("tree", t.enc), ("symbols", .dict D), ("at", .int at'), ("unknown", optI un)] [] (stm 46 0) (if isNone (optI un) then .exc true s else .ret (optI un) []) := .tryKnown H.O H.E.toExcT (c := true) (.ret (.call H.O c (.cons (.name (by kernel_rfl)) (.cons (.name (by kernel_rfl)) (.cons (.name (by kernel_rfl)) .nil))) (by kernel_rfl))) H.gU (by kernel_rfl) rfl (by kernel_rfl)
        cases un with
        | none => cases h; exact .mk H.O hf ok (.exc _ _) (.exc q)
        | some v => cases h; exact .mk H.O hf ok (.ret _ []) (.ret q)
theorem w_signed_offset (H : Has S K cR) (v : Int) : CalN S (b + 1) "signed_offset" [.int v] (.ok (.int (signedOff v))) := by
  have hf := H.fn 47 "signed_offset" ["value"] (by kernel_rfl)
  have ok : ScOk (sk 47) ["value"] := .of (by kernel_rfl)
  unfold signedOff
  cases h : decide (32768 ≤ v) with
  | true => exact .mk H.O hf ok (.ret _ []) (.ret (.ret (.iteT (.cmp (.cons (.name rfl) (.cons .cInt .nil)) prim_ge) h (.bin (.cons (.name rfl) (.cons .cInt .nil)) prim_sub))))
  | false => exact .mk H.O hf ok (.ret _ []) (.ret (.ret (.iteF (.cmp (.cons (.name rfl) (.cons .cInt .nil)) prim_ge) h (.name (by kernel_rfl)))))
noncomputable def Oper.tag : Oper → Str
  | .r _ => "r"
  | .p _ => "p"
  | .f _ => "f"
  | .m _ => "m"
  | .x _ _ => "x"
  | .a _ => "a"
  | .n _ => "n"
  | .text _ => "text"
noncomputable def Oper.tail : Oper → List PyData
  | .r s => [.str s]
  | .p s => [.str s]
  | .f s => [.str s]
  | .m s => [.str s]
  | .x s t => [.str s, t.enc]
  | .a t => [t.enc]
  | .n t => [t.enc]
  | .text s => [.str s]
theorem Oper.enc_eq (o : Oper) : o.enc = .tuple (.str o.tag :: o.tail) := by cases o <;> rfl
noncomputable abbrev kδ (o : Oper) (D : List (PyData × PyData)) (at' : Int) (un : Option Int) : List (Str × PyData) := [("operand", o.enc), ("symbols", .dict D), ("at", .int at'), ("unknown", optI un)]
theorem k_at {o : Oper} {D : List (PyData × PyData)} {at' : Int} {un : Option Int} {i : Nat} {d : PyData} {k : Nat} {p1 p2 p3 : Pos} (h : (PyData.str o.tag :: o.tail)[i]? = some d) (hi : i < 2 ^ 62) : EvE S b (sk 48) (kδ o D at' un) [] (.Subscript (.Name "operand" p1) (.Constant (.int (i : Int)) k p2) p3) (.ok d) [] := by
  have q : EvE S b (sk 48) (kδ o D at' un) [] (.Name "operand" p1) (.ok o.enc) [] := .name (by kernel_rfl)
  rw [Oper.enc_eq] at q
  exact .sub (.cons q (.cons .cInt .nil)) (prim_tupAt h rfl hi)
theorem k1 {o : Oper} {D : List (PyData × PyData)} {at' : Int} {un : Option Int} : EvT S b (sk 48) (kδ o D at' un) [] (ifT (stm 48 0)) (.ok (o.tag == ("x" : Str))) [] := .cmp (.cons (k_at (i := 0) rfl (by omega)) (.cons .cStr .nil)) prim_seq
theorem k2 {o : Oper} {D : List (PyData × PyData)} {at' : Int} {un : Option Int} : EvT S b (sk 48) (kδ o D at' un) [] (ifT (stm 48 1)) (.ok ((["a", "n"] : List Str).any (· == o.tag))) [] := .cmp (.cons (k_at (i := 0) rfl (by omega)) (.cons (.tp (.cons .cStr (.cons .cStr .nil))) .nil)) (prim_intup (ss := ["a", "n"]))
theorem k3 {o : Oper} {D : List (PyData × PyData)} {at' : Int} {un : Option Int} : EvT S b (sk 48) (kδ o D at' un) [] (ifT (stm 48 2)) (.ok (o.tag == ("text" : Str))) [] := .cmp (.cons (k_at (i := 0) rfl (by omega)) (.cons .cStr .nil)) prim_seq
end
end
section
variable [Pm]

section
variable {S : St} {K : Frag} {cR : Addr} {b : Nat}
theorem w_plain (H : Has S K cR) (D : List (PyData × PyData)) (at' : Int) (un : Option Int) (o : Oper) (B : Nat) (h1 : (o.tag == ("x" : Str)) = false) (h2 : (["a", "n"] : List Str).any (· == o.tag) = false) (h3 : (o.tag == ("text" : Str)) = false) : CalN S (B + 1) "worked_operand" [o.enc, .dict D, .int at', optI un] (.ok o.enc) :=
  .mk H.O (H.fn 48 "worked_operand" ["operand", "symbols", "at", "unknown"] (by kernel_rfl)) (.of (by kernel_rfl)) (.ret _ []) (.skip k1 h1 (.skip k2 h2 (.skip k3 h3 (.ret (.ret (.name (by kernel_rfl)))))))
theorem w_an (H : Has S K cR) (D : List (PyData × PyData)) (at' : Int) (un : Option Int) (f : Nat) (o : Oper) (t : Tree) (ht : o.tail = [t.enc]) (rv : Except (Bool × Str) Int) (hv : knownV f D at' un t = some rv) (B : Nat) (hB : f + 6 ≤ B) (h1 : (o.tag == ("x" : Str)) = false) (h2 : (["a", "n"] : List Str).any (· == o.tag) = true) : CalN S (B + 1) "worked_operand" [o.enc, .dict D, .int at', optI un] (match rv with | .ok v => .ok (.tuple [.str o.tag, .int v]) | .error (u, s) => .exc u s) := by
  have hf := H.fn 48 "worked_operand" ["operand", "symbols", "at", "unknown"] (by kernel_rfl)
  have c := w_known_value H D at' un f t rv hv B hB
  have ha : (PyData.str o.tag :: o.tail)[1]? = some t.enc := by rw [ht]; rfl
  cases rv with
  | ok v => exact .mk H.O hf (.of (by kernel_rfl)) (.ret _ []) (.skip k1 h1 (.hit k2 h2 (.ret (.ret (.tp (.cons (k_at (i := 0) rfl (by omega)) (.cons (.call H.O c (.cons (k_at (i := 1) ha (by omega)) (.cons (.name (by kernel_rfl)) (.cons (.name (by kernel_rfl)) (.cons (.name (by kernel_rfl)) .nil)))) (by kernel_rfl)) .nil)))))))
  | error e =>
    obtain ⟨u, s⟩ := e
    exact .mk H.O hf (.of (by kernel_rfl)) (.exc _ _) (.skip k1 h1 (.hitX k2 h2 (.exc (.retX (.tupX (.cons (k_at (i := 0) rfl (by omega)) (.here (.call H.O c (.cons (k_at (i := 1) ha (by omega)) (.cons (.name (by kernel_rfl)) (.cons (.name (by kernel_rfl)) (.cons (.name (by kernel_rfl)) .nil)))) (by kernel_rfl)))))))))
theorem w_worked_operand (H : Has S K cR) (D : List (PyData × PyData)) (at' : Int) (un : Option Int) (f : Nat) (o : Oper) (r : Except (Bool × Str) PyData) (h : workO f D at' un o = some r) (B : Nat) (hB : f + 9 ≤ B) : CalN S B "worked_operand" [o.enc, .dict D, .int at', optI un] (dOut r) := by
  obtain ⟨B, rfl⟩ : ∃ B', B = B' + 2 := ⟨B - 2, by omega⟩
  have hf := H.fn 48 "worked_operand" ["operand", "symbols", "at", "unknown"] (by kernel_rfl)
  cases o with
  | r s => cases h; exact w_plain H D at' un _ (B + 1) (by kernel_rfl) (by kernel_rfl) (by kernel_rfl)
  | p s => cases h; exact w_plain H D at' un _ (B + 1) (by kernel_rfl) (by kernel_rfl) (by kernel_rfl)
  | f s => cases h; exact w_plain H D at' un _ (B + 1) (by kernel_rfl) (by kernel_rfl) (by kernel_rfl)
  | m s => cases h; exact w_plain H D at' un _ (B + 1) (by kernel_rfl) (by kernel_rfl) (by kernel_rfl)
  | a t =>
    simp only [workO] at h
    cases hv : knownV f D at' un t with
    | none => rw [hv] at h; cases h
    | some rv =>
      rw [hv] at h
      have w := w_an H D at' un f (.a t) t rfl rv hv (B + 1) (by omega) (by kernel_rfl) (by kernel_rfl)
      cases rv <;> cases h <;> exact w
  | n t =>
    simp only [workO] at h
    cases hv : knownV f D at' un t with
    | none => rw [hv] at h; cases h
    | some rv =>
      rw [hv] at h
      have w := w_an H D at' un f (.n t) t rfl rv hv (B + 1) (by omega) (by kernel_rfl) (by kernel_rfl)
      cases rv <;> cases h <;> exact w
  | x s t =>
    simp only [workO] at h
    cases hv : knownV f D at' (un.map fun _ => 0) t with
    | none => rw [hv] at h; cases h
    | some rv =>
      rw [hv] at h
      have c := w_known_value H D at' (un.map fun _ => 0) f t rv hv (B + 1) (by omega)
      have arg : ∀ {p1 p2 p3 p4 p5 p6 : Pos} {k1 k2 k3 : Nat}, EvE S (B + 1) (sk 48) (kδ (.x s t) D at' un) [] (.IfExp (.Compare (.Name "unknown" p1) [.Is] [.Constant .none k1 p2] p3) (.Constant .none k2 p4) (.Constant (.int 0) k3 p5) p6) (.ok (optI (un.map fun _ => 0))) [] := by
        intro p1 p2 p3 p4 p5 p6 k1 k2 k3
        cases un with
        | none => exact .iteT (.cmp (.cons (.name (d := .none) (by kernel_rfl)) (.cons .cNone .nil)) prim_is) rfl .cNone
        | some v => exact .iteF (.cmp (.cons (.name (d := .int v) (by kernel_rfl)) (.cons .cNone .nil)) prim_is) rfl .cInt
      cases rv with
      | error e =>
        obtain ⟨u, z⟩ := e
        cases h
        exact .mk H.O hf (.of (by kernel_rfl)) (.exc _ _) (.hitX k1 (by kernel_rfl) (.exc (.setX (.call H.O c (.cons (k_at (i := 2) rfl (by omega)) (.cons (.name (by kernel_rfl)) (.cons (.name (by kernel_rfl)) (.cons arg .nil)))) (by kernel_rfl)))))
      | ok v =>
        cases h
        have nm : ∀ {p1 p2 p3 : Pos} {k : Nat}, EvE S (B + 1) (sk 48) (("distance", .int v) :: kδ (.x s t) D at' un) [] (.Subscript (.Name "operand" p1) (.Constant (.int 1) k p2) p3) (.ok (.str s)) [] := .sub (.cons (.name (d := (Oper.x s t).enc) (by kernel_rfl)) (.cons .cInt .nil)) (prim_tupAt (n := 1) rfl rfl (by omega))
        exact .mk H.O hf (.of (by kernel_rfl)) (.ret _ []) (.hit k1 (by kernel_rfl) (.set (.call H.O c (.cons (k_at (i := 2) rfl (by omega)) (.cons (.name (by kernel_rfl)) (.cons (.name (by kernel_rfl)) (.cons arg .nil)))) (by kernel_rfl)) (by kernel_rfl)
          (.ret (.ret (.tp (.cons .cStr (.cons nm (.cons (.call H.O (w_signed_offset (b := B) H v) (.cons (.name (by kernel_rfl)) .nil) (by kernel_rfl)) .nil))))))))
  | text s =>
    simp only [workO] at h
    have ls : ∀ {p1 p2 : Pos}, EvE S (B + 1) (sk 48) (kδ (.text s) D at' un) [] (.List [.Name "operand" p1] p2) (.ok (.list ([Tk.text s].map Tk.enc))) [] := .ls (.cons (.name (d := (Oper.text s).enc) (by kernel_rfl)) .nil)
    cases hx : exprOf f [.text s] with
    | none => rw [hx] at h; cases h
    | some rx =>
      rw [hx] at h
      have cx := w_expression_of H [.text s] (by show 1 < 2 ^ 61; decide) f rx hx (B + 1) (by omega)
      cases rx with
      | error z =>
        cases h
        have cm : ∃ fa o fd, S.mg ("value_of" : Str) = some (.ref fa) ∧ S.B.get? fa = some o ∧ o.data = .func fd := by
          obtain ⟨fa, o, fd, q1, q2, q3, _⟩ := calN_fn (w_value_of H D at' (.num 0) _ rfl 4 (Nat.le_refl _))
          exact ⟨fa, o, fd, q1, q2, q3⟩
        exact .mk H.O hf (.of (by kernel_rfl)) (.exc _ _) (.skip k1 (by kernel_rfl) (.skip k2 (by kernel_rfl) (.hitX k3 (by kernel_rfl) (.exc (.retX (.tupX (.cons .cStr (.here (.callX H.O cm (.here (.call H.O cx (.cons ls .nil) (by kernel_rfl))) (by kernel_rfl))))))))))
      | ok t =>
        dsimp only at h
        cases hv : valF f D at' t with
        | none => rw [hv] at h; cases h
        | some rv =>
          rw [hv] at h
          have cv := w_valF H D at' f t rv hv (B + 1) (by omega)
          cases rv with
          | ok v => cases h; exact .mk H.O hf (.of (by kernel_rfl)) (.ret _ []) (.skip k1 (by kernel_rfl) (.skip k2 (by kernel_rfl) (.hit k3 (by kernel_rfl) (.ret (.ret (.tp (.cons .cStr (.cons (.call H.O cv (.cons (.call H.O cx (.cons ls .nil) (by kernel_rfl)) (.cons (.name (by kernel_rfl)) (.cons (.name (by kernel_rfl)) .nil))) (by kernel_rfl)) .nil))))))))
          | error e =>
            obtain ⟨u, z⟩ := e
            cases h
            exact .mk H.O hf (.of (by kernel_rfl)) (.exc _ _) (.skip k1 (by kernel_rfl) (.skip k2 (by kernel_rfl) (.hitX k3 (by kernel_rfl) (.exc (.retX (.tupX (.cons .cStr (.here (.call H.O cv (.cons (.call H.O cx (.cons ls .nil) (by kernel_rfl)) (.cons (.name (by kernel_rfl)) (.cons (.name (by kernel_rfl)) .nil))) (by kernel_rfl))))))))))
end
end
section
variable [Pm]

noncomputable def worksF (f : Nat) (D : List (PyData × PyData)) (at' : Int) (un : Option Int) : List Oper → Option (Except (Bool × Str) (List PyData))
  | [] => some (.ok [])
  | o :: os => match workO f D at' un o with
    | some (.ok d) => (match worksF f D at' un os with
      | some (.ok ds) => some (.ok (d :: ds))
      | r => r)
    | some (.error e) => some (.error e)
    | none => none
noncomputable def dsOut : Except (Bool × Str) (List PyData) → Out (List PyData)
  | .ok ds => .ok ds
  | .error (u, t) => .exc u t
noncomputable def dsOut' : Except (Bool × Str) (List PyData) → Out PyData
  | .ok ds => .ok (.list ds)
  | .error (u, t) => .exc u t

section
variable {S : St} {K : Frag} {cR : Addr} {b : Nat}
noncomputable abbrev cδ (D : List (PyData × PyData)) (at' : Int) (un : Option Int) : List (Str × PyData) := [("symbols", .dict D), ("at", .int at'), ("unknown", optI un)]
theorem works_loop (H : Has S K cR) (D : List (PyData × PyData)) (at' : Int) (un : Option Int) (f : Nat) (B : Nat) (hB : f + 9 ≤ B) : ∀ (os : List Oper) (r : Except (Bool × Str) (List PyData)), worksF f D at' un os = some r → EvL S B (inner (lcS (retE (stm 49 0))) (sk 49)) (cδ D at' un) [] (lcT (retE (stm 49 0))) (lcE (retE (stm 49 0))) (os.map Oper.enc) (dsOut r) []
  | [], r, h => by cases h; exact .nil
  | o :: os, r, h => by
    unfold worksF at h
    cases ho : workO f D at' un o with
    | none => rw [ho] at h; cases h
    | some ro =>
      rw [ho] at h
      have c := w_worked_operand H D at' un f o ro ho B hB
      cases ro with
      | error e =>
        obtain ⟨u, t⟩ := e
        cases h
        exact .exc (.name (by kernel_rfl)) (.call H.O c (.cons (.name (by kernel_rfl)) (.cons (.name (by kernel_rfl)) (.cons (.name (by kernel_rfl)) (.cons (.name (by kernel_rfl)) .nil)))) (by kernel_rfl))
      | ok d =>
        dsimp only at h
        cases hr : worksF f D at' un os with
        | none => rw [hr] at h; cases h
        | some r1 =>
          rw [hr] at h
          have k := EvL.weak (δ := ("one", o.enc) :: cδ D at' un) (works_loop H D at' un f B hB os r1 hr) ⟨by kernel_rfl, by kernel_rfl, by kernel_rfl, trivial⟩
          cases r1 with
          | ok ds => cases h; exact EvL.cons (.name (by kernel_rfl)) (.call H.O c (.cons (.name (by kernel_rfl)) (.cons (.name (by kernel_rfl)) (.cons (.name (by kernel_rfl)) (.cons (.name (by kernel_rfl)) .nil)))) (by kernel_rfl)) k
          | error e =>
            obtain ⟨u, t⟩ := e
            cases h
            exact EvL.cons (out := .exc u t) (.name (by kernel_rfl)) (.call H.O c (.cons (.name (by kernel_rfl)) (.cons (.name (by kernel_rfl)) (.cons (.name (by kernel_rfl)) (.cons (.name (by kernel_rfl)) .nil)))) (by kernel_rfl)) k
theorem w_closed {δ : List (Str × PyData)} {μ : List (Str × Mut)} (h1 : (δ.lookup ("at" : Str)).isSome = true) (h2 : (δ.lookup ("symbols" : Str)).isSome = true) (h3 : (δ.lookup ("unknown" : Str)).isSome = true) : Closed (sk 49) δ μ (freeNames (lcS (retE (stm 49 0)))) := by
  rw [show freeNames (lcS (retE (stm 49 0))) = (["at", "symbols", "unknown"] : List Str) by kernel_rfl]
  exact ⟨by kernel_rfl, .inl h1, by kernel_rfl, .inl h2, by kernel_rfl, .inl h3, trivial⟩
theorem w_worked_operands (H : Has S K cR) (D : List (PyData × PyData)) (at' : Int) (un : Option Int) (f : Nat) (os : List Oper) (hl : os.length ≤ 100000) (r : Except (Bool × Str) (List PyData)) (h : worksF f D at' un os = some r) (B : Nat) (hB : f + 10 ≤ B) : CalN S B "worked_operands" [.list (os.map Oper.enc), .dict D, .int at', optI un] (dsOut' r) := by
  obtain ⟨B, rfl⟩ : ∃ B', B = B' + 1 := ⟨B - 1, by omega⟩
  have hf := H.fn 49 "worked_operands" ["operands", "symbols", "at", "unknown"] (by kernel_rfl)
  have ok : ScOkC (sk 49) ["operands", "symbols", "at", "unknown"] := .of (by kernel_rfl)
  have key := works_loop H D at' un f B (by omega) os r h
  have hz : (os.map Oper.enc).length ≤ sizeLine := by rw [List.length_map]; exact Nat.le_trans hl (by decide)
  have cl : Closed (sk 49) [("operands", .list (os.map Oper.enc)), ("symbols", .dict D), ("at", .int at'), ("unknown", optI un)] [] (freeNames (lcS (retE (stm 49 0)))) := w_closed (by kernel_rfl) (by kernel_rfl) (by kernel_rfl)
  have sn : Seen (lcS (retE (stm 49 0))) (sk 49) [("operands", .list (os.map Oper.enc)), ("symbols", .dict D), ("at", .int at'), ("unknown", optI un)] (cδ D at' un) := ⟨by kernel_rfl, by kernel_rfl, by kernel_rfl, by kernel_rfl, by kernel_rfl, by kernel_rfl, trivial⟩
  cases r with
  | ok ds => exact .mkC H.O hf ok (.ret _ []) (.ret (.ret (.compG (.list (.name (by kernel_rfl))) (.of (by kernel_rfl)) cl sn key hz kept_none (by intro _ _; kernel_rfl))))
  | error e =>
    obtain ⟨u, t⟩ := e
    exact .mkC H.O hf ok (.exc _ _) (.exc (.retX (.compX (μ' := []) (.list (.name (by kernel_rfl))) (.of (by kernel_rfl)) cl sn key hz kept_none (by intro _ _; kernel_rfl))))
end
end
section
variable [Pm]

/-! the law's draws -/
noncomputable def cartD (xs : List Int) (n : Nat) (k : Int) : List PyData := [.list (xs.map .int), .int n, .int k]
noncomputable def liftV (xs : List Int) (n : Nat) (k : Int) (many : Nat) : Int := match xs[n]? with
  | some x => (if x < 0 then -x else x).fmod many
  | none => (5 * ((n + 1 : Nat) : Int) + (((n + 1 : Nat) : Int)).fdiv 3 + k).fmod many

section
variable {S : St} {K : Frag} {cR : Addr} {b : Nat}
theorem w_lift (H : Has S K cR) (xs : List Int) (n : Nat) (k : Int) (many : Nat) (hx : xs.length ≤ 100000) (hn : n ≤ 1000) (hm : many ≠ 0) : CalNR S (b + 1) "_law_lift" (.list (cartD xs n k)) [.int many] (.ok (.int (liftV xs n k many))) (.list (cartD xs (n + 1) k)) := by
  have hf := H.fn 51 "_law_lift" ["cart", "many"] (by kernel_rfl)
  have ok : ScOk (sk 51) ["cart", "many"] := .of (by kernel_rfl)
  have first : EvS S b (sk 51) [("many", .int many)] [("cart", .list (cartD xs n k))] (stm 51 0) (.next [("many", .int many)] [("cart", .list ((cartD xs n k).set 1 (.int ((n + 1 : Nat)))))]) := .mAug (k := 1) [] [] rfl (by omega) .cInt prim_iadd
  have g0 : ∀ {p1 p2 p3 : Pos} {k1 : Nat}, EvE S b (sk 51) [("many", .int many)] [("cart", .list (cartD xs (n + 1) k))] (.Subscript (.Name "cart" p1) (.Constant (.int 0) k1 p2) p3) (.ok (.list (xs.map .int))) [("cart", .list (cartD xs (n + 1) k))] := .mAt (k := 0) [] [] .cInt rfl rfl (by omega)
  have g1 : ∀ {p1 p2 p3 : Pos} {k1 : Nat}, EvE S b (sk 51) [("many", .int many)] [("cart", .list (cartD xs (n + 1) k))] (.Subscript (.Name "cart" p1) (.Constant (.int 1) k1 p2) p3) (.ok (.int ((n + 1 : Nat)))) [("cart", .list (cartD xs (n + 1) k))] := .mAt (k := 1) [] [] .cInt rfl rfl (by omega)
  have g2 : ∀ {p1 p2 p3 : Pos} {k1 : Nat}, EvE S b (sk 51) [("many", .int many)] [("cart", .list (cartD xs (n + 1) k))] (.Subscript (.Name "cart" p1) (.Constant (.int 2) k1 p2) p3) (.ok (.int k)) [("cart", .list (cartD xs (n + 1) k))] := .mAt (k := 2) [] [] .cInt rfl rfl (by omega)
  have hlm : (xs.map PyData.int).length < 2 ^ 61 := by rw [List.length_map]; omega
  have test : EvT S b (sk 51) [("many", .int many)] [("cart", .list (cartD xs (n + 1) k))] (ifT (stm 51 1)) (.ok (decide (n < xs.length))) [("cart", .list (cartD xs (n + 1) k))] := by
    have e : decide ((((n + 1 : Nat)) : Int) ≤ ((xs.map PyData.int).length : Int)) = decide (n < xs.length) := by rw [decide_eq_decide, List.length_map]; omega
    rw [← e]
    exact .cmp (.cons g1 (.cons (.lenD H g0 hlm (by kernel_rfl)) .nil)) prim_le
  refine .mk H.O hf ok (.ret _ [("cart", .list (cartD xs (n + 1) k))]) (.cons first ?_) .ret
  obtain ⟨h1, h2⟩ := H.blt (n := "abs") (id := "abs") (by kernel_rfl)
  have hm' : (many : Int) ≠ 0 := by omega
  unfold liftV
  cases hc : decide (n < xs.length) with
  | true =>
    have hlt := of_decide_eq_true hc
    rw [List.getElem?_eq_getElem hlt]
    have hg : (xs.map PyData.int)[n]? = some (.int xs[n]) := by rw [List.getElem?_map, List.getElem?_eq_getElem hlt]; rfl
    have hi : (((n + 1 : Nat)) : Int) - 1 = (n : Nat) := by omega
    exact .hit test hc (.ret (.ret (.bin (.cons (.callB H.O h1 h2 (by kernel_rfl) (.cons (.sub (.cons g0 (.cons (.bin (.cons g1 (.cons .cInt .nil)) prim_sub) .nil)) (prim_lstAt (n := n) hg hi (by omega))) .nil) prim_abs) (.cons (.name rfl) .nil)) (prim_mod hm'))))
  | false =>
    have hlt := of_decide_eq_false hc
    rw [List.getElem?_eq_none (by omega)]
    exact .skip test hc (.ret (.ret (.bin (.cons (.bin (.cons (.bin (.cons (.bin (.cons .cInt (.cons g1 .nil)) (prim_mul (.of_left (Nat.le_of_ble_eq_true (by kernel_rfl))))) (.cons (.bin (.cons g1 (.cons .cInt .nil)) (prim_div (by omega) (PyProof.noPylong_small (by decide)))) .nil)) prim_add) (.cons g2 .nil)) prim_add) (.cons (.name rfl) .nil)) (prim_mod hm'))))
end
end
section
variable [Pm]

/-- worked_operands(operands_of(tokens_of(text)), D, at, unknown) -/
noncomputable def runF (g f : Nat) (l : List Nat) (D : List (PyData × PyData)) (at' : Int) (un : Option Int) : Option (Except (Bool × Str) (List PyData)) := match toks g l [] with
  | none => none
  | some (.error s) => some (.error (false, s))
  | some (.ok ts) => if decide (ts.length ≤ 100000) && decide ((pieces ts).length ≤ 100000) then (match opsF f (pieces ts) with
    | none => none
    | some (.error s) => some (.error (false, s))
    | some (.ok os) => if decide (os.length ≤ 100000) then worksF f D at' un os else none) else none

section
variable {S : St} {K : Frag} {cR : Addr} {b : Nat} {sc : Scope} {δ : List (Str × PyData)} {μ : List (Str × Mut)} {e eD eA eU : Expr} {p1 p2 p3 p4 p5 p6 : Pos}
theorem has_call {S : St} {b : Nat} {n : Str} {ds : List PyData} {out : Out PyData} (c : CalN S b n ds out) : ∃ fa o fd, S.mg n = some (.ref fa) ∧ S.B.get? fa = some o ∧ o.data = .func fd := by
  obtain ⟨fa, o, fd, q1, q2, q3, _⟩ := calN_fn c
  exact ⟨fa, o, fd, q1, q2, q3⟩
theorem run_eval (H : Has S K cR) (g f : Nat) (l : List Nat) (D : List (PyData × PyData)) (at' : Int) (un : Option Int) (r : Except (Bool × Str) (List PyData)) (h : runF g f l D at' un = some r) (hl : l.length ≤ 100000) (hg : g ≤ 200000) (hB : f + 11 ≤ b)
    (he : EvE S b sc δ μ e (.ok (tx l)) μ) (hD : EvE S b sc δ μ eD (.ok (.dict D)) μ) (hA : EvE S b sc δ μ eA (.ok (.int at')) μ) (hU : EvE S b sc δ μ eU (.ok (optI un)) μ)
    (k1 : sc.names.lookup ("worked_operands" : Str) = some .globalImplicit) (k2 : sc.names.lookup ("operands_of" : Str) = some .globalImplicit) (k3 : sc.names.lookup ("tokens_of" : Str) = some .globalImplicit)
    (n1 : noStar [.Call (.Name "operands_of" p2) [.Call (.Name "tokens_of" p3) [e] [] p4] [] p5, eD, eA, eU] := by intro _; rfl) (n2 : noStar [.Call (.Name "tokens_of" p3) [e] [] p4] := by intro _; rfl) (n3 : noStar [e] := by intro _; rfl) :
    EvE S b sc δ μ (.Call (.Name "worked_operands" p1) [.Call (.Name "operands_of" p2) [.Call (.Name "tokens_of" p3) [e] [] p4] [] p5, eD, eA, eU] [] p6) (dsOut' r) μ := by
  obtain ⟨b, rfl⟩ : ∃ b', b = b' + 6 := ⟨b - 6, by omega⟩
  have fo := has_call (w_operands_of H [] (by decide) 0 _ rfl (by decide) 11 (Nat.le_refl _))
  have fw := has_call (w_worked_operands H D at' un 0 [] (by decide) _ rfl 10 (Nat.le_refl _))
  unfold runF at h
  cases ht : toks g l [] with
  | none => rw [ht] at h; cases h
  | some rt =>
    rw [ht] at h
    have ct := w_tokens_of (b := b) H l hl g hg rt ht
    cases rt with
    | error s => cases h; exact .callX H.O fw (.here (.callX H.O fo (.here (.call H.O ct (.cons he .nil) k3 n3)) k2 n2)) k1 n1
    | ok ts =>
      dsimp only at h
      cases hc : decide (ts.length ≤ 100000) && decide ((pieces ts).length ≤ 100000) with
      | false => rw [hc] at h; cases h
      | true =>
        replace h := onT hc h
        obtain ⟨q1, q2⟩ := Bool.and_eq_true_iff.mp hc
        cases ho : opsF f (pieces ts) with
        | none => rw [ho] at h; cases h
        | some ro =>
          rw [ho] at h
          have co := w_operands_of H ts (of_decide_eq_true q1) f ro ho (of_decide_eq_true q2) (b + 6) (by omega)
          cases ro with
          | error s => cases h; exact .callX H.O fw (.here (.call H.O co (.cons (.call H.O ct (.cons he .nil) k3 n3) .nil) k2 n2)) k1 n1
          | ok os =>
            dsimp only at h
            cases hz : decide (os.length ≤ 100000) with
            | false => rw [hz] at h; cases h
            | true =>
              replace h := onT hz h
              have cw := w_worked_operands H D at' un f os (of_decide_eq_true hz) r h (b + 6) (by omega)
              exact .call H.O cw (.cons (.call H.O co (.cons (.call H.O ct (.cons he .nil) k3 n3) .nil) k2 n2) (.cons hD (.cons hA (.cons hU .nil)))) k1 n1

noncomputable def knownD : List (PyData × PyData) := [(.str "KNOWN", .int 7)]
noncomputable def refOut : Except (Bool × Str) (List PyData) → PyData
  | .ok _ => .none
  | .error (u, t) => .tuple [.str t, .bool u, .int 0]
theorem w_refusal (H : Has S K cR) (g f : Nat) (l : List Nat) (un : Option Int) (r : Except (Bool × Str) (List PyData)) (h : runF g f l knownD 9 un = some r) (hl : l.length ≤ 100000) (hg : g ≤ 200000) (B : Nat) (hB : f + 12 ≤ B) : CalN S B "_law_refusal" [tx l, optI un] (.ok (refOut r)) := by
  obtain ⟨B, rfl⟩ : ∃ B', B = B' + 1 := ⟨B - 1, by omega⟩
  have hf := H.fn 53 "_law_refusal" ["text", "unknown"] (by kernel_rfl)
  have ok : ScOk (sk 53) ["text", "unknown"] := .of (by kernel_rfl)
  have ev : ∀ {p1 p2 p3 p4 p5 p6 p7 p8 p9 p10 p11 p12 : Pos} {k1 k2 k3 : Nat}, EvE S B (sk 53) [("text", tx l), ("unknown", optI un)] [] (.Call (.Name "worked_operands" p1) [.Call (.Name "operands_of" p2) [.Call (.Name "tokens_of" p3) [.Name "text" p4] [] p5] [] p6, .Dict [some (.Constant (.str "KNOWN") k1 p7)] [.Constant (.int 7) k2 p8] p9, .Constant (.int 9) k3 p10, .Name "unknown" p11] [] p12) (dsOut' r) [] :=
    run_eval H g f l knownD 9 un r h hl hg (by omega) (.name (by kernel_rfl)) (.dict H.O (kvs := knownD) (by kernel_rfl) (by kernel_rfl) (by decide) (by simp) (hlen := Nat.le_of_ble_eq_true (by kernel_rfl))) .cInt (.name (by kernel_rfl)) (by kernel_rfl) (by kernel_rfl) (by kernel_rfl)
  cases r with
  | ok ds => exact .mk H.O hf ok (.ret _ []) (.cons (.tryNext (.cons (.expr ev) .nil)) (.ret (.ret .cNone)))
  | error e =>
    obtain ⟨u, t⟩ := e
    obtain ⟨h1, h2⟩ := H.blt (n := "isinstance") (id := "isinstance") (by kernel_rfl)
    have hc : caught u false = true := by cases u <;> rfl
    exact .mk H.O hf ok (.ret _ []) (.ret (.tryTell H.O H.E (c := false) (.expr ev) H.gA (by kernel_rfl) hc (by kernel_rfl) h1 h2 (by kernel_rfl) H.gU (by kernel_rfl)))
end
end
section
variable [Pm]

noncomputable def wrongL : List (Str × Str) := [("1,,2", "an operand is missing"), (",", "an operand is missing"), ("A,", "an operand is missing"), ("'ab", "a text without an end"), ("\"a''", "a text without an end"), ("12Z", "no number: 12Z"), ("65536", "no number: 65536"), ("0x1g", "no number: 0x1g"), ("9B", "no number: 9B"), ("%12", "no number: %12"), ("1, 0ffffFh", "no number: 0ffffFh"), ("{", "a strange sign: {"), ("%2", "a strange sign: %"), ("1+", "a value is missing"), ("()", "a value is missing"), (")", "a value is missing"), ("(IX+)", "a value is missing"), ("*2", "a value is missing"), ("(1", "a parenthesis is not closed"), ("((1)", "a parenthesis is not closed"), ("1 2", "something behind an expression"), ("1)", "something behind an expression"), ("(1)(2)", "something behind an expression"), ("'abc'", "no text of one sign or two"), ("''", "no text of one sign or two"), ("1+'abc'", "no text of one sign or two"), ("1/0", "a division by nought"), ("5 MOD (1-1)", "a division by nought"), ("-------------1", "an expression too deep"), ("(((((((((((((1)))))))))))))+0", "an expression too deep")]
noncomputable def wrongD : List PyData := wrongL.map fun p => .tuple [.str p.1, .str p.2]

section
variable {S : St} {K : Frag} {cR : Addr} {b : Nat}
noncomputable abbrev wrδ : List (Str × PyData) := [("missing", .str "a value is missing"), ("behind", .str "something behind an expression"), ("short", .str "no text of one sign or two")]
theorem wr0 {p1 p2 p3 p4 p5 : Pos} {k1 k2 k3 : Nat} : EvE S b (sk 54) wrδ [] (.BinOp (.BinOp (.Constant (.str "-") k1 p1) .Mult (.Constant (.int 13) k2 p2) p3) .Add (.Constant (.str "1") k3 p4) p5) (.ok (.str "-------------1")) [] := by
  rw [show ("-------------1" : Str) = Txt.mul "-" 13 ++ "1" by kernel_rfl]
  exact .bin (.cons (.bin (.cons .cStr (.cons .cInt .nil)) (prim_rep ⟨by kernel_rfl, by intro _ _; decide, by intro _ _; kernel_rfl⟩)) (.cons .cStr .nil)) (prim_cat (Nat.le_of_ble_eq_true (by kernel_rfl)))
theorem wr1 {p1 p2 p3 p4 p5 p6 p7 p8 p9 p10 p11 : Pos} {k1 k2 k3 k4 k5 k6 : Nat} : EvE S b (sk 54) wrδ [] (.BinOp (.BinOp (.BinOp (.BinOp (.Constant (.str "(") k1 p1) .Mult (.Constant (.int 13) k2 p2) p3) .Add (.Constant (.str "1") k3 p4) p5) .Add (.BinOp (.Constant (.str ")") k4 p6) .Mult (.Constant (.int 13) k5 p7) p8) p9) .Add (.Constant (.str "+0") k6 p10) p11) (.ok (.str "(((((((((((((1)))))))))))))+0")) [] := by
  rw [show ("(((((((((((((1)))))))))))))+0" : Str) = Txt.mul "(" 13 ++ "1" ++ Txt.mul ")" 13 ++ "+0" by kernel_rfl]
  exact .bin (.cons (.bin (.cons (.bin (.cons (.bin (.cons .cStr (.cons .cInt .nil)) (prim_rep ⟨by kernel_rfl, by intro _ _; decide, by intro _ _; kernel_rfl⟩)) (.cons .cStr .nil)) (prim_cat (Nat.le_of_ble_eq_true (by kernel_rfl)))) (.cons (.bin (.cons .cStr (.cons .cInt .nil)) (prim_rep ⟨by kernel_rfl, by intro _ _; decide, by intro _ _; kernel_rfl⟩)) .nil)) (prim_cat (Nat.le_of_ble_eq_true (by kernel_rfl)))) (.cons .cStr .nil)) (prim_cat (Nat.le_of_ble_eq_true (by kernel_rfl)))
theorem w_wrong (H : Has S K cR) : CalN S (b + 1) "_law_wrong" [] (.ok (.list wrongD)) := by
  have hf := H.fn 54 "_law_wrong" [] (by kernel_rfl)
  have ok : ScOk (sk 54) [] := .of (by kernel_rfl)
  have first : EvS S b (sk 54) [] [] (stm 54 0) (.next wrδ []) := by
    refine .less (.tup false [("missing", _), ("behind", _), ("short", _)] rfl (.dat .cStr (.dat .cStr (.dat .cStr .nil))) rfl ⟨by kernel_rfl, rfl, by kernel_rfl, rfl, by kernel_rfl, rfl, trivial⟩ (fun env he => ?_) (hz := Nat.le_of_ble_eq_true (by kernel_rfl))) ?_
    · unfold swappedStores Env.blockKind Env.kindOf; rw [he]; kernel_rfl
    · exact ⟨by kernel_rfl, by kernel_rfl, by kernel_rfl, trivial⟩
  exact .mk H.O hf ok (.ret _ []) (.cons first (.ret (.ret (.ls (.cons (.tp (.cons .cStr (.cons .cStr .nil))) (.cons (.tp (.cons .cStr (.cons .cStr .nil))) (.cons (.tp (.cons .cStr (.cons .cStr .nil))) (.cons (.tp (.cons .cStr (.cons .cStr .nil))) (.cons (.tp (.cons .cStr (.cons .cStr .nil))) (.cons (.tp (.cons .cStr (.cons .cStr .nil))) (.cons (.tp (.cons .cStr (.cons .cStr .nil))) (.cons (.tp (.cons .cStr (.cons .cStr .nil))) (.cons (.tp (.cons .cStr (.cons .cStr .nil))) (.cons (.tp (.cons .cStr (.cons .cStr .nil))) (.cons (.tp (.cons .cStr (.cons .cStr .nil))) (.cons (.tp (.cons .cStr (.cons .cStr .nil))) (.cons (.tp (.cons .cStr (.cons .cStr .nil))) (.cons (.tp (.cons .cStr (.cons (.name (by kernel_rfl)) .nil))) (.cons (.tp (.cons .cStr (.cons (.name (by kernel_rfl)) .nil))) (.cons (.tp (.cons .cStr (.cons (.name (by kernel_rfl)) .nil))) (.cons (.tp (.cons .cStr (.cons (.name (by kernel_rfl)) .nil))) (.cons (.tp (.cons .cStr (.cons (.name (by kernel_rfl)) .nil))) (.cons (.tp (.cons .cStr (.cons .cStr .nil))) (.cons (.tp (.cons .cStr (.cons .cStr .nil))) (.cons (.tp (.cons .cStr (.cons (.name (by kernel_rfl)) .nil))) (.cons (.tp (.cons .cStr (.cons (.name (by kernel_rfl)) .nil))) (.cons (.tp (.cons .cStr (.cons (.name (by kernel_rfl)) .nil))) (.cons (.tp (.cons .cStr (.cons (.name (by kernel_rfl)) .nil))) (.cons (.tp (.cons .cStr (.cons (.name (by kernel_rfl)) .nil))) (.cons (.tp (.cons .cStr (.cons (.name (by kernel_rfl)) .nil))) (.cons (.tp (.cons .cStr (.cons .cStr .nil))) (.cons (.tp (.cons .cStr (.cons .cStr .nil))) (.cons (.tp (.cons (wr0) (.cons .cStr .nil))) (.cons (.tp (.cons (wr1) (.cons .cStr .nil))) (.nil)))))))))))))))))))))))))))))))))))
end
end
section
variable [Pm]

/-- the forms: a text, and what is due -/
noncomputable def formL (told way : Str) (N Dd : Nat) (a u : Int) : List (Str × PyData) := [("A", .tuple [.str "r", .str "A"]),
  ("ixh", .tuple [.str "r", .str "IXH"]),
  ("i", .tuple [.str "r", .str "I"]),
  ("BC", .tuple [.str "p", .str "BC"]),
  ("sp", .tuple [.str "p", .str "SP"]),
  ("af'", .tuple [.str "p", .str "AF'"]),
  ("NZ", .tuple [.str "f", .str "NZ"]),
  ("m", .tuple [.str "f", .str "M"]),
  ("(HL)", .tuple [.str "m", .str "HL"]),
  ("( c )", .tuple [.str "m", .str "C"]),
  ("(iy)", .tuple [.str "m", .str "IY"]),
  (("(IX+" ++ way ++ ")"), .tuple [.str "x", .str "IX", .int Dd]),
  (("(iy - " ++ way ++ ")"), .tuple [.str "x", .str "IY", .int (-(Dd : Int))]),
  (("(" ++ told ++ ")"), .tuple [.str "a", .int N]),
  (("((" ++ told ++ "))"), .tuple [.str "a", .int N]),
  (told, .tuple [.str "n", .int N]),
  (("(" ++ told ++ ")+1"), .tuple [.str "n", .int ((N : Int) + 1)]),
  (("(" ++ told ++ ") + (2)"), .tuple [.str "n", .int ((N : Int) + 2)]),
  ("'x'", .tuple [.str "n", .int 120]),
  ("\"x'\"", .tuple [.str "n", .int (120 * 256 + 39)]),
  ("known", .tuple [.str "n", .int 7]),
  ("(KNOWN)", .tuple [.str "a", .int 7]),
  (("$+" ++ way), .tuple [.str "n", .int (a + (Dd : Int))]),
  ("(ix+known)", .tuple [.str "x", .str "IX", .int 7]),
  ("lost", .tuple [.str "n", .int u]),
  ("(IX+lost)", .tuple [.str "x", .str "IX", .int 0])]
noncomputable def formD (told way : Str) (N Dd : Nat) (a u : Int) : List PyData := (formL told way N Dd a u).map fun p => .tuple [.str p.1, p.2]

section
variable {S : St} {K : Frag} {cR : Addr} {b : Nat}
theorem cat_ok {x y : Str} (hx : x.length ≤ 300) (hy : y.length ≤ 300) : x.length + y.length ≤ sizeLine := Nat.le_trans (show _ ≤ 600 by omega) (by decide)
theorem EvE.wrap {sc : Scope} {δ : List (Str × PyData)} {μ : List (Str × Mut)} {e : Expr} {c1 c2 v : Str} {p1 p2 p3 p4 : Pos} {k1 k2 : Nat} (h : EvE S b sc δ μ e (.ok (.str v)) μ) (hv : v.length ≤ 100) (h1 : Nat.ble c1.length 100 = true) (h2 : Nat.ble c2.length 100 = true) :
    EvE S b sc δ μ (.BinOp (.BinOp (.Constant (.str c1) k1 p1) .Add e p2) .Add (.Constant (.str c2) k2 p3) p4) (.ok (.str (c1 ++ v ++ c2))) μ := by
  have h1 := Nat.le_of_ble_eq_true h1
  have h2 := Nat.le_of_ble_eq_true h2
  exact .bin (.cons (.bin (.cons .cStr (.cons h .nil)) (prim_cat (cat_ok (by omega) (by omega)))) (.cons .cStr .nil)) (prim_cat (cat_ok (by rw [Str.length_append]; omega) (by omega)))
theorem EvE.wrap0 {sc : Scope} {δ : List (Str × PyData)} {μ : List (Str × Mut)} {e : Expr} {c1 v : Str} {p1 p2 : Pos} {k1 : Nat} (h : EvE S b sc δ μ e (.ok (.str v)) μ) (hv : v.length ≤ 100) (h1 : Nat.ble c1.length 100 = true) :
    EvE S b sc δ μ (.BinOp (.Constant (.str c1) k1 p1) .Add e p2) (.ok (.str (c1 ++ v))) μ := by
  have h1 := Nat.le_of_ble_eq_true h1
  exact .bin (.cons .cStr (.cons h .nil)) (prim_cat (cat_ok (by omega) (by omega)))
noncomputable abbrev fδ (told way : Str) (N Dd : Nat) (a u : Int) : List (Str × PyData) := [("told", .str told), ("way", .str way), ("n", .int N), ("d", .int Dd), ("at", .int a), ("unknown", .int u)]
noncomputable def asV : Stmt → Expr
  | .Assign _ v _ => v
  | _ => .Constant .none 0 ⟨0, 0, 0, 0⟩
theorem form_rows (told way : Str) (N Dd : Nat) (a u : Int) (ht : told.length ≤ 100) (hw : way.length ≤ 100) (μ : List (Str × Mut)) : EvE S b (sk 52) (fδ told way N Dd a u) μ (asV (stm 52 2)) (.ok (.list (formD told way N Dd a u))) μ :=
  .ls (.cons (.tp (.cons .cStr (.cons (.tp (.cons .cStr (.cons .cStr (.nil)))) .nil))) (.cons (.tp (.cons .cStr (.cons (.tp (.cons .cStr (.cons .cStr (.nil)))) .nil))) (.cons (.tp (.cons .cStr (.cons (.tp (.cons .cStr (.cons .cStr (.nil)))) .nil))) (.cons (.tp (.cons .cStr (.cons (.tp (.cons .cStr (.cons .cStr (.nil)))) .nil))) (.cons (.tp (.cons .cStr (.cons (.tp (.cons .cStr (.cons .cStr (.nil)))) .nil))) (.cons (.tp (.cons .cStr (.cons (.tp (.cons .cStr (.cons .cStr (.nil)))) .nil))) (.cons (.tp (.cons .cStr (.cons (.tp (.cons .cStr (.cons .cStr (.nil)))) .nil))) (.cons (.tp (.cons .cStr (.cons (.tp (.cons .cStr (.cons .cStr (.nil)))) .nil))) (.cons (.tp (.cons .cStr (.cons (.tp (.cons .cStr (.cons .cStr (.nil)))) .nil))) (.cons (.tp (.cons .cStr (.cons (.tp (.cons .cStr (.cons .cStr (.nil)))) .nil))) (.cons (.tp (.cons .cStr (.cons (.tp (.cons .cStr (.cons .cStr (.nil)))) .nil))) (.cons (.tp (.cons (.wrap (c1 := "(IX+") (c2 := ")") (.name rfl) hw (by kernel_rfl) (by kernel_rfl)) (.cons (.tp (.cons .cStr (.cons .cStr (.cons (.name rfl) (.nil))))) .nil))) (.cons (.tp (.cons (.wrap (c1 := "(iy - ") (c2 := ")") (.name rfl) hw (by kernel_rfl) (by kernel_rfl)) (.cons (.tp (.cons .cStr (.cons .cStr (.cons (.un (.name rfl) prim_neg) (.nil))))) .nil))) (.cons (.tp (.cons (.wrap (c1 := "(") (c2 := ")") (.name rfl) ht (by kernel_rfl) (by kernel_rfl)) (.cons (.tp (.cons .cStr (.cons (.name rfl) (.nil)))) .nil))) (.cons (.tp (.cons (.wrap (c1 := "((") (c2 := "))") (.name rfl) ht (by kernel_rfl) (by kernel_rfl)) (.cons (.tp (.cons .cStr (.cons (.name rfl) (.nil)))) .nil))) (.cons (.tp (.cons (.name rfl) (.cons (.tp (.cons .cStr (.cons (.name rfl) (.nil)))) .nil))) (.cons (.tp (.cons (.wrap (c1 := "(") (c2 := ")+1") (.name rfl) ht (by kernel_rfl) (by kernel_rfl)) (.cons (.tp (.cons .cStr (.cons (.bin (.cons (.name rfl) (.cons .cInt .nil)) prim_add) (.nil)))) .nil))) (.cons (.tp (.cons (.wrap (c1 := "(") (c2 := ") + (2)") (.name rfl) ht (by kernel_rfl) (by kernel_rfl)) (.cons (.tp (.cons .cStr (.cons (.bin (.cons (.name rfl) (.cons .cInt .nil)) prim_add) (.nil)))) .nil))) (.cons (.tp (.cons .cStr (.cons (.tp (.cons .cStr (.cons .cInt (.nil)))) .nil))) (.cons (.tp (.cons .cStr (.cons (.tp (.cons .cStr (.cons (.bin (.cons (.bin (.cons .cInt (.cons .cInt .nil)) (prim_mul (.of_left (Nat.le_of_ble_eq_true (by kernel_rfl))))) (.cons .cInt .nil)) prim_add) (.nil)))) .nil))) (.cons (.tp (.cons .cStr (.cons (.tp (.cons .cStr (.cons .cInt (.nil)))) .nil))) (.cons (.tp (.cons .cStr (.cons (.tp (.cons .cStr (.cons .cInt (.nil)))) .nil))) (.cons (.tp (.cons (.wrap0 (c1 := "$+") (.name rfl) hw (by kernel_rfl)) (.cons (.tp (.cons .cStr (.cons (.bin (.cons (.name rfl) (.cons (.name rfl) .nil)) prim_add) (.nil)))) .nil))) (.cons (.tp (.cons .cStr (.cons (.tp (.cons .cStr (.cons .cStr (.cons .cInt (.nil))))) .nil))) (.cons (.tp (.cons .cStr (.cons (.tp (.cons .cStr (.cons (.name rfl) (.nil)))) .nil))) (.cons (.tp (.cons .cStr (.cons (.tp (.cons .cStr (.cons .cStr (.cons .cInt (.nil))))) .nil))) (.nil)))))))))))))))))))))))))))
end
end
section
variable [Pm]

noncomputable def liftN (xs : List Int) (n : Nat) (k : Int) (many : Nat) : Nat := (liftV xs n k many).toNat
theorem lift_nat (xs : List Int) (n : Nat) (k : Int) {many : Nat} (hm : many ≠ 0) : (liftN xs n k many : Int) = liftV xs n k many := by
  unfold liftN
  have : 0 ≤ liftV xs n k many := by
    unfold liftV
    cases xs[n]? <;> exact Int.fmod_nonneg_of_pos _ (by omega)
  omega
theorem lift_lt (xs : List Int) (n : Nat) (k : Int) {many : Nat} (hm : many ≠ 0) : liftN xs n k many < many := by
  have h := lift_nat xs n k hm
  have : liftV xs n k many < many := by
    unfold liftV
    cases xs[n]? <;> exact Int.fmod_lt_of_pos _ (by omega)
  omega
noncomputable def decT (n : Nat) : Str := (toString (n : Int) : String)

section
variable {S : St} {K : Frag} {cR : Addr} {b : Nat}
theorem w_liftN (H : Has S K cR) (xs : List Int) (n : Nat) (k : Int) (many : Nat) (hx : xs.length ≤ 100000) (hn : n ≤ 1000) (hm : many ≠ 0) : CalNR S (b + 1) "_law_lift" (.list (cartD xs n k)) [.int many] (.ok (.int (liftN xs n k many : Nat))) (.list (cartD xs (n + 1) k)) := by
  rw [lift_nat xs n k hm]
  exact w_lift H xs n k many hx hn hm
theorem EvE.lift (H : Has S K cR) {sc : Scope} {δ : List (Str × PyData)} {p1 p2 p3 p4 : Pos} {k1 : Nat} (xs : List Int) (n : Nat) (k : Int) (many : Nat) (hx : xs.length ≤ 100000) (hn : n ≤ 1000) (hm : many ≠ 0) (hk : sc.names.lookup ("_law_lift" : Str) = some .globalImplicit) :
    EvE S (b + 1) sc δ [("cart", .list (cartD xs n k))] (.Call (.Name "_law_lift" p1) [.Name "cart" p2, .Constant (.int (many : Int)) k1 p3] [] p4) (.ok (.int (liftN xs n k many : Nat))) [("cart", .list (cartD xs (n + 1) k))] :=
  .callR H.O [] [] (w_liftN (b := b) H xs n k many hx hn hm) (.cons .cInt .nil) hk
theorem dec_eq (n : Nat) : decT n = T ((Nat.toDigits 10 n).map Char.toNat) := by
  unfold decT
  show Str.ofString (Nat.repr n) = _
  rw [Str.ofString_eq_toList]
  unfold Nat.repr
  rw [String.toList_ofList]
theorem dec_len (n : Nat) (h : n < 100000) : (decT n).length ≤ 100 := by
  rw [dec_eq, T_len, List.length_map]
  exact Nat.le_trans ((Nat.length_toDigits_le_iff (k := 5) (by omega) (by omega)).mpr (by omega)) (by omega)
theorem prim_dec (n : Nat) (h : n < 100000) : Prim S (fun vs => PySem.call (.type "str") vs) [.int (n : Int)] (.str (decT n)) := by
  refine prim_str ?_
  show n.log2 < 1920
  rcases Nat.eq_zero_or_pos n with q | q
  · rw [q]; decide
  · have : n.log2 < 17 := (Nat.log2_lt (by omega)).mpr (by omega)
    omega
theorem w_form (H : Has S K cR) (xs : List Int) (n : Nat) (k : Int) (a u : Int) (hx : xs.length ≤ 100000) (hn : n ≤ 900) (d : PyData) (hd : (formD (decT (liftN xs n k 30000)) (decT (liftN xs (n + 1) k 128)) (liftN xs n k 30000) (liftN xs (n + 1) k 128) a u)[liftN xs (n + 2) k 26]? = some d) :
    CalNR S (b + 2) "_law_form" (.list (cartD xs n k)) [.int a, .int u] (.ok d) (.list (cartD xs (n + 3) k)) := by
  have hf := H.fn 52 "_law_form" ["cart", "at", "unknown"] (by kernel_rfl)
  have ok : ScOk (sk 52) ["cart", "at", "unknown"] := .of (by kernel_rfl)
  obtain ⟨h1, h2⟩ := H.bi "str" (.type "str") (by kernel_rfl)
  have s0 : EvS S (b + 1) (sk 52) [("at", .int a), ("unknown", .int u)] [("cart", .list (cartD xs n k))] (stm 52 0) (.next [("n", .int (liftN xs n k 30000 : Nat)), ("d", .int (liftN xs (n + 1) k 128 : Nat)), ("at", .int a), ("unknown", .int u)] [("cart", .list (cartD xs (n + 2) k))]) := by
    refine .less (.tup true [("n", _), ("d", _)] rfl (.dat (.lift H xs n k 30000 hx (by omega) (by omega) (by kernel_rfl)) (.dat (.lift H xs (n + 1) k 128 hx (by omega) (by omega) (by kernel_rfl)) .nil)) rfl ⟨by kernel_rfl, rfl, by kernel_rfl, rfl, trivial⟩ (fun env he => ?_) (hz := Nat.le_of_ble_eq_true (by kernel_rfl))) ?_
    · unfold swappedStores Env.blockKind Env.kindOf; rw [he]; kernel_rfl
    · exact ⟨by kernel_rfl, by kernel_rfl, by kernel_rfl, by kernel_rfl, trivial⟩
  have b1 := lift_lt xs n k (many := 30000) (by omega)
  have b2 := lift_lt xs (n + 1) k (many := 128) (by omega)
  generalize liftN xs n k 30000 = N at *
  generalize liftN xs (n + 1) k 128 = Dd at *
  have s1 : EvS S (b + 1) (sk 52) [("n", .int (N : Nat)), ("d", .int (Dd : Nat)), ("at", .int a), ("unknown", .int u)] [("cart", .list (cartD xs (n + 2) k))] (stm 52 1) (.next (fδ (decT N) (decT Dd) N Dd a u) [("cart", .list (cartD xs (n + 2) k))]) := by
    refine .less (.tup true [("told", _), ("way", _)] rfl (.dat (.callT H.O h1 h2 (by kernel_rfl) (.cons (.name rfl) .nil) (prim_dec N (by omega))) (.dat (.callT H.O h1 h2 (by kernel_rfl) (.cons (.name rfl) .nil) (prim_dec Dd (by omega))) .nil)) rfl ⟨by kernel_rfl, rfl, by kernel_rfl, rfl, trivial⟩ (fun env he => ?_) (hz := Nat.le_of_ble_eq_true (by kernel_rfl))) ?_
    · unfold swappedStores Env.blockKind Env.kindOf; rw [he]; kernel_rfl
    · exact ⟨by kernel_rfl, by kernel_rfl, by kernel_rfl, by kernel_rfl, by kernel_rfl, by kernel_rfl, trivial⟩
  have hlt := lift_lt xs (n + 2) k (many := 26) (by omega)
  exact .mk H.O hf ok (.ret d [("cart", .list (cartD xs (n + 3) k))]) (.cons s0 (.cons s1 (.setM (form_rows (decT N) (decT Dd) N Dd a u (dec_len N (by omega)) (dec_len Dd (by omega)) _) (by kernel_rfl) (.ret (.ret (.sub (.cons (.name rfl) (.cons (.lift H xs (n + 2) k 26 hx (by omega) (by omega) (by kernel_rfl)) .nil)) (prim_lstAt hd rfl (by omega)))))))) .ret
end
end
section
variable [Pm]

noncomputable def absI (x : Int) : Int := if x < 0 then -x else x
theorem pick_to (ds : List PyData) (b : Nat) : pick ds none (some (b : Int)) = ds.take b := by
  have e : pick ds none (some (b : Int)) = pick ds (some ((0 : Nat) : Int)) (some (b : Int)) := by rw [pick_eq, pick_eq, StrLaws.sliceIdx_none_lo]; rfl
  rw [e]
  rcases Nat.le_total b ds.length with h | h
  · rw [pick_nat ds (Nat.zero_le _) h, List.drop_zero, Nat.sub_zero]
  · rw [pick_eq, clip_hi _ h, ← pick_eq, pick_nat ds (Nat.zero_le _) (Nat.le_refl _), List.drop_zero, Nat.sub_zero, List.take_length, List.take_of_length_le h]
/-- the cart at the start -/
noncomputable def cart0 (script : List Int) : Int := (((script.take 40).map absI).sum).fmod 53

section
variable {S : St} {K : Frag} {cR : Addr} {b : Nat}
theorem law_cart (H : Has S K cR) (sx : List Int) (hl : sx.length ≤ 100000) : EvS S b (sk 55) [("script", .list (sx.map .int))] [] (stm 55 0) (.next [("script", .list (sx.map .int))] [("cart", .list (cartD (sx.take 40) 0 (cart0 sx)))]) := by
  obtain ⟨h1, h2⟩ := H.blt (n := "abs") (id := "abs") (by kernel_rfl)
  obtain ⟨h3, h4⟩ := H.blt (n := "sum") (id := "sum") (by kernel_rfl)
  have hz : (sx.map PyData.int).length ≤ sizeLine := by rw [List.length_map]; exact Nat.le_trans hl (by decide)
  have sl : ∀ {p1 p2 p3 p4 : Pos} {k : Nat}, EvE S b (sk 55) [("script", .list (sx.map .int))] [] (.Subscript (.Name "script" p1) (.Slice none (some (.Constant (.int 40) k p2)) none p3) p4) (.ok (.list ((sx.take 40).map .int))) [] := by
    intro p1 p2 p3 p4 k
    have q : EvE S b (sk 55) [("script", .list (sx.map .int))] [] (.Subscript (.Name "script" p1) (.Slice none (some (.Constant (.int 40) k p2)) none p3) p4) _ [] := .lstNS (.cons (.name (d := .list (sx.map .int)) (by kernel_rfl)) (.cons (.cInt (i := ((40 : Nat) : Int))) .nil)) hz
    rw [pick_to, ← List.map_take] at q
    exact q
  have lp : ∀ {p1 p2 p3 p4 : Pos} (ys : List Int), EvL S b (inner { kind := .function, names := [((".0" : Str), .local), (("cell" : Str), .local), (("abs" : Str), .globalImplicit)], isGenerator := false, isCoroutine := false } (sk 55)) [] [] (.Name "cell" p1) (.Call (.Name "abs" p2) [.Name "cell" p3] [] p4) (ys.map .int) (.ok ((ys.map absI).map .int)) [] := by
    intro p1 p2 p3 p4 ys
    induction ys with
    | nil => exact .nil
    | cons y ys ih => exact EvL.cons (.name (by kernel_rfl)) (.callB H.O h1 h2 (by kernel_rfl) (.cons (.name (d := .int y) (by kernel_rfl)) .nil) prim_abs) (ih.weak trivial)
  have hz' : ((sx.take 40).map PyData.int).length ≤ sizeLine := by rw [List.length_map, List.length_take]; exact Nat.le_trans (Nat.min_le_left _ _) (by decide)
  exact .newC (μ' := []) (.cons sl (.cons (.cInt (i := ((0 : Nat) : Int))) (.cons (.bin (.cons (.callB H.O h3 h4 (by kernel_rfl) (.cons (.comp0 (.list sl) (.of (by kernel_rfl)) (by kernel_rfl) (lp _) hz') .nil) prim_sum) (.cons .cInt .nil)) (prim_mod (by omega))) .nil))) (by kernel_rfl) rfl rfl rfl rfl (hz := Nat.le_of_ble_eq_true (by kernel_rfl))
end
end
section
variable [Pm]

/-- the form drawn at the n-th draw -/
noncomputable def formAt (xs : List Int) (n : Nat) (k : Int) (a u : Int) : PyData := ((formD (decT (liftN xs n k 30000)) (decT (liftN xs (n + 1) k 128)) (liftN xs n k 30000) (liftN xs (n + 1) k 128) a u)[liftN xs (n + 2) k 26]?).getD .none
noncomputable def drawnL (xs : List Int) (k : Int) (a u : Int) : Nat → Nat → List PyData
  | _, 0 => []
  | n, m + 1 => formAt xs n k a u :: drawnL xs k a u (n + 3) m

section
variable {S : St} {K : Frag} {cR : Addr} {b : Nat}
theorem form_some (xs : List Int) (n : Nat) (k : Int) (a u : Int) : (formD (decT (liftN xs n k 30000)) (decT (liftN xs (n + 1) k 128)) (liftN xs n k 30000) (liftN xs (n + 1) k 128) a u)[liftN xs (n + 2) k 26]? = some (formAt xs n k a u) := by
  have h := lift_lt xs (n + 2) k (many := 26) (by omega)
  unfold formAt
  have hl : (formD (decT (liftN xs n k 30000)) (decT (liftN xs (n + 1) k 128)) (liftN xs n k 30000) (liftN xs (n + 1) k 128) a u).length = 26 := by
    unfold formD; rw [List.length_map]; rfl
  rw [List.getElem?_eq_getElem (by rw [hl]; exact h)]
  rfl
noncomputable def drS : Scope := lcS (asV (stm 55 2))
theorem drawn_loop (H : Has S K cR) (xs : List Int) (k : Int) (a u : Int) (hx : xs.length ≤ 100000) : ∀ (m i n : Nat), n + 3 * m ≤ 900 → EvL S (b + 2) (inner drS (sk 55)) [("at", .int a), ("unknown", .int u)] [("cart", .list (cartD xs n k))] (lcT (asV (stm 55 2))) (lcE (asV (stm 55 2))) (upFrom i m) (.ok (drawnL xs k a u n m)) [("cart", .list (cartD xs (n + 3 * m) k))]
  | 0, i, n, h => .nil
  | m + 1, i, n, h => by
    have w := w_form (b := b) H xs n k a u hx (by omega) (formAt xs n k a u) (form_some xs n k a u)
    have r := EvL.weak (δ := [("turn", .int i), ("at", .int a), ("unknown", .int u)]) (drawn_loop H xs k a u hx m (i + 1) (n + 3) (by omega)) ⟨by kernel_rfl, by kernel_rfl, trivial⟩
    rw [show n + 3 + 3 * m = n + 3 * (m + 1) by omega] at r
    exact EvL.cons (.name (by kernel_rfl)) (.callR H.O [] [] w (.cons (.name (by kernel_rfl)) (.cons (.name (by kernel_rfl)) .nil)) (by kernel_rfl)) r
theorem law_at (H : Has S K cR) (X : PyData) (xs : List Int) (k : Int) (hx : xs.length ≤ 100000) : EvS S (b + 1) (sk 55) [("script", X)] [("cart", .list (cartD xs 0 k))] (stm 55 1) (.next [("unknown", .int (liftN xs 1 k 500 : Nat)), ("at", .int (liftN xs 0 k 40000 : Nat)), ("script", X)] [("cart", .list (cartD xs 2 k))]) :=
  .tupC (.cons (.lift H xs 0 k 40000 hx (by omega) (by omega) (by kernel_rfl)) (.cons (.lift H xs 1 k 500 hx (by omega) (by omega) (by kernel_rfl)) .nil)) (by kernel_rfl) (by kernel_rfl) (by kernel_rfl) (by kernel_rfl) (by kernel_rfl) (fun env he => by unfold swappedStores Env.blockKind Env.kindOf; rw [he]; kernel_rfl)
end
end
section
variable [Pm]

theorem up_len : ∀ (m i : Nat), (upFrom i m).length = m
  | 0, _ => rfl
  | m + 1, i => congrArg (· + 1) (up_len m (i + 1))
theorem range_ok {m : Nat} (h : m < 4) : Builtin.Range.small 0 m 1 = true ∧ Builtin.Range.rangeSize 0 m 1 = m := by
  match m, h with
  | 0, _ => exact ⟨by kernel_rfl, by kernel_rfl⟩
  | 1, _ => exact ⟨by kernel_rfl, by kernel_rfl⟩
  | 2, _ => exact ⟨by kernel_rfl, by kernel_rfl⟩
  | 3, _ => exact ⟨by kernel_rfl, by kernel_rfl⟩
section
variable {S : St} {K : Frag} {cR : Addr} {b : Nat}
theorem law_drawn (H : Has S K cR) (X : PyData) (xs : List Int) (k : Int) (a u : Int) (hx : xs.length ≤ 100000) : EvS S (b + 2) (sk 55) [("unknown", .int u), ("at", .int a), ("script", X)] [("cart", .list (cartD xs 2 k))] (stm 55 2)
    (.next [("drawn", .list (drawnL xs k a u 3 (liftN xs 2 k 4))), ("unknown", .int u), ("at", .int a), ("script", X)] [("cart", .list (cartD xs (3 + 3 * liftN xs 2 k 4) k))]) := by
  have hm := lift_lt xs 2 k (many := 4) (by omega)
  have L : EvE S (b + 2) (sk 55) [("unknown", .int u), ("at", .int a), ("script", X)] [("cart", .list (cartD xs 2 k))] _ (.ok (.int (liftN xs 2 k 4 : Nat))) [("cart", .list (cartD xs 3 k))] := .lift (b := b + 1) (p1 := ⟨0, 0, 0, 0⟩) (p2 := ⟨0, 0, 0, 0⟩) (p3 := ⟨0, 0, 0, 0⟩) (p4 := ⟨0, 0, 0, 0⟩) (k1 := 0) H xs 2 k 4 hx (by omega) (by omega) (by kernel_rfl)
  clear L
  have key := drawn_loop (b := b) H xs k a u hx (liftN xs 2 k 4) 0 3 (by omega)
  obtain ⟨r1, r2⟩ := range_ok hm
  obtain ⟨h1, h2⟩ := H.bi "range" (.type "range") (by kernel_rfl)
  have cl : ∀ {X : PyData}, Closed (sk 55) [("unknown", .int u), ("at", .int a), ("script", X)] [("cart", .list (cartD xs 2 k))] (freeNames drS) := by
    intro X
    rw [show freeNames drS = (["at", "cart", "unknown"] : List Str) by kernel_rfl]
    exact ⟨by kernel_rfl, .inl (by kernel_rfl), by kernel_rfl, .inr (by kernel_rfl), by kernel_rfl, .inl (by kernel_rfl), trivial⟩
  have sn : ∀ {X : PyData}, Seen drS (sk 55) [("unknown", .int u), ("at", .int a), ("script", X)] [("at", .int a), ("unknown", .int u)] := fun {X} => ⟨by kernel_rfl, by kernel_rfl, by kernel_rfl, by kernel_rfl, trivial⟩
  refine .setComp (.range H.O h1 h2 (by kernel_rfl) (.lift (b := b + 1) H xs 2 k 4 hx (by omega) (by omega) (by kernel_rfl)) r1 r2) (.of (by kernel_rfl)) cl sn key (by rw [up_len]; exact Nat.le_trans (show _ ≤ 4 by omega) (by decide)) (kept_all (fun p hp => ?_) (fun p hp => ?_)) (by kernel_rfl) (by kernel_rfl) (fun env he => ?_) (by intro _ _; kernel_rfl)
  · cases List.mem_singleton.mp hp; kernel_rfl
  · cases List.mem_singleton.mp hp; kernel_rfl
  · unfold swapsWith Env.blockKind Env.kindOf; rw [he]; kernel_rfl
end
end
section
variable [Pm]

/-- a form as a pair -/
noncomputable def formP (xs : List Int) (n : Nat) (k : Int) (a u : Int) : Str × PyData := ((formL (decT (liftN xs n k 30000)) (decT (liftN xs (n + 1) k 128)) (liftN xs n k 30000) (liftN xs (n + 1) k 128) a u)[liftN xs (n + 2) k 26]?).getD ("", .none)
theorem formAt_eq (xs : List Int) (n : Nat) (k : Int) (a u : Int) : formAt xs n k a u = .tuple [.str (formP xs n k a u).1, (formP xs n k a u).2] := by
  have h := lift_lt xs (n + 2) k (many := 26) (by omega)
  unfold formAt formP formD
  rw [List.getElem?_map, List.getElem?_eq_getElem (show _ < (formL _ _ _ _ a u).length from h)]
  rfl
noncomputable def drawnP (xs : List Int) (k : Int) (a u : Int) : Nat → Nat → List (Str × PyData)
  | _, 0 => []
  | n, m + 1 => formP xs n k a u :: drawnP xs k a u (n + 3) m
noncomputable def pairD (ps : List (Str × PyData)) : List PyData := ps.map fun p => .tuple [.str p.1, p.2]
theorem drawn_eq (xs : List Int) (k : Int) (a u : Int) : ∀ (m n : Nat), drawnL xs k a u n m = pairD (drawnP xs k a u n m)
  | 0, _ => rfl
  | m + 1, n => by
    show formAt xs n k a u :: drawnL xs k a u (n + 3) m = .tuple [.str (formP xs n k a u).1, (formP xs n k a u).2] :: pairD (drawnP xs k a u (n + 3) m)
    rw [formAt_eq, drawn_eq xs k a u m (n + 3)]

section
variable {S : St} {K : Frag} {cR : Addr} {b : Nat}
noncomputable def joinE : Expr → Expr
  | .Call _ (e :: _) _ _ => e
  | e => e
theorem told_loop : ∀ ps : List (Str × PyData), EvL S b (inner (lcS (joinE (asV (stm 55 3)))) (sk 55)) [] [] (lcT (joinE (asV (stm 55 3)))) (lcE (joinE (asV (stm 55 3)))) (pairD ps) (.ok ((ps.map (·.1)).map .str)) []
  | [] => .nil
  | p :: ps => by
    have ha : EvA S b (inner (lcS (joinE (asV (stm 55 3)))) (sk 55)) [] [] (lcT (joinE (asV (stm 55 3)))) (.tuple [.str p.1, p.2]) [("due", p.2), ("told", .str p.1)] := .tup [("told", _), ("due", _)] rfl rfl ⟨by kernel_rfl, rfl, by kernel_rfl, rfl, trivial⟩
    exact EvL.cons ha (.name (by kernel_rfl)) (EvL.weak (told_loop ps) trivial)
theorem due_loop : ∀ ps : List (Str × PyData), EvL S b (inner (lcS (asV (stm 55 4))) (sk 55)) [] [] (lcT (asV (stm 55 4))) (lcE (asV (stm 55 4))) (pairD ps) (.ok (ps.map (·.2))) []
  | [] => .nil
  | p :: ps => by
    have ha : EvA S b (inner (lcS (asV (stm 55 4))) (sk 55)) [] [] (lcT (asV (stm 55 4))) (.tuple [.str p.1, p.2]) [("due", p.2), ("told", .str p.1)] := .tup [("told", _), ("due", _)] rfl rfl ⟨by kernel_rfl, rfl, by kernel_rfl, rfl, trivial⟩
    exact EvL.cons ha (.name (by kernel_rfl)) (EvL.weak (due_loop ps) trivial)
noncomputable def sepOf : Nat → Str
  | 0 => ","
  | _ => " , "
theorem law_text (H : Has S K cR) (δ : List (Str × PyData)) (ps : List (Str × PyData)) (xs : List Int) (n : Nat) (k : Int) (hx : xs.length ≤ 100000) (hn : n ≤ 900) (hd : δ.lookup ("drawn" : Str) = some (.list (pairD ps))) (hp : ps.length ≤ 100000)
    (hs : ((ps.map (·.1)).map (·.length)).sum + (ps.map (·.1)).length * (sepOf (liftN xs n k 2)).length ≤ 16777216) : EvS S (b + 1) (sk 55) δ [("cart", .list (cartD xs n k))] (stm 55 3)
    (.next (("text", .str (Txt.join (sepOf (liftN xs n k 2)) (ps.map (·.1)))) :: δ) [("cart", .list (cartD xs (n + 1) k))]) := by
  have hm := lift_lt xs n k (many := 2) (by omega)
  have hz : (pairD ps).length ≤ sizeLine := by unfold pairD; rw [List.length_map]; exact Nat.le_trans hp (by decide)
  have hg : ([.str ",", .str " , "] : List PyData)[liftN xs n k 2]? = some (.str (sepOf (liftN xs n k 2))) := by
    generalize liftN xs n k 2 = j at hm
    match j, hm with
    | 0, _ => rfl
    | 1, _ => rfl
  exact .set (.m1 (.sub (.cons (.ls (.cons .cStr (.cons .cStr .nil))) (.cons (.lift H xs n k 2 hx (by omega) (by omega) (by kernel_rfl)) .nil)) (prim_lstAt hg rfl (by omega))) (.comp0 (.listT (.name hd)) (.of (by kernel_rfl)) (by kernel_rfl) (told_loop ps) hz) (prim_join hs) (gm_join S _)) (by kernel_rfl)
theorem law_due {δ : List (Str × PyData)} {μ : List (Str × Mut)} (ps : List (Str × PyData)) (hd : δ.lookup ("drawn" : Str) = some (.list (pairD ps))) (hp : ps.length ≤ 100000) (hμ : μ.lookup ("due" : Str) = none) : EvS S b (sk 55) δ μ (stm 55 4) (.next (("due", .list (ps.map (·.2))) :: δ) μ) := by
  have hz : (pairD ps).length ≤ sizeLine := by unfold pairD; rw [List.length_map]; exact Nat.le_trans hp (by decide)
  exact .set (.comp0 (.listT (.name hd)) (.of (by kernel_rfl)) (by kernel_rfl) (due_loop ps) hz) (by kernel_rfl) hμ (fun env he => by unfold swapsWith Env.blockKind Env.kindOf; rw [he]; kernel_rfl)
end
end
section
variable [Pm]

noncomputable def lostD : PyData := .tuple [.str "an unknown name: LOST", .bool true, .int 0]
noncomputable def isOk : Option (Except (Bool × Str) (List PyData)) → Bool
  | some (.ok _) => true
  | _ => false
noncomputable def isErr (u : Bool) (t : Str) : Option (Except (Bool × Str) (List PyData)) → Bool
  | some (.error (v, s)) => v == u && s == t
  | _ => false
theorem of_isErr {u : Bool} {t : Str} {r : Option (Except (Bool × Str) (List PyData))} (h : isErr u t r = true) : r = some (.error (u, t)) := by
  match r, h with
  | some (.error (v, s)), h =>
    obtain ⟨h1, h2⟩ := Bool.and_eq_true_iff.mp h
    rw [beq_iff_eq.mp h1, beq_iff_eq.mp h2]
theorem of_isOk {r : Option (Except (Bool × Str) (List PyData))} (h : isOk r = true) : ∃ ds, r = some (.ok ds) := by
  match r, h with
  | some (.ok ds), _ => exact ⟨ds, rfl⟩

section
variable {S : St} {K : Frag} {cR : Addr} {b : Nat}
theorem told_one (H : Has S K cR) {μ : List (Str × Mut)} (hμ : μ.lookup ("told" : Str) = none) {X : Str} (l : List Nat) (hX : X = T l) (hl : Nat.ble l.length 100000 = true) (h1 : isErr true "an unknown name: LOST" (runF 100 150 l knownD 9 none) = true) (h2 : isOk (runF 100 150 l knownD 9 (some 3)) = true) :
    EvA S (b + 165) (sk 55) [] μ (forT (stm 55 6)) (.str X) [("told", .str X)] ∧ EvSs S (b + 165) (sk 55) [("told", .str X)] μ (forB (stm 55 6)) (.next [] μ) := by
  subst hX
  have r1 := of_isErr h1
  obtain ⟨ds, r2⟩ := of_isOk h2
  have hl := Nat.le_of_ble_eq_true hl
  have c1 := w_refusal H 100 150 l none _ r1 hl (by omega) (b + 165) (by omega)
  have c2 := w_refusal H 100 150 l (some 3) _ r2 hl (by omega) (b + 165) (by omega)
  have sh : SeqAt.shaped lostD = true := by kernel_rfl
  refine ⟨.name (by kernel_rfl) hμ, .less (.skip (.or (c := false) (.as (.cmp (.cons (.call H.O c1 (.cons (.name (by kernel_rfl)) (.cons .cNone .nil)) (by kernel_rfl)) (.cons (.tp (.cons .cStr (.cons .cBool (.cons .cInt .nil)))) .nil)) (prim_ne (x := lostD) (y := lostD) sh sh)) (by kernel_rfl)) (.or (c := false) (.cmp (.cons (.call H.O c2 (.cons (.name (by kernel_rfl)) (.cons .cInt .nil)) (by kernel_rfl)) (.cons .cNone .nil)) (prim_isnt (x := .none))) .orNil)) rfl .nil) trivial⟩
theorem law_for (H : Has S K cR) {μ : List (Str × Mut)} (hμ : μ.lookup ("told" : Str) = none) : EvS S (b + 165) (sk 55) [] μ (stm 55 6) (.next [] μ) := by
  obtain ⟨a0, b0⟩ := told_one (b := b) H hμ (X := "lost") [108, 111, 115, 116] (by kernel_rfl) rfl (by kernel_rfl) (by kernel_rfl)
  obtain ⟨a1, b1⟩ := told_one (b := b) H hμ (X := "(LOST)") [40, 76, 79, 83, 84, 41] (by kernel_rfl) rfl (by kernel_rfl) (by kernel_rfl)
  obtain ⟨a2, b2⟩ := told_one (b := b) H hμ (X := "(IX+Lost)") [40, 73, 88, 43, 76, 111, 115, 116, 41] (by kernel_rfl) rfl (by kernel_rfl) (by kernel_rfl)
  obtain ⟨a3, b3⟩ := told_one (b := b) H hμ (X := "1,lost") [49, 44, 108, 111, 115, 116] (by kernel_rfl) rfl (by kernel_rfl) (by kernel_rfl)
  exact .for (.tuple (.tp (.cons .cStr (.cons .cStr (.cons .cStr (.cons .cStr .nil)))))) (.turn a0 b0 (.turn a1 b1 (.turn a2 b2 (.turn a3 b3 .nil))))
/-- the refusals' check -/
noncomputable def wrongOk (p : Str × Str) : Bool := isErr false p.2 (runF 100 150 p.1.cps.toList knownD 9 (some 0)) && Nat.ble p.1.cps.toList.length 100000
theorem wrong_all : wrongL.all wrongOk = true := by kernel_rfl
theorem law_wrong (H : Has S K cR) (xs : List Int) (n : Nat) (k : Int) (hx : xs.length ≤ 100000) (hn : n ≤ 900) : ∃ p : Str × Str, wrongOk p = true ∧ p ∈ wrongL ∧ EvS S (b + 1) (sk 55) [] [("cart", .list (cartD xs n k))] (stm 55 7) (.next [("words", .str p.2), ("row", .str p.1)] [("cart", .list (cartD xs (n + 1) k))]) := by
  have hm := lift_lt xs n k (many := 30) (by omega)
  have hl : liftN xs n k 30 < wrongL.length := hm
  refine ⟨wrongL[liftN xs n k 30], List.all_eq_true.mp wrong_all _ (List.getElem_mem hl), List.getElem_mem hl, ?_⟩
  have hg : wrongD[liftN xs n k 30]? = some (.tuple [.str wrongL[liftN xs n k 30].1, .str wrongL[liftN xs n k 30].2]) := by
    unfold wrongD
    rw [List.getElem?_map, List.getElem?_eq_getElem hl]
    rfl
  exact .unpack (.sub (.cons (.call0 H.O (w_wrong (b := b) H) (by kernel_rfl)) (.cons (.lift H xs n k 30 hx (by omega) (by omega) (by kernel_rfl)) .nil)) (prim_lstAt hg rfl (by omega))) (.tup [("row", _), ("words", _)] rfl rfl ⟨by kernel_rfl, by kernel_rfl, by kernel_rfl, by kernel_rfl, trivial⟩)
end
end
section
variable [Pm]

noncomputable def lastD : List PyData := [.tuple [.str "n", .int 3], .tuple [.str "a", .int 1], .tuple [.str "x", .str "IX", .int (-1)]]
noncomputable def lastT : List Nat := [40, 49, 41, 43, 40, 50, 41, 44, 40, 49, 41, 44, 40, 73, 88, 45, 49, 41]
section
variable {S : St} {K : Frag} {cR : Addr} {b : Nat}
theorem last_run : ∃ ds, runF 100 150 lastT [] 0 none = some (.ok ds) ∧ SeqAt.shaped (.list ds) = true ∧ PyData.eqv (.list ds) (.list lastD) = true := by
  refine ⟨lastD, ?_, by kernel_rfl, by kernel_rfl⟩
  kernel_rfl
theorem law_end (H : Has S K cR) (p : Str × Str) (hp : wrongOk p = true) (hw : SeqAt.shaped (.tuple [.str p.2, .bool false, .int 0]) = true) (he : PyData.eqv (.tuple [.str p.2, .bool false, .int 0]) (.tuple [.str p.2, .bool false, .int 0]) = true) (μ : List (Str × Mut)) (hμ : μ.lookup ("due" : Str) = none) : EvSs S (b + 165) (sk 55) [("words", .str p.2), ("row", .str p.1)] μ ((bd 55).drop 8) (.ret (.bool true) μ) := by
  obtain ⟨h1, h2⟩ := Bool.and_eq_true_iff.mp hp
  have r1 := of_isErr h1
  have c1 := w_refusal H 100 150 p.1.cps.toList (some 0) _ r1 (Nat.le_of_ble_eq_true h2) (by omega) (b + 165) (by omega)
  rw [show tx p.1.cps.toList = .str p.1 from congrArg PyData.str (T_back p.1)] at c1
  obtain ⟨ds, q1, q2, q3⟩ := last_run
  have sh : SeqAt.shaped (.list lastD) = true := by kernel_rfl
  refine .skip (.as (.cmp (.cons (.call H.O c1 (.cons (.name (by kernel_rfl)) (.cons .cInt .nil)) (by kernel_rfl)) (.cons (.tp (.cons (.name rfl) (.cons .cBool (.cons .cInt .nil)))) .nil)) (prim_ne hw hw)) (by show (!(PyData.eqv (.tuple [.str p.2, .bool false, .int 0]) (.tuple [.str p.2, .bool false, .int 0]))) = false; rw [he]; rfl)) rfl ?_
  refine .set (d := .list lastD) (.ls (.cons (.tp (.cons .cStr (.cons .cInt .nil))) (.cons (.tp (.cons .cStr (.cons .cInt .nil))) (.cons (.tp (.cons .cStr (.cons .cStr (.cons .neg1 .nil)))) .nil)))) (by kernel_rfl) ?_ hμ
  refine .ret (.ret ?_)
  rw [← q3]
  exact .cmp (.cons (run_eval H 100 150 lastT [] 0 none (.ok ds) q1 (by decide) (by omega) (by omega) (.cT (by kernel_rfl)) (.dict0 H.O) .cInt .cNone (by kernel_rfl) (by kernel_rfl) (by kernel_rfl)) (.cons (.name rfl) .nil)) (prim_eq q2 sh)
end
end
section
variable [Pm]

noncomputable def lawA (sx : List Int) : Nat := liftN (sx.take 40) 0 (cart0 sx) 40000
noncomputable def lawU (sx : List Int) : Nat := liftN (sx.take 40) 1 (cart0 sx) 500
noncomputable def lawM (sx : List Int) : Nat := liftN (sx.take 40) 2 (cart0 sx) 4
noncomputable def lawP (sx : List Int) : List (Str × PyData) := drawnP (sx.take 40) (cart0 sx) (lawA sx) (lawU sx) 3 (lawM sx)
noncomputable def lawSep (sx : List Int) : Str := sepOf (liftN (sx.take 40) (3 + 3 * lawM sx) (cart0 sx) 2)
noncomputable def lawText (sx : List Int) : Str := Txt.join (lawSep sx) ((lawP sx).map (·.1))
/-- what is left to show: plain facts -/
structure Plain (sx : List Int) : Prop where
  run : ∃ g, g ≤ 200000 ∧ runF g 150 (lawText sx).cps.toList knownD (lawA sx) (some (lawU sx)) = some (.ok ((lawP sx).map (·.2)))
  len : (lawText sx).cps.toList.length ≤ 100000
  fit : (((lawP sx).map (·.1)).map (·.length)).sum + ((lawP sx).map (·.1)).length * (lawSep sx).length ≤ 16777216
  cnt : (lawP sx).length ≤ 100000
  sh : SeqAt.shaped (.list ((lawP sx).map (·.2))) = true
  eqv : PyData.eqv (.list ((lawP sx).map (·.2))) (.list ((lawP sx).map (·.2))) = true
noncomputable def wrongSh (p : Str × Str) : Bool := SeqAt.shaped (.tuple [.str p.2, .bool false, .int 0]) && PyData.eqv (.tuple [.str p.2, .bool false, .int 0]) (.tuple [.str p.2, .bool false, .int 0])

section
variable {S : St} {K : Frag} {cR : Addr} {b : Nat}
theorem w_law (H : Has S K cR) (sx : List Int) (hl : sx.length ≤ 100000) (Pl : Plain sx) : CalN S (b + 166) "law" [.list (sx.map .int)] (.ok (.bool true)) := by
  have hf := H.fn 55 "law" ["script"] (by kernel_rfl)
  have ok : ScOkC (sk 55) ["script"] := .of (by kernel_rfl)
  have hx : (sx.take 40).length ≤ 100000 := by rw [List.length_take]; omega
  have hm := lift_lt (sx.take 40) 2 (cart0 sx) (many := 4) (by omega)
  have s0 := law_cart (b := b + 165) H sx hl
  have s1 := law_at (b := b + 164) H (.list (sx.map .int)) (sx.take 40) (cart0 sx) hx
  have s2 := law_drawn (b := b + 163) H (.list (sx.map .int)) (sx.take 40) (cart0 sx) (lawA sx) (lawU sx) hx
  rw [drawn_eq] at s2
  have s3 := law_text (b := b + 164) H [("drawn", .list (pairD (lawP sx))), ("unknown", .int (lawU sx : Nat)), ("at", .int (lawA sx : Nat)), ("script", .list (sx.map .int))] (lawP sx) (sx.take 40) (3 + 3 * lawM sx) (cart0 sx) hx (by have : lawM sx < 4 := hm; omega) (by kernel_rfl) Pl.cnt Pl.fit
  have s4 := law_due (S := S) (b := b + 165) (δ := [("text", .str (lawText sx)), ("drawn", .list (pairD (lawP sx))), ("unknown", .int (lawU sx : Nat)), ("at", .int (lawA sx : Nat)), ("script", .list (sx.map .int))]) (μ := [("cart", .list (cartD (sx.take 40) (3 + 3 * lawM sx + 1) (cart0 sx)))]) (lawP sx) (by kernel_rfl) Pl.cnt (by kernel_rfl)
  obtain ⟨g, hg, hr⟩ := Pl.run
  have tt : ∀ {δ : List (Str × PyData)} {μ : List (Str × Mut)} {p1 : Pos}, δ.lookup ("text" : Str) = some (.str (lawText sx)) → EvE S (b + 165) (sk 55) δ μ (.Name "text" p1) (.ok (tx (lawText sx).cps.toList)) μ := by
    intro δ μ p1 h
    rw [show tx (lawText sx).cps.toList = .str (lawText sx) from congrArg PyData.str (T_back _)]
    exact .name h
  have s5 : EvT S (b + 165) (sk 55) [("due", .list ((lawP sx).map (·.2))), ("text", .str (lawText sx)), ("drawn", .list (pairD (lawP sx))), ("unknown", .int (lawU sx : Nat)), ("at", .int (lawA sx : Nat)), ("script", .list (sx.map .int))] [("cart", .list (cartD (sx.take 40) (3 + 3 * lawM sx + 1) (cart0 sx)))] (ifT (stm 55 5)) (.ok (!(PyData.eqv (.list ((lawP sx).map (·.2))) (.list ((lawP sx).map (·.2)))))) [("cart", .list (cartD (sx.take 40) (3 + 3 * lawM sx + 1) (cart0 sx)))] :=
    .cmp (.cons (run_eval H g 150 (lawText sx).cps.toList knownD (lawA sx) (some (lawU sx)) (.ok _) hr Pl.len hg (by omega) (tt (by kernel_rfl)) (.dict H.O (kvs := knownD) (by kernel_rfl) (by kernel_rfl) (by decide) (by simp) (hlen := Nat.le_of_ble_eq_true (by kernel_rfl))) (.name (by kernel_rfl)) (.name (by kernel_rfl)) (by kernel_rfl) (by kernel_rfl) (by kernel_rfl)) (.cons (.name (by kernel_rfl)) .nil)) (prim_ne Pl.sh Pl.sh)
  have s6 := law_for (b := b) H (μ := [("cart", .list (cartD (sx.take 40) (3 + 3 * lawM sx + 1) (cart0 sx)))]) (by kernel_rfl)
  obtain ⟨p, hp, hmem, s7⟩ := law_wrong (b := b + 164) H (sx.take 40) (3 + 3 * lawM sx + 1) (cart0 sx) hx (by have : lawM sx < 4 := hm; omega)
  have hs := List.all_eq_true.mp (show wrongL.all wrongSh = true by kernel_rfl) p hmem
  obtain ⟨w1, w2⟩ := Bool.and_eq_true_iff.mp hs
  have s8 := law_end (b := b) H p hp w1 w2 [("cart", .list (cartD (sx.take 40) (3 + 3 * lawM sx + 1 + 1) (cart0 sx)))] (by kernel_rfl)
  exact .mkC H.O hf ok (.ret _ _) (.cons s0 (.cons s1 (.cons s2 (.cons s3 (.cons s4 (.skip s5 (by rw [Pl.eqv]; rfl) (.weak (δ₁ := []) (.cons s6 (.cons s7 s8)) trivial)))))))
end
end
section
variable [Pm]

/-! the plain law: no program in sight -/
/-- the decimal figures -/
noncomputable def dg (n : Nat) : List Nat := (Nat.toDigits 10 n).map Char.toNat
theorem dg_dec (n : Nat) : decT n = T (dg n) := dec_eq n
theorem dg_small {n : Nat} (h : n < 10) : dg n = [n + 48] := by
  unfold dg
  rw [Nat.toDigits_of_lt_base h]
  match n, h with
  | 0, _ => rfl
  | 1, _ => rfl
  | 2, _ => rfl
  | 3, _ => rfl
  | 4, _ => rfl
  | 5, _ => rfl
  | 6, _ => rfl
  | 7, _ => rfl
  | 8, _ => rfl
  | 9, _ => rfl
theorem dg_big {n : Nat} (h : 10 ≤ n) : dg n = dg (n / 10) ++ [n % 10 + 48] := by
  have e := dg_small (n := n % 10) (by omega)
  unfold dg at e ⊢
  rw [Nat.toDigits_of_base_le (by omega) h, List.map_append, ← e, Nat.toDigits_of_lt_base (b := 10) (n := n % 10) (by omega)]
theorem dg_fig (n : Nat) : ∀ c ∈ dg n, 48 ≤ c ∧ c ≤ 57 := by
  induction n using Nat.strongRecOn with
  | ind n ih =>
    intro c hc
    rcases Nat.lt_or_ge n 10 with h | h
    · rw [dg_small h] at hc; cases List.mem_singleton.mp hc; omega
    · rw [dg_big h] at hc
      rcases List.mem_append.mp hc with q | q
      · exact ih _ (by omega) c q
      · cases List.mem_singleton.mp q; omega
theorem dg_ne (n : Nat) : dg n ≠ [] := by
  rcases Nat.lt_or_ge n 10 with h | h
  · rw [dg_small h]; exact List.cons_ne_nil _ _
  · rw [dg_big h]; exact List.append_ne_nil_of_right_ne_nil _ (List.cons_ne_nil _ _)
theorem dg_len {n : Nat} (h : n < 100000) : (dg n).length ≤ 5 := by
  unfold dg
  rw [List.length_map]
  exact (Nat.length_toDigits_le_iff (k := 5) (by omega) (by omega)).mpr (by omega)
theorem dv_app (base : Nat) : ∀ (l m : List Nat) (a : Nat), dv base (l ++ m) a = (dv base l a).bind (dv base m)
  | [], m, a => rfl
  | c :: l, m, a => by
    show (match digs.idxOf? c with | some i => if i < base then dv base (l ++ m) (a * base + i) else none | none => none) = (match digs.idxOf? c with | some i => if i < base then dv base l (a * base + i) else none | none => none).bind (dv base m)
    cases digs.idxOf? c with
    | none => rfl
    | some i =>
      by_cases h : i < base
      · simp only [if_pos h]; exact dv_app base l m _
      · simp only [if_neg h]; rfl
theorem dv_fig {d : Nat} (h : d < 10) (a : Nat) : dv 10 [d + 48] a = some (a * 10 + d) := by
  match d, h with
  | 0, _ => rfl
  | 1, _ => rfl
  | 2, _ => rfl
  | 3, _ => rfl
  | 4, _ => rfl
  | 5, _ => rfl
  | 6, _ => rfl
  | 7, _ => rfl
  | 8, _ => rfl
  | 9, _ => rfl
theorem dg_dv (n : Nat) : dv 10 (dg n) 0 = some n := by
  induction n using Nat.strongRecOn with
  | ind n ih =>
    rcases Nat.lt_or_ge n 10 with h | h
    · rw [dg_small h, dv_fig h]; congr 1; omega
    · rw [dg_big h, dv_app, ih _ (by omega), Option.bind_some, dv_fig (by omega)]; congr 1; omega
theorem dg_val (n : Nat) : dval 10 (dg n) = some n := by
  unfold dval
  rw [show (dg n).isEmpty = false from List.isEmpty_eq_false_iff.mpr (dg_ne n)]
  exact dg_dv n
theorem dg_num (n : Nat) : numOf (dg n) = some n := by
  have h : ((dg n).take 2 == [48, 88]) = false := by
    rw [beq_eq_false_iff_ne]
    intro q
    have := dg_fig n 88 (List.mem_of_mem_take (i := 2) (by rw [q]; exact .tail _ (.head _)))
    omega
  unfold numOf
  rw [h, dg_val]
  rfl
theorem fig_np {c : Nat} (h : 48 ≤ c ∧ c ≤ 57) : np c = true ∧ fg c = true ∧ up c = c := by
  have hf : fg c = true := by unfold fg; rw [decide_eq_true h.1, decide_eq_true h.2]; rfl
  refine ⟨fg_np hf, hf, ?_⟩
  unfold up
  rw [decide_eq_false (show ¬ 97 ≤ c by omega)]
  rfl
/-- no part of a name stands at the head -/
noncomputable def stop : List Nat → Bool
  | [] => true
  | c :: _ => !np c
theorem runs_app : ∀ (l r : List Nat), (∀ c ∈ l, np c = true) → stop r = true → runs (l ++ r) = l.length
  | [], [], _, _ => rfl
  | [], c :: r, _, h => by
    show (if np c = true then runs r + 1 else 0) = 0
    have h : (!np c) = true := h
    rw [Bool.not_eq_true'] at h
    rw [h]; rfl
  | c :: l, r, hl, h => by
    show (if np c = true then runs (l ++ r) + 1 else 0) = _
    rw [if_pos (hl c (.head _)), runs_app l r (fun x q => hl x (.tail _ q)) h]; rfl
theorem map_up : ∀ (l : List Nat), (∀ c ∈ l, up c = c) → l.map up = l
  | [], _ => rfl
  | c :: l, h => by rw [List.map_cons, h c (.head _), map_up l fun x q => h x (.tail _ q)]
theorem toks_cons (f c : Nat) (m : List Nat) (acc : List Tk) : toks (f + 1) (c :: m) acc = if c == 59 then some (.ok acc) else if ws c then toks f m acc else match tokAt c m with
    | .tok t n => toks f ((c :: m).drop n) (acc ++ [t])
    | .bad t => some (.error t) := rfl
/-- a number is one token -/
theorem dg_tok {n : Nat} (hn : n ≤ 65535) {r : List Nat} (hr : stop r = true) (acc : List Tk) (f : Nat) : toks (f + 1) (dg n ++ r) acc = toks f r (acc ++ [.num n]) := by
  have hf := dg_fig n
  have hv := dg_num n
  have hr' := runs_app (dg n) r (fun c q => (fig_np (hf c q)).1) hr
  have hm := map_up (dg n) fun c q => (fig_np (hf c q)).2.2
  cases hd : dg n with
  | nil => exact absurd hd (dg_ne n)
  | cons c m =>
    rw [hd] at hf hv hr' hm
    have hc := hf c (.head _)
    have h59 : (c == 59) = false := by rw [beq_eq_false_iff_ne]; omega
    have h36 : (c == 36) = false := by rw [beq_eq_false_iff_ne]; omega
    have h37 : (c == 37) = false := by rw [beq_eq_false_iff_ne]; omega
    have hw : ws c = false := by
      unfold ws
      rw [decide_eq_false]
      intro q
      simp only [List.mem_cons, List.not_mem_nil, or_false] at q
      omega
    have ht : tokAt c (m ++ r) = .tok (.num n) (m.length + 1) := by
      have hr' : runs (c :: (m ++ r)) = m.length + 1 := hr'
      unfold tokAt
      rw [(fig_np hc).2.1]
      show numAt c (m ++ r) = _
      unfold numAt
      rw [h36, h37, hr']
      show numLx c (m ++ r) (m.length + 1) (numOf ((((c :: m) ++ r).take (c :: m).length).map up)) = _
      rw [List.take_left, hm, hv]
      unfold numLx
      show (if n ≤ 65535 then Lx.tok (.num n) (m.length + 1) else _) = _
      rw [if_pos hn]
    show toks (f + 1) (c :: (m ++ r)) acc = _
    rw [toks_cons, h59, hw, ht]
    show toks f (((c :: m) ++ r).drop (c :: m).length) (acc ++ [.num n]) = _
    rw [List.drop_left]
end
section
variable [Pm]

/-- a text read to the tokens ts in k turns, where what stands behind it is fit -/
noncomputable def Step (k : Nat) (l : List Nat) (ts : List Tk) (P : List Nat → Bool) : Prop := ∀ r, P r = true → ∀ (f : Nat) (acc : List Tk), toks (f + k) (l ++ r) acc = toks f r (acc ++ ts)
noncomputable def anyR : List Nat → Bool := fun _ => true
/-- nothing, a comma or a blank -/
noncomputable def bnd : List Nat → Bool
  | [] => true
  | c :: _ => c == 44 || c == 32
theorem stop_bnd : ∀ {r : List Nat}, bnd r = true → stop r = true
  | [], _ => rfl
  | c :: r, h => by
    have h : (c == 44 || c == 32) = true := h
    rcases (Bool.or_eq_true _ _).mp h with q | q <;> (cases eq_of_beq q; rfl)
noncomputable abbrev ons (ts acc : List Tk) : List Tk := ts.foldl (fun a t => a ++ [t]) acc
theorem ons_eq : ∀ ts acc : List Tk, ons ts acc = acc ++ ts
  | [], acc => (List.append_nil acc).symm
  | t :: ts, acc => by
    show ons ts (acc ++ [t]) = _
    rw [ons_eq ts, List.append_assoc]; rfl
theorem Step.app {k1 k2 : Nat} {l1 l2 : List Nat} {t1 t2 : List Tk} {P1 P2 : List Nat → Bool} (h1 : Step k1 l1 t1 P1) (h2 : Step k2 l2 t2 P2) (hp : ∀ r, P2 r = true → P1 (l2 ++ r) = true) : Step (k2 + k1) (l1 ++ l2) (t1 ++ t2) P2 := by
  intro r hr f acc
  rw [List.append_assoc, ← Nat.add_assoc, h1 _ (hp r hr), h2 r hr, List.append_assoc]
theorem Step.any {k : Nat} {l : List Nat} {ts : List Tk} (h : ∀ (r : List Nat) (f : Nat) (acc : List Tk), toks (f + k) (l ++ r) acc = toks f r (ons ts acc)) : Step k l ts anyR := fun r _ f acc => by rw [h, ons_eq]
theorem Step.bd {k : Nat} {l : List Nat} {ts : List Tk} (h0 : ∀ (f : Nat) (acc : List Tk), toks (f + k) (l ++ []) acc = toks f [] (ons ts acc))
    (h1 : ∀ (r : List Nat) (f : Nat) (acc : List Tk), toks (f + k) (l ++ 44 :: r) acc = toks f (44 :: r) (ons ts acc)) (h2 : ∀ (r : List Nat) (f : Nat) (acc : List Tk), toks (f + k) (l ++ 32 :: r) acc = toks f (32 :: r) (ons ts acc)) : Step k l ts bnd
  | [], _, f, acc => by rw [h0, ons_eq]
  | c :: r, h, f, acc => by
    have h : (c == 44 || c == 32) = true := h
    rcases (Bool.or_eq_true _ _).mp h with q | q
    · cases eq_of_beq q; rw [h1, ons_eq]
    · cases eq_of_beq q; rw [h2, ons_eq]
theorem Step.to {k : Nat} {l : List Nat} {ts : List Tk} (h : Step k l ts anyR) : Step k l ts bnd := fun r _ => h r rfl
theorem Step.dg {n : Nat} (hn : n ≤ 65535) : Step 1 (dg n) [.num n] stop := fun r hr f acc => dg_tok hn hr acc f

/-- no comma stands outside of parentheses, and they close -/
noncomputable def Bal (ts : List Tk) : Prop := ∀ (r : List Tk) (fo : List (List Tk)) (he : List Tk), pcs (ts ++ r) fo he 0 = pcs r fo (he ++ ts) 0
theorem Bal.of {ts : List Tk} (h : ∀ (r : List Tk) (fo : List (List Tk)) (he : List Tk), pcs (ts ++ r) fo he 0 = pcs r fo (ons ts he) 0) : Bal ts := fun r fo he => by rw [h, ons_eq]

/-- a form is read and worked as told -/
structure FormOk (a u : Int) (p : Str × PyData) (l : List Nat) (ts : List Tk) (o : Oper) (k : Nat) : Prop where
  txt : p.1 = T l
  lex : Step k l ts bnd
  bal : Bal ts
  ne : ts ≠ []
  sz : k ≤ 20 ∧ ts.length ≤ 20 ∧ l.length ≤ 30
  opd : operandF 150 ts = some (.ok o)
  wrk : workO 150 knownD a (some u) o = some (.ok p.2)
  lay : p.2.canLay0 = true
  dep : p.2.depth ≤ 10
noncomputable def FormsOk (a u : Int) (p : Str × PyData) : Prop := ∃ l ts o k, FormOk a u p l ts o k
theorem form_c {a u : Int} {s : Str} {d : PyData} (l : List Nat) (ts : List Tk) (o : Oper) (k : Nat) (hs : s = T l := by kernel_rfl)
    (h0 : ∀ (f : Nat) (acc : List Tk), toks (f + k) (l ++ []) acc = toks f [] (ons ts acc) := by intro f acc; kernel_rfl)
    (h1 : ∀ (r : List Nat) (f : Nat) (acc : List Tk), toks (f + k) (l ++ 44 :: r) acc = toks f (44 :: r) (ons ts acc) := by intro r f acc; kernel_rfl)
    (h2 : ∀ (r : List Nat) (f : Nat) (acc : List Tk), toks (f + k) (l ++ 32 :: r) acc = toks f (32 :: r) (ons ts acc) := by intro r f acc; kernel_rfl)
    (hb : ∀ (r : List Tk) (fo : List (List Tk)) (he : List Tk), pcs (ts ++ r) fo he 0 = pcs r fo (ons ts he) 0 := by intro r fo he; kernel_rfl) (hn : ts ≠ [] := by exact List.cons_ne_nil _ _)
    (hz : k ≤ 20 ∧ ts.length ≤ 20 ∧ l.length ≤ 30 := by exact ⟨by decide, Nat.le_of_ble_eq_true (by kernel_rfl), Nat.le_of_ble_eq_true (by kernel_rfl)⟩)
    (ho : operandF 150 ts = some (.ok o) := by kernel_rfl) (hw : workO 150 knownD a (some u) o = some (.ok d) := by kernel_rfl) (hl : d.canLay0 = true := by kernel_rfl) (hd : d.depth ≤ 10 := by exact Nat.le_of_ble_eq_true (by kernel_rfl)) : FormsOk a u (s, d) :=
  ⟨l, ts, o, k, hs, .bd h0 h1 h2, .of hb, hn, hz, ho, hw, hl, hd⟩

theorem f00 {a u : Int} : FormsOk a u ("A", .tuple [.str "r", .str "A"]) := form_c [65] [.name "A"] (.r "A") 1
theorem f01 {a u : Int} : FormsOk a u ("ixh", .tuple [.str "r", .str "IXH"]) := form_c [105, 120, 104] [.name "IXH"] (.r "IXH") 1
theorem f02 {a u : Int} : FormsOk a u ("i", .tuple [.str "r", .str "I"]) := form_c [105] [.name "I"] (.r "I") 1
theorem f03 {a u : Int} : FormsOk a u ("BC", .tuple [.str "p", .str "BC"]) := form_c [66, 67] [.name "BC"] (.p "BC") 1
theorem f04 {a u : Int} : FormsOk a u ("sp", .tuple [.str "p", .str "SP"]) := form_c [115, 112] [.name "SP"] (.p "SP") 1
theorem f05 {a u : Int} : FormsOk a u ("af'", .tuple [.str "p", .str "AF'"]) := form_c [97, 102, 39] [.name "AF'"] (.p "AF'") 1
theorem f06 {a u : Int} : FormsOk a u ("NZ", .tuple [.str "f", .str "NZ"]) := form_c [78, 90] [.name "NZ"] (.f "NZ") 1
theorem f07 {a u : Int} : FormsOk a u ("m", .tuple [.str "f", .str "M"]) := form_c [109] [.name "M"] (.f "M") 1
theorem f08 {a u : Int} : FormsOk a u ("(HL)", .tuple [.str "m", .str "HL"]) := form_c [40, 72, 76, 41] [.sign "(", .name "HL", .sign ")"] (.m "HL") 3
theorem f09 {a u : Int} : FormsOk a u ("( c )", .tuple [.str "m", .str "C"]) := form_c [40, 32, 99, 32, 41] [.sign "(", .name "C", .sign ")"] (.m "C") 5
theorem f10 {a u : Int} : FormsOk a u ("(iy)", .tuple [.str "m", .str "IY"]) := form_c [40, 105, 121, 41] [.sign "(", .name "IY", .sign ")"] (.m "IY") 3
theorem f18 {a u : Int} : FormsOk a u ("'x'", .tuple [.str "n", .int 120]) := form_c [39, 120, 39] [.text "x"] (.text "x") 1
theorem f19 {a u : Int} : FormsOk a u ("\"x'\"", .tuple [.str "n", .int (120 * 256 + 39)]) := form_c [34, 120, 39, 34] [.text "x'"] (.text "x'") 1
theorem f20 {a u : Int} : FormsOk a u ("known", .tuple [.str "n", .int 7]) := form_c [107, 110, 111, 119, 110] [.name "KNOWN"] (.n (.name "KNOWN")) 1
theorem f21 {a u : Int} : FormsOk a u ("(KNOWN)", .tuple [.str "a", .int 7]) := form_c [40, 75, 78, 79, 87, 78, 41] [.sign "(", .name "KNOWN", .sign ")"] (.a (.name "KNOWN")) 3
theorem f23 {a u : Int} : FormsOk a u ("(ix+known)", .tuple [.str "x", .str "IX", .int 7]) := form_c [40, 105, 120, 43, 107, 110, 111, 119, 110, 41] [.sign "(", .name "IX", .sign "+", .name "KNOWN", .sign ")"] (.x "IX" (.two "+" (.num 0) (.name "KNOWN"))) 5
theorem f24 {a u : Int} : FormsOk a u ("lost", .tuple [.str "n", .int u]) := form_c [108, 111, 115, 116] [.name "LOST"] (.n (.name "LOST")) 1
theorem f25 {a u : Int} : FormsOk a u ("(IX+lost)", .tuple [.str "x", .str "IX", .int 0]) := form_c [40, 73, 88, 43, 108, 111, 115, 116, 41] [.sign "(", .name "IX", .sign "+", .name "LOST", .sign ")"] (.x "IX" (.two "+" (.num 0) (.name "LOST"))) 5
end
section
variable [Pm]

theorem form_d {a u : Int} {s : Str} {d : PyData} {l : List Nat} (ts : List Tk) (o : Oper) {k : Nat} (hs : s = T l) (hx : Step k l ts bnd) (hk : k ≤ 20) (hl : l.length ≤ 30) (hw : workO 150 knownD a (some u) o = some (.ok d))
    (hb : ∀ (r : List Tk) (fo : List (List Tk)) (he : List Tk), pcs (ts ++ r) fo he 0 = pcs r fo (ons ts he) 0 := by intro r fo he; kernel_rfl) (hn : ts ≠ [] := by exact List.cons_ne_nil _ _)
    (hz : ts.length ≤ 20 := by exact Nat.le_of_ble_eq_true (by kernel_rfl)) (ho : operandF 150 ts = some (.ok o) := by kernel_rfl) (hla : d.canLay0 = true := by kernel_rfl) (hd : d.depth ≤ 10 := by exact Nat.le_of_ble_eq_true (by kernel_rfl)) : FormsOk a u (s, d) :=
  ⟨l, ts, o, k, hs, hx, .of hb, hn, ⟨hk, hz, hl⟩, ho, hw, hla, hd⟩
theorem s_paren : Step 1 [40] [.sign "("] anyR := .any (by intro r f acc; kernel_rfl)
theorem s_paren2 : Step 2 [40, 40] [.sign "(", .sign "("] anyR := .any (by intro r f acc; kernel_rfl)
theorem s_close : Step 1 [41] [.sign ")"] anyR := .any (by intro r f acc; kernel_rfl)
theorem s_close2 : Step 2 [41, 41] [.sign ")", .sign ")"] anyR := .any (by intro r f acc; kernel_rfl)
theorem s_ix : Step 3 [40, 73, 88, 43] [.sign "(", .name "IX", .sign "+"] anyR := .any (by intro r f acc; kernel_rfl)
theorem s_iy : Step 5 [40, 105, 121, 32, 45, 32] [.sign "(", .name "IY", .sign "-"] anyR := .any (by intro r f acc; kernel_rfl)
theorem s_here : Step 2 [36, 43] [.sign "$", .sign "+"] anyR := .any (by intro r f acc; kernel_rfl)
theorem s_one : Step 3 [41, 43, 49] [.sign ")", .sign "+", .num 1] bnd := .bd (by intro f acc; kernel_rfl) (by intro r f acc; kernel_rfl) (by intro r f acc; kernel_rfl)
theorem s_two : Step 7 [41, 32, 43, 32, 40, 50, 41] [.sign ")", .sign "+", .sign "(", .num 2, .sign ")"] anyR := .any (by intro r f acc; kernel_rfl)
theorem T_wrap {c1 c2 : Str} {l1 l2 : List Nat} (n : Nat) (h1 : c1 = T l1) (h2 : c2 = T l2) : c1 ++ decT n ++ c2 = T ((l1 ++ dg n) ++ l2) := by rw [h1, h2, dg_dec, T_app, T_app]
theorem wrap_len {n : Nat} (hn : n ≤ 65535) {l1 l2 : List Nat} (h : l1.length + l2.length ≤ 25) : ((l1 ++ dg n) ++ l2).length ≤ 30 := by
  have := dg_len (n := n) (by omega)
  rw [List.length_append, List.length_append]; omega
theorem s_wrap {n k1 k2 : Nat} (hn : n ≤ 65535) {l1 l2 : List Nat} {t1 t2 : List Tk} {P : List Nat → Bool} (h1 : Step k1 l1 t1 anyR) (h2 : Step k2 l2 t2 P) (hs : ∀ r, stop (l2 ++ r) = true) : Step (k2 + (1 + k1)) ((l1 ++ dg n) ++ l2) ((t1 ++ [.num n]) ++ t2) P :=
  (h1.app (.dg hn) (fun _ _ => rfl)).app h2 (fun r _ => hs r)

theorem f11 {a u : Int} {D : Nat} (h : D ≤ 127) : FormsOk a u ("(IX+" ++ decT D ++ ")", .tuple [.str "x", .str "IX", .int D]) := by
  refine form_d [.sign "(", .name "IX", .sign "+", .num D, .sign ")"] (.x "IX" (.two "+" (.num 0) (.num D))) (T_wrap D (by kernel_rfl) (by kernel_rfl)) (s_wrap (by omega) s_ix s_close (fun _ => rfl)).to (by decide) (wrap_len (by omega) (by decide)) ?_
  have e : workO 150 knownD a (some u) (.x "IX" (.two "+" (.num 0) (.num D))) = some (.ok (.tuple [.str "x", .str "IX", .int (signedOff ((((0 : Nat) : Int) + (D : Int)).fmod 65536))])) := by kernel_rfl
  have v : signedOff ((((0 : Nat) : Int) + (D : Int)).fmod 65536) = (D : Int) := by
    rw [Int.fmod_eq_of_lt (by omega) (by omega)]
    unfold signedOff
    rw [decide_eq_false (by omega)]
    show ((0 : Nat) : Int) + (D : Int) = D
    omega
  rw [e, v]
theorem f12 {a u : Int} {D : Nat} (h : D ≤ 127) : FormsOk a u ("(iy - " ++ decT D ++ ")", .tuple [.str "x", .str "IY", .int (-(D : Int))]) := by
  refine form_d [.sign "(", .name "IY", .sign "-", .num D, .sign ")"] (.x "IY" (.two "-" (.num 0) (.num D))) (T_wrap D (by kernel_rfl) (by kernel_rfl)) (s_wrap (by omega) s_iy s_close (fun _ => rfl)).to (by decide) (wrap_len (by omega) (by decide)) ?_
  have e : workO 150 knownD a (some u) (.x "IY" (.two "-" (.num 0) (.num D))) = some (.ok (.tuple [.str "x", .str "IY", .int (signedOff ((((0 : Nat) : Int) - (D : Int)).fmod 65536))])) := by kernel_rfl
  have v : signedOff ((((0 : Nat) : Int) - (D : Int)).fmod 65536) = -(D : Int) := by
    rcases Nat.eq_zero_or_pos D with q | q
    · subst q; rfl
    · have q2 : (((0 : Nat) : Int) - (D : Int)).fmod 65536 = 65536 - (D : Int) := by
        rw [show (((0 : Nat) : Int) - (D : Int)) = (65536 - (D : Int)) + 65536 * (-1) by omega, Int.add_mul_fmod_self_left, Int.fmod_eq_of_lt (by omega) (by omega)]
      rw [q2]
      unfold signedOff
      rw [decide_eq_true (by omega)]
      show 65536 - (D : Int) - 65536 = -(D : Int)
      omega
  rw [e, v]
theorem f13 {a u : Int} {N : Nat} (h : N ≤ 30000) : FormsOk a u ("(" ++ decT N ++ ")", .tuple [.str "a", .int N]) :=
  form_d [.sign "(", .num N, .sign ")"] (.a (.num N)) (T_wrap N (by kernel_rfl) (by kernel_rfl)) (s_wrap (by omega) s_paren s_close (fun _ => rfl)).to (by decide) (wrap_len (by omega) (by decide)) (by kernel_rfl)
theorem f14 {a u : Int} {N : Nat} (h : N ≤ 30000) : FormsOk a u ("((" ++ decT N ++ "))", .tuple [.str "a", .int N]) :=
  form_d [.sign "(", .sign "(", .num N, .sign ")", .sign ")"] (.a (.num N)) (T_wrap N (by kernel_rfl) (by kernel_rfl)) (s_wrap (by omega) s_paren2 s_close2 (fun _ => rfl)).to (by decide) (wrap_len (by omega) (by decide)) (by kernel_rfl)
theorem f15 {a u : Int} {N : Nat} (h : N ≤ 30000) : FormsOk a u (decT N, .tuple [.str "n", .int N]) :=
  form_d [.num N] (.n (.num N)) (dg_dec N) (fun r hr => Step.dg (by omega) r (stop_bnd hr)) (by decide) (Nat.le_trans (dg_len (by omega)) (by decide)) (by kernel_rfl)
theorem add_val {N : Nat} (h : N ≤ 30000) {k : Nat} (hk : k ≤ 2) : ((N : Int) + ((k : Nat) : Int)).fmod 65536 = (N : Int) + (k : Int) := Int.fmod_eq_of_lt (by omega) (by omega)
theorem f16 {a u : Int} {N : Nat} (h : N ≤ 30000) : FormsOk a u ("(" ++ decT N ++ ")+1", .tuple [.str "n", .int ((N : Int) + 1)]) := by
  refine form_d [.sign "(", .num N, .sign ")", .sign "+", .num 1] (.n (.two "+" (.num N) (.num 1))) (T_wrap N (by kernel_rfl) (by kernel_rfl)) (s_wrap (by omega) s_paren s_one (fun _ => rfl)) (by decide) (wrap_len (by omega) (by decide)) ?_
  have e : workO 150 knownD a (some u) (.n (.two "+" (.num N) (.num 1))) = some (.ok (.tuple [.str "n", .int (((N : Int) + ((1 : Nat) : Int)).fmod 65536)])) := by kernel_rfl
  rw [e, add_val h (by omega)]
  rfl
theorem f17 {a u : Int} {N : Nat} (h : N ≤ 30000) : FormsOk a u ("(" ++ decT N ++ ") + (2)", .tuple [.str "n", .int ((N : Int) + 2)]) := by
  refine form_d [.sign "(", .num N, .sign ")", .sign "+", .sign "(", .num 2, .sign ")"] (.n (.two "+" (.num N) (.num 2))) (T_wrap N (by kernel_rfl) (by kernel_rfl)) (s_wrap (by omega) s_paren s_two (fun _ => rfl)).to (by decide) (wrap_len (by omega) (by decide)) ?_
  have e : workO 150 knownD a (some u) (.n (.two "+" (.num N) (.num 2))) = some (.ok (.tuple [.str "n", .int (((N : Int) + ((2 : Nat) : Int)).fmod 65536)])) := by kernel_rfl
  rw [e, add_val h (by omega)]
  rfl
theorem f22 {a u : Int} {D : Nat} (h : D ≤ 127) (ha : 0 ≤ a ∧ a < 40000) : FormsOk a u ("$+" ++ decT D, .tuple [.str "n", .int (a + (D : Int))]) := by
  refine form_d [.sign "$", .sign "+", .num D] (.n (.two "+" .here (.num D))) (show ("$+" : Str) ++ decT D = T ([36, 43] ++ dg D) by rw [dg_dec, show ("$+" : Str) = T [36, 43] by kernel_rfl, T_app]) (s_here.app (fun r hr => Step.dg (by omega) r (stop_bnd hr)) (fun _ _ => rfl)) (by decide) ?_ ?_
  · have := dg_len (n := D) (by omega)
    rw [List.length_append]
    show 2 + _ ≤ _
    omega
  · have e : workO 150 knownD a (some u) (.n (.two "+" .here (.num D))) = some (.ok (.tuple [.str "n", .int ((a.fmod 65536 + (D : Int)).fmod 65536)])) := by kernel_rfl
    rw [e, Int.fmod_eq_of_lt ha.1 (by omega), Int.fmod_eq_of_lt (by omega) (by omega)]
theorem forms_ok {a u : Int} {N D : Nat} (h1 : N ≤ 30000) (h2 : D ≤ 127) (ha : 0 ≤ a ∧ a < 40000) : ∀ p ∈ formL (decT N) (decT D) N D a u, FormsOk a u p :=
  List.forall_mem_cons.mpr ⟨f00, List.forall_mem_cons.mpr ⟨f01, List.forall_mem_cons.mpr ⟨f02, List.forall_mem_cons.mpr ⟨f03, List.forall_mem_cons.mpr ⟨f04, List.forall_mem_cons.mpr ⟨f05, List.forall_mem_cons.mpr ⟨f06, List.forall_mem_cons.mpr ⟨f07, List.forall_mem_cons.mpr ⟨f08, List.forall_mem_cons.mpr ⟨f09, List.forall_mem_cons.mpr ⟨f10, List.forall_mem_cons.mpr ⟨(f11 h2), List.forall_mem_cons.mpr ⟨(f12 h2), List.forall_mem_cons.mpr ⟨(f13 h1), List.forall_mem_cons.mpr ⟨(f14 h1), List.forall_mem_cons.mpr ⟨(f15 h1), List.forall_mem_cons.mpr ⟨(f16 h1), List.forall_mem_cons.mpr ⟨(f17 h1), List.forall_mem_cons.mpr ⟨f18, List.forall_mem_cons.mpr ⟨f19, List.forall_mem_cons.mpr ⟨f20, List.forall_mem_cons.mpr ⟨f21, List.forall_mem_cons.mpr ⟨(f22 h2 ha), List.forall_mem_cons.mpr ⟨f23, List.forall_mem_cons.mpr ⟨f24, List.forall_mem_cons.mpr ⟨f25, List.forall_mem_nil _⟩⟩⟩⟩⟩⟩⟩⟩⟩⟩⟩⟩⟩⟩⟩⟩⟩⟩⟩⟩⟩⟩⟩⟩⟩⟩
end
section
variable [Pm]

inductive Formed (a u : Int) : List (Str × PyData) → List (List Nat) → List (List Tk) → List Oper → Prop where
  | nil : Formed a u [] [] [] []
  | cons {p l ts o k ps ls tss os} : FormOk a u p l ts o k → Formed a u ps ls tss os → Formed a u (p :: ps) (l :: ls) (ts :: tss) (o :: os)
theorem formed_of {a u : Int} : ∀ {ps : List (Str × PyData)}, (∀ p ∈ ps, FormsOk a u p) → ∃ ls tss os, Formed a u ps ls tss os
  | [], _ => ⟨_, _, _, .nil⟩
  | p :: ps, h => by
    obtain ⟨l, ts, o, k, hp⟩ := h p (.head _)
    obtain ⟨ls, tss, os, hr⟩ := formed_of fun q hq => h q (.tail _ hq)
    exact ⟨_, _, _, .cons hp hr⟩
noncomputable def jn (sep : List Nat) : List (List Nat) → List Nat
  | [] => []
  | [x] => x
  | x :: y :: r => x ++ (sep ++ jn sep (y :: r))
noncomputable def jt : List (List Tk) → List Tk
  | [] => []
  | [x] => x
  | x :: y :: r => x ++ (Tk.sign "," :: jt (y :: r))
theorem jn_join (sep : List Nat) : ∀ ls : List (List Nat), Txt.join (T sep) (ls.map T) = T (jn sep ls)
  | [] => rfl
  | [x] => by show T x = _; rfl
  | x :: y :: r => by
    have ih := jn_join sep (y :: r)
    unfold Txt.join at ih ⊢
    rw [StrLaws.glued_eq_join] at ih ⊢
    rw [List.map_cons, List.map_cons]
    show T x ++ T sep ++ Str.join (T sep) (T y :: r.map T) = T (x ++ (sep ++ jn sep (y :: r)))
    rw [← List.map_cons, ih, T_app, T_app, List.append_assoc]
variable {a u : Int} {ps : List (Str × PyData)} {ls : List (List Nat)} {tss : List (List Tk)} {os : List Oper}
theorem Formed.fst (h : Formed a u ps ls tss os) : ps.map (·.1) = ls.map T := by
  induction h with
  | nil => rfl
  | cons hp _ ih => rw [List.map_cons, List.map_cons, hp.txt, ih]
theorem Formed.len (h : Formed a u ps ls tss os) : ls.length = ps.length ∧ tss.length = ps.length ∧ os.length = ps.length := by
  induction h with
  | nil => exact ⟨rfl, rfl, rfl⟩
  | cons hp _ ih => exact ⟨congrArg (· + 1) ih.1, congrArg (· + 1) ih.2.1, congrArg (· + 1) ih.2.2⟩
theorem Formed.lex {sep : List Nat} {ks : Nat} (hs : Step ks sep [.sign ","] anyR) (hb : ∀ r, bnd (sep ++ r) = true) (h3 : ks ≤ 3) (h : Formed a u ps ls tss os) : ∃ K, K ≤ 23 * ps.length ∧ ∀ (f : Nat) (acc : List Tk), toks (f + K) (jn sep ls) acc = toks f [] (acc ++ jt tss) := by
  induction h with
  | nil => exact ⟨0, Nat.zero_le _, fun f acc => by rw [show acc ++ jt [] = acc from List.append_nil acc]; rfl⟩
  | @cons p l ts o k ps ls tss os hp hr ih =>
    obtain ⟨K, hK, ih⟩ := ih
    have hk := hp.sz.1
    cases hr with
    | nil =>
      refine ⟨k, by rw [List.length_cons]; omega, fun f acc => ?_⟩
      have := hp.lex [] rfl f acc
      rw [List.append_nil] at this
      exact this
    | @cons p' l' ts' o' k' ps' ls' tss' os' hp' hr' =>
      refine ⟨K + (ks + k), by simp only [List.length_cons] at hK ⊢; omega, fun f acc => ?_⟩
      show toks (f + (K + (ks + k))) (l ++ (sep ++ jn sep (l' :: ls'))) acc = toks f [] (acc ++ (ts ++ (Tk.sign "," :: jt (ts' :: tss'))))
      rw [show f + (K + (ks + k)) = f + K + ks + k by omega, hp.lex _ (hb _), hs _ rfl, ih]
      congr 1
      rw [List.append_assoc, List.append_assoc]; rfl
theorem Formed.parts (h : Formed a u ps ls tss os) : ps ≠ [] → ∀ fo : List (List Tk), pcs (jt tss) fo [] 0 = fo ++ tss := by
  induction h with
  | nil => exact fun q => absurd rfl q
  | @cons p l ts o k ps ls tss os hp hr ih =>
    intro _ fo
    cases hr with
    | nil =>
      have := hp.bal [] fo []
      rw [List.append_nil] at this
      exact this
    | @cons p' l' ts' o' k' ps' ls' tss' os' hp' hr' =>
      show pcs (ts ++ (Tk.sign "," :: jt (ts' :: tss'))) fo [] 0 = _
      rw [hp.bal]
      show pcs (jt (ts' :: tss')) (fo ++ [ts]) [] 0 = _
      rw [ih (List.cons_ne_nil _ _), List.append_assoc]
      rfl
theorem Formed.toksLen (h : Formed a u ps ls tss os) : (jt tss).length ≤ 21 * ps.length ∧ (ps ≠ [] → jt tss ≠ []) := by
  induction h with
  | nil => exact ⟨Nat.zero_le _, fun q => absurd rfl q⟩
  | @cons p l ts o k ps ls tss os hp hr ih =>
    have hz := hp.sz.2.1
    cases hr with
    | nil => exact ⟨by show ts.length ≤ 21 * 1; omega, fun _ => hp.ne⟩
    | @cons p' l' ts' o' k' ps' ls' tss' os' hp' hr' =>
      refine ⟨?_, fun _ q => hp.ne (List.append_eq_nil_iff.mp q).1⟩
      show (ts ++ (Tk.sign "," :: jt (ts' :: tss'))).length ≤ _
      have := ih.1
      rw [List.length_append, List.length_cons]
      simp only [List.length_cons] at this ⊢
      omega
theorem Formed.pieces (h : Formed a u ps ls tss os) : pieces (jt tss) = tss := by
  cases hp : ps with
  | nil => subst hp; cases h; rfl
  | cons p q =>
    have hn : ps ≠ [] := by rw [hp]; exact List.cons_ne_nil _ _
    unfold Mine.pieces
    rw [show (jt tss).isEmpty = false from List.isEmpty_eq_false_iff.mpr (h.toksLen.2 hn)]
    exact h.parts hn []
theorem Formed.opsF (h : Formed a u ps ls tss os) : opsF 150 tss = some (.ok os) := by
  induction h with
  | nil => rfl
  | @cons p l ts o k ps ls tss os hp hr ih =>
    unfold Mine.opsF
    rw [decide_eq_true (Nat.le_trans hp.sz.2.1 (by decide)), hp.opd, ih]
    rfl
theorem Formed.works (h : Formed a u ps ls tss os) : worksF 150 knownD a (some u) os = some (.ok (ps.map (·.2))) := by
  induction h with
  | nil => rfl
  | @cons p l ts o k ps ls tss os hp hr ih =>
    unfold Mine.worksF
    rw [hp.wrk, ih]
    rfl
theorem Formed.textLen {sep : List Nat} (hs : sep.length ≤ 3) (h : Formed a u ps ls tss os) : (jn sep ls).length ≤ 33 * ps.length := by
  induction h with
  | nil => exact Nat.zero_le _
  | @cons p l ts o k ps ls tss os hp hr ih =>
    have hz := hp.sz.2.2
    cases hr with
    | nil => show l.length ≤ 33 * 1; omega
    | @cons p' l' ts' o' k' ps' ls' tss' os' hp' hr' =>
      show (l ++ (sep ++ jn sep (l' :: ls'))).length ≤ _
      rw [List.length_append, List.length_append]
      simp only [List.length_cons] at ih ⊢
      omega
theorem Formed.sum (h : Formed a u ps ls tss os) : ((ps.map (·.1)).map (·.length)).sum ≤ 30 * ps.length := by
  induction h with
  | nil => exact Nat.zero_le _
  | @cons p l ts o k ps ls tss os hp hr ih =>
    have hz := hp.sz.2.2
    rw [List.map_cons, List.map_cons, List.sum_cons, List.length_cons, hp.txt, T_len]
    omega
theorem Formed.lay (h : Formed a u ps ls tss os) : PyData.canLayAll0 (ps.map (·.2)) = true ∧ PyData.depthAll (ps.map (·.2)) ≤ 10 := by
  induction h with
  | nil => exact ⟨rfl, by show 0 ≤ 10; omega⟩
  | @cons p l ts o k ps ls tss os hp hr ih =>
    refine ⟨?_, ?_⟩
    · show (p.2.canLay0 && PyData.canLayAll0 (ps.map (·.2))) = true
      rw [hp.lay, ih.1]; rfl
    · have e : PyData.depthAll (p.2 :: ps.map (·.2)) = max p.2.depth (PyData.depthAll (ps.map (·.2))) := by rw [PyData.depthAll]
      rw [List.map_cons, e]
      have := hp.dep
      have := ih.2
      omega

theorem drawn_forms (xs : List Int) (k : Int) {a u : Int} (ha : 0 ≤ a ∧ a < 40000) : ∀ (m n : Nat), (∀ p ∈ drawnP xs k a u n m, FormsOk a u p) ∧ (drawnP xs k a u n m).length = m
  | 0, n => ⟨(fun _ h => nomatch h), rfl⟩
  | m + 1, n => by
    obtain ⟨h1, h2⟩ := drawn_forms xs k ha m (n + 3)
    refine ⟨List.forall_mem_cons.mpr ⟨?_, h1⟩, congrArg (· + 1) h2⟩
    have b1 := lift_lt xs n k (many := 30000) (by omega)
    have b2 := lift_lt xs (n + 1) k (many := 128) (by omega)
    have b3 := lift_lt xs (n + 2) k (many := 26) (by omega)
    unfold formP
    have hl : liftN xs (n + 2) k 26 < (formL (decT (liftN xs n k 30000)) (decT (liftN xs (n + 1) k 128)) (liftN xs n k 30000) (liftN xs (n + 1) k 128) a u).length := b3
    rw [List.getElem?_eq_getElem hl]
    exact forms_ok (by omega) (by omega) ha _ (List.getElem_mem hl)
noncomputable def sepL : Nat → List Nat
  | 0 => [44]
  | _ => [32, 44, 32]
theorem sep_eq : ∀ n : Nat, sepOf n = T (sepL n)
  | 0 => by kernel_rfl
  | n + 1 => by
    show (" , " : Str) = T [32, 44, 32]
    kernel_rfl
theorem sep_step : ∀ n : Nat, ∃ ks, ks ≤ 3 ∧ Step ks (sepL n) [.sign ","] anyR ∧ (∀ r, bnd (sepL n ++ r) = true) ∧ (sepL n).length ≤ 3
  | 0 => ⟨1, by decide, .any (by intro r f acc; kernel_rfl), fun _ => rfl, by decide⟩
  | n + 1 => ⟨3, by decide, .any (by intro r f acc; show toks (f + 3) ([32, 44, 32] ++ r) acc = _; kernel_rfl), fun _ => rfl, by show 3 ≤ 3; decide⟩
theorem run_of {g f : Nat} {l : List Nat} {D : List (PyData × PyData)} {at' : Int} {un : Option Int} {ts : List Tk} {tss : List (List Tk)} {os : List Oper} {r : Option (Except (Bool × Str) (List PyData))} (h1 : toks g l [] = some (.ok ts)) (l1 : ts.length ≤ 100000) (h2 : pieces ts = tss) (l2 : tss.length ≤ 100000) (h3 : opsF f tss = some (.ok os)) (l3 : os.length ≤ 100000) (h4 : worksF f D at' un os = r) : runF g f l D at' un = r := by
  subst h2
  unfold runF
  rw [h1]
  dsimp only
  rw [decide_eq_true l1, decide_eq_true l2, h3]
  dsimp only
  rw [decide_eq_true l3]
  exact h4
theorem plain (sx : List Int) : Plain sx := by
  have ha := lift_lt (sx.take 40) 0 (cart0 sx) (many := 40000) (by omega)
  have hm : lawM sx < 4 := lift_lt (sx.take 40) 2 (cart0 sx) (many := 4) (by omega)
  have ha' : 0 ≤ ((lawA sx : Nat) : Int) ∧ ((lawA sx : Nat) : Int) < 40000 := ⟨by omega, by have : lawA sx < 40000 := ha; omega⟩
  obtain ⟨d1, d2⟩ := drawn_forms (sx.take 40) (cart0 sx) (u := ((lawU sx : Nat) : Int)) ha' (lawM sx) 3
  have d1 : ∀ p ∈ lawP sx, FormsOk (lawA sx : Nat) (lawU sx : Nat) p := d1
  have d2 : (lawP sx).length = lawM sx := d2
  obtain ⟨ls, tss, os, F⟩ := formed_of d1
  obtain ⟨ks, q1, q2, q3, q4⟩ := sep_step (liftN (sx.take 40) (3 + 3 * lawM sx) (cart0 sx) 2)
  have ht : (lawText sx).cps.toList = jn (sepL (liftN (sx.take 40) (3 + 3 * lawM sx) (cart0 sx) 2)) ls := by
    unfold lawText lawSep
    rw [F.fst, sep_eq, jn_join]
  obtain ⟨K, k1, k2⟩ := F.lex q2 q3 q1
  have t1 := F.toksLen.1
  have L := F.len
  have hrun : runF (1 + K) 150 (lawText sx).cps.toList knownD (lawA sx) (some (lawU sx)) = some (.ok ((lawP sx).map (·.2))) := by
    rw [ht]
    exact run_of (k2 1 []) (show (jt tss).length ≤ 100000 by omega) F.pieces (show tss.length ≤ 100000 by omega) F.opsF (show os.length ≤ 100000 by omega) F.works
  have hlay : PyData.canLay0 (.list ((lawP sx).map (·.2))) = true := by rw [PyData.canLay0]; exact F.lay.1
  refine ⟨⟨1 + K, by omega, hrun⟩, ?_, ?_, by omega, ?_, SeqAt.eqv_refl _ hlay⟩
  · rw [ht]; have := F.textLen q4; omega
  · have := F.sum
    have hs : (lawSep sx).length ≤ 3 := by unfold lawSep; rw [sep_eq, T_len]; exact q4
    rw [List.length_map]
    have h9 : (lawP sx).length * (lawSep sx).length ≤ 3 * 3 := Nat.mul_le_mul (by omega) hs
    omega
  · unfold SeqAt.shaped
    rw [hlay, decide_eq_true]; rfl
    have e : PyData.depth (.list ((lawP sx).map (·.2))) = PyData.depthAll ((lawP sx).map (·.2)) + 1 := by rw [PyData.depth]
    rw [e]
    have := F.lay.2
    omega
end
section

/-! what the head must show of the heap -/
noncomputable def fragOf (h : Heap) (as : List Addr) : Frag := as.filterMap fun a => (h.get? a).map fun o => (a, o)
theorem fragOf_in (h : Heap) : ∀ as : List Addr, (fragOf h as).In h
  | [], a, o, e => by cases e
  | b :: as, a, o, e => by
    unfold fragOf at e
    rw [List.filterMap_cons] at e
    cases hb : h.get? b with
    | none => rw [hb] at e; exact fragOf_in h as a o e
    | some ob =>
      rw [hb] at e
      simp only [Option.map_some, List.lookup] at e
      split at e
      · rename_i q; cases e; rw [beq_iff_eq.mp q]; exact hb
      · exact fragOf_in h as a o e
noncomputable def refOf : Option Value → Option Addr
  | some (.ref a) => some a
  | _ => none
theorem refOf_eq {v : Option Value} {a : Addr} (e : refOf v = some a) : v = some (.ref a) := by
  unfold refOf at e
  split at e
  · cases e; rfl
  · cases e
noncomputable def addrOf (h : Heap) (n : Str) : Option Addr := refOf (h.nsMap mainGlobals n)
noncomputable def around (h : Heap) (C : Addr) : List Addr := C :: (match h.get? C with
  | some ⟨_, _, .cls cd, _⟩ => cd.ns :: (match h.get? cd.ns with
    | some ⟨_, _, .dict es _, _⟩ => es.toList.filterMap fun e => refOf (some e.val)
    | _ => [])
  | _ => [])

/-! data of the top -/
noncomputable def leafD : Value → Option PyData
  | .int i _ => some (.int i)
  | .str x _ => some (.str x)
  | _ => none
noncomputable def allD (f : Value → Option PyData) : List Value → Option (List PyData)
  | [] => some []
  | v :: vs => (f v).bind fun d => (allD f vs).map fun ds => d :: ds
noncomputable def seqOf (h : Heap) (v : Value) : Option (List Value) := (refOf (some v)).bind fun a => (h.get? a).bind fun o => match o.data with
  | .seq vs _ => if decide (o.cls = .type "tuple") then some vs.toList else none
  | _ => none
noncomputable def tupD (h : Heap) (f : Value → Option PyData) (v : Value) : Option PyData := match seqOf h v with
  | some vs => (allD f vs).map .tuple
  | none => f v
noncomputable def topsN : List (Str × PyData) := tops.filter fun p => !(p.1 == ("SAME" : Str))
noncomputable def topD (h : Heap) (p : Str × PyData) : Option PyData := (h.nsMap mainGlobals p.1).bind (tupD h (tupD h leafD))
noncomputable def strOf : Value → Option Str
  | .str x _ => some x
  | _ => none
theorem strOf_eq {v : Value} {x : Str} (e : strOf v = some x) : ∃ t, v = .str x t := by
  cases v <;> cases e
  exact ⟨_, rfl⟩
theorem lookup_mem {β : Type} {n : Str} {d : β} : ∀ {l : List (Str × β)}, l.lookup n = some d → (n, d) ∈ l
  | [], q => by cases q
  | (m, x) :: l, q => by
    simp only [List.lookup] at q
    split at q
    · rename_i z; cases q; rw [beq_iff_eq.mp z]; exact .head _
    · exact .tail _ (lookup_mem q)
noncomputable def sameOf (h : Heap) : List (Int × Option Str × Option Str) := match addrOf h "SAME" with
  | some a => (match h.get? a with
    | some ⟨c, none, .dict es _, sl⟩ => if decide (c = .type "dict") && sl.isEmpty && !(a == sysModules) then es.toList.map fun e => (e.hash, strOf e.key, strOf e.val) else []
    | _ => [])
  | _ => []
noncomputable def sameS : List (Str × Str) := [("=", "EQ"), ("<>", "NE"), ("<", "LT"), ("<=", "LE"), (">", "GT"), (">=", "GE")]
noncomputable def sameV (P : Params) : List (Int × Option Str × Option Str) := sameS.map fun p => (PyData.keyHash P p.1, some p.1, some p.2)
section
variable [Pm]
noncomputable def Snd (h : Heap) (f : Value → Option PyData) : Prop := ∀ v d, f v = some d → ∃ as, Reads h v d as
theorem leaf_snd (h : Heap) : Snd h leafD := by
  intro v d e
  cases v <;> cases e
  · exact ⟨_, .int _ _⟩
  · exact ⟨_, .str _ _⟩
theorem all_snd {h : Heap} {f : Value → Option PyData} (S : Snd h f) : ∀ (vs : List Value) (ds : List PyData), allD f vs = some ds → ∃ as, ReadsAll h vs ds as
  | [], _, e => by cases e; exact ⟨_, .nil⟩
  | v :: vs, _, e => by
    obtain ⟨d, e1, e2⟩ := Option.bind_eq_some_iff.mp e
    obtain ⟨ds, e3, rfl⟩ := Option.map_eq_some_iff.mp e2
    obtain ⟨as, r⟩ := S v d e1
    obtain ⟨bs, q⟩ := all_snd S vs ds e3
    exact ⟨_, .cons r q⟩
theorem tup_snd {h : Heap} {f : Value → Option PyData} (S : Snd h f) : Snd h (tupD h f) := by
  intro v d e
  unfold tupD at e
  split at e
  · rename_i vs hs
    obtain ⟨ds, e1, rfl⟩ := Option.map_eq_some_iff.mp e
    obtain ⟨as, r⟩ := all_snd S vs ds e1
    obtain ⟨a, ha, h1⟩ := Option.bind_eq_some_iff.mp hs
    obtain ⟨o, ho, h2⟩ := Option.bind_eq_some_iff.mp h1
    cases refOf_eq ha
    split at h2
    · rename_i arr n hd
      split at h2
      · rename_i hc; cases h2; exact ⟨_, .tuple ho (of_decide_eq_true hc) hd r⟩
      · cases h2
    · cases h2
  · exact S v d e
theorem kvs_same : ∀ (es : List DictEntry) (ps : List (Str × Str)), (es.map fun e => (e.hash, strOf e.key, strOf e.val)) = (ps.map fun p => (PyData.keyHash Pm.p p.1, some p.1, some p.2)) → KvsAre es (ps.map fun p => (.str p.1, .str p.2))
  | [], [], _ => .nil
  | ⟨hs, k, v⟩ :: es, p :: ps, e => by
    obtain ⟨e1, e2⟩ := List.cons.inj e
    obtain ⟨a1, a2⟩ := Prod.mk.inj e1
    obtain ⟨a2, a3⟩ := Prod.mk.inj a2
    obtain ⟨t, rfl⟩ := strOf_eq a2
    obtain ⟨t', rfl⟩ := strOf_eq a3
    cases a1
    exact .cons (fun _ => .str _ _) (kvs_same es ps e2)
theorem same_nodup : (sameD.map (·.1)).Nodup := by
  have h : (sameS.map (·.1)).Nodup := by decide
  have e : sameD.map (·.1) = (sameS.map (·.1)).map PyData.str := rfl
  rw [e]
  exact List.pairwise_map.mpr (List.Pairwise.imp (fun h e => h (PyData.str.inj e)) h)
theorem same_reads {h : Heap} (e : sameOf h = sameV Pm.p) : ∃ v as, h.nsMap mainGlobals "SAME" = some v ∧ Reads h v (.dict sameD) as := by
  have no : ([] : List (Int × Option Str × Option Str)) ≠ sameV Pm.p := fun q => List.cons_ne_nil _ _ q.symm
  unfold sameOf at e
  split at e
  · rename_i a hn
    split at e
    · rename_i c es n sl ho
      split at e
      · rename_i q
        obtain ⟨q, q3⟩ := Bool.and_eq_true_iff.mp q
        obtain ⟨q1, q2⟩ := Bool.and_eq_true_iff.mp q
        cases of_decide_eq_true q1
        cases Array.isEmpty_iff.mp q2
        exact ⟨_, _, refOf_eq hn, .dict ho (by simpa using q3) (kvs_same _ _ e) same_nodup⟩
      · exact absurd e no
    · exact absurd e no
  · exact absurd e no
theorem tops_reads {h : Heap} (e1 : topsN.map (topD h) = topsN.map fun p => some p.2) (e2 : sameOf h = sameV Pm.p) {n : Str} {d : PyData} (hd : tops.lookup n = some d) : ∃ v as, h.nsMap mainGlobals n = some v ∧ Reads h v d as := by
  cases hs : n == ("SAME" : Str) with
  | true =>
    have q : n = ("SAME" : Str) := beq_iff_eq.mp hs
    have z : tops.lookup ("SAME" : Str) = some (.dict sameD) := by kernel_rfl
    rw [q, z] at hd
    rw [q, ← Option.some.inj hd]
    exact same_reads e2
  | false =>
    have hq := List.map_inj_left.mp e1 _ (List.mem_filter.mpr ⟨lookup_mem hd, by show (!(n == ("SAME" : Str))) = true; rw [hs]; rfl⟩)
    obtain ⟨v, hv, hq⟩ := Option.bind_eq_some_iff.mp hq
    obtain ⟨as, r⟩ := tup_snd (tup_snd (leaf_snd h)) v d hq
    exact ⟨v, as, hv, r⟩
end

/-! functions -/
noncomputable def codeQ (h : Heap) (fd : FuncData) : Option Str := (refOf (some fd.code)).bind fun c => (h.get? c).bind fun o => match o.data with
  | .fields vs => (vs[1]?).bind strOf
  | _ => none
theorem codeQ_rec {h : Heap} {fd : FuncData} {q : Str} (e : codeQ h fd = some q) : h.CodeRec fd.code q := by
  obtain ⟨c, hc, e⟩ := Option.bind_eq_some_iff.mp e
  obtain ⟨o, ho, e⟩ := Option.bind_eq_some_iff.mp e
  split at e
  · rename_i vs hd
    obtain ⟨v, hv, e⟩ := Option.bind_eq_some_iff.mp e
    obtain ⟨t, rfl⟩ := strOf_eq e
    exact ⟨c, o, vs, t, Option.some.inj (refOf_eq hc), ho, hd, hv⟩
  · cases e
noncomputable abbrev FdT := FuncBody × Scope × Arguments × Value × Value × Addr × Addr × List (Str × Addr)
noncomputable def funOf (h : Heap) (f : Addr) : Option FuncData := (h.get? f).bind fun o => match o.data with
  | .func fd => if decide (codeQ h fd = some fd.qualname) then some fd else none
  | _ => none
noncomputable def fdOf (h : Heap) (f : Addr) : Option FdT := (funOf h f).map fun fd => (fd.body, fd.scope, fd.params, fd.defaults, fd.kwdefaults, fd.globals, fd.builtins, fd.closure)
/-- what a def of the text leaves -/
noncomputable def defT (d : DefRec) : FdT := (.stmts d.body, d.scope, d.params, .none, .none, mainGlobals, builtinsNs, [])
/-- how positional arguments are bound -/
noncomputable def Binds (ar : Arguments) (ps : List Str) : Prop := ∀ (fd : FuncData) (vs : List Value), fd.params = ar → fd.defaults = .none → fd.kwdefaults = .none → vs.length = ps.length → bindArgs fd ⟨vs, []⟩ = pure (ps.zip vs)
theorem fdOf_fn {S : St} {h : Heap} (k : ∀ b o, h.get? b = some o → S.B.get? b = some o) {f : Addr} {d : DefRec} {ps : List Str} (e : fdOf h f = some (defT d)) (B : Binds d.params ps) : HasFn S f ps d.body d.scope := by
  obtain ⟨fd, hf, e⟩ := Option.map_eq_some_iff.mp e
  obtain ⟨o, ho, hf⟩ := Option.bind_eq_some_iff.mp hf
  obtain ⟨e1, e⟩ := Prod.mk.inj e
  obtain ⟨e2, e⟩ := Prod.mk.inj e
  obtain ⟨e3, e⟩ := Prod.mk.inj e
  obtain ⟨e4, e⟩ := Prod.mk.inj e
  obtain ⟨e5, e⟩ := Prod.mk.inj e
  obtain ⟨e6, e⟩ := Prod.mk.inj e
  obtain ⟨e7, e8⟩ := Prod.mk.inj e
  split at hf
  · rename_i fd' hd
    split at hf
    · rename_i q
      cases hf
      exact ⟨o, fd, k _ _ ho, hd, (codeQ_rec (of_decide_eq_true q)).keeps k, e1, e2, e6, e7, e8, fun s vs hl => .of_eq (B fd vs e3 e4 e5 hl)⟩
    · cases hf
  · cases hf
theorem take4 : ∀ vs : List Value, vs.length ≤ 4 → ∃ v1 v2 v3 v4, vs = [v1, v2, v3, v4].take vs.length
  | [], _ => ⟨.none, .none, .none, .none, rfl⟩
  | [a], _ => ⟨a, .none, .none, .none, rfl⟩
  | [a, b], _ => ⟨a, b, .none, .none, rfl⟩
  | [a, b, c], _ => ⟨a, b, c, .none, rfl⟩
  | [a, b, c, d], _ => ⟨a, b, c, d, rfl⟩
  | _ :: _ :: _ :: _ :: _ :: _, h => absurd h (by simp)
noncomputable def names (d : DefRec) : List Str := (argNames d).2
noncomputable def defIdx : List Nat := (List.range 56).filter fun i => (fh i).isSome
/-- every def that the law reaches: the text's, the Reader's, the errors' -/
noncomputable def allDefs : List DefRec := defIdx.map dr ++ ((List.range 6).map mr ++ [(inCls 11 0).getD noDef])
theorem binds_all (n q : Str) (b : FuncBody) (s : Scope) (g : Addr) (c : List (Str × Addr)) (d p : Value) (an : Option Addr) (cd ct : Value) (bn : Addr) (v1 v2 v3 v4 : Value) :
    (allDefs.map fun i => bindArgs ⟨n, q, i.params, b, s, g, c, .none, .none, d, p, an, cd, ct, bn⟩ ⟨[v1, v2, v3, v4].take (names i).length, []⟩) = allDefs.map fun i => pure ((names i).zip ([v1, v2, v3, v4].take (names i).length)) := by kernel_rfl
theorem binds_of {d : DefRec} (hi : d ∈ allDefs) : Binds d.params (names d) := by
  intro fd vs h1 h2 h3 hv
  obtain ⟨n, q, a, b, s, g, c, df, kd, dd, p, an, cd, ct, bn⟩ := fd
  cases h1; cases h2; cases h3
  have h4 := Nat.le_of_ble_eq_true (List.all_eq_true.mp (show allDefs.all (fun i => Nat.ble (names i).length 4) = true by kernel_rfl) d hi)
  obtain ⟨v1, v2, v3, v4, hvs⟩ := take4 vs (hv ▸ h4)
  rw [hv] at hvs
  rw [hvs]
  exact List.map_inj_left.mp (binds_all n q b s g c dd p an cd ct bn v1 v2 v3 v4) d hi
end
section

noncomputable def k4Of (sl : List (Option Value)) : Bool := match sl with
  | [_, _, _, _, k4, _] => decide (k4 = some (.builtin "Exception.__new__"))
  | _ => false
noncomputable def clsObjOk (o : Option Obj) (C : Addr) (bm : List Value) : Bool := match o with
  | some ⟨c, _, .cls cd, sl⟩ => decide (c = .type "type") && (decide (cd.mro = .ref C :: bm) && (cd.hasDict && (!cd.hasDel && k4Of sl.toList)))
  | _ => false
theorem k4_of {sl : Array (Option Value)} (e : k4Of sl.toList = true) : ∃ k0 k1 k2 k3 k5, sl = #[k0, k1, k2, k3, some (.builtin "Exception.__new__"), k5] := by
  obtain ⟨l⟩ := sl
  have e : k4Of l = true := e
  unfold k4Of at e
  split at e
  · rename_i k0 k1 k2 k3 k4 k5 _
    rw [of_decide_eq_true e]
    exact ⟨k0, k1, k2, k3, k5, rfl⟩
  · cases e
theorem clsObj_of {o : Option Obj} {C : Addr} {bm : List Value} (e : clsObjOk o C bm = true) : ∃ nm q N bs sn sub ab col dd k0 k1 k2 k3 k5, o = some (excClassObj nm q C N bs bm true sn sub ab col dd k0 k1 k2 k3 k5 "Exception.__new__") := by
  unfold clsObjOk at e
  split at e
  · rename_i c dd cd sl
    obtain ⟨e1, e⟩ := Bool.and_eq_true_iff.mp e
    obtain ⟨e2, e⟩ := Bool.and_eq_true_iff.mp e
    obtain ⟨e3, e⟩ := Bool.and_eq_true_iff.mp e
    obtain ⟨e4, e5⟩ := Bool.and_eq_true_iff.mp e
    obtain ⟨k0, k1, k2, k3, k5, rfl⟩ := k4_of e5
    refine ⟨cd.name, cd.qualname, cd.ns, cd.bases, cd.slotNames, cd.subclasses, cd.abstract, cd.collection, dd, k0, k1, k2, k3, k5, ?_⟩
    show some (⟨c, dd, .cls ⟨cd.name, cd.bases, cd.mro, cd.ns, cd.qualname, cd.hasDict, cd.slotNames, cd.subclasses, cd.abstract, cd.collection, cd.hasDel⟩, _⟩ : Obj) = _
    rw [of_decide_eq_true e1, of_decide_eq_true e2, e3, (Bool.not_eq_true' _).mp e4]
  · cases e
noncomputable abbrev excP (K : Frag) (C fI : Addr) : Prop :=
  findIn K (.ref C) "__init__" = some (some (.ref fI)) ∧ findIn K (.ref C) "__getattribute__" = some (some (.builtin "BaseException.__getattribute__")) ∧ findIn K (.ref C) "__getattr__" = some none ∧
  findIn K (.ref C) "__setattr__" = some (some (.builtin "object.__setattr__")) ∧ findIn K (.ref C) "row" = some none ∧ findIn K (.ref C) "text" = some none ∧ (instIn K (.ref C) (.type "type") = some true ∧
  instIn K (.ref C) (.type "tuple") = some false) ∧ mroIn K C (.type "BaseException") = some true ∧ keepIn K (.ref C) = true
noncomputable abbrev relP (K : Frag) (A U fI : Addr) : Prop :=
  typeIn K (.ref fI) = some (.type "function") ∧ mroIn K A (.ref A) = some true ∧ mroIn K A (.ref U) = some false ∧ mroIn K U (.ref A) = some true ∧ mroIn K U (.ref U) = some true ∧
  A ≠ U ∧ typeIn K (.ref U) = some (.type "type") ∧ (clsIn K U).isSome = true ∧
  findIn K (.ref A) "__class__" = some (some (.builtin "object.__class__")) ∧ specialIn K (.builtin "object.__class__") "__get__" = some (some (.builtin "getset_descriptor.__get__")) ∧ takesIn K (.builtin "object.__class__") = some true ∧
  mroIn K A (.type "object") = some true
noncomputable abbrev instP (K : Frag) (C : Addr) : Prop :=
  (clsIn K C).any (·.hasDict) = true ∧ findIn K (.ref C) "__getattribute__" = some (some (.builtin "object.__getattribute__")) ∧ findIn K (.ref C) "__getattr__" = some none ∧
  findIn K (.ref C) "__setattr__" = some (some (.builtin "object.__setattr__")) ∧ plainOver K C = true ∧ makesIn K C = true ∧ keepIn K (.ref C) = true ∧
  (["tokens", "at", "depth", "operators"] : List Str).all (fun n => decide (findIn K (.ref C) n = some none)) = true
noncomputable abbrev chkP (K : Frag) (A U R fI : Addr) : Prop :=
  clsObjOk (K.lookup A) A bmE = true ∧ clsObjOk (K.lookup U) U (.ref A :: bmE) = true ∧ excP K A fI ∧ excP K U fI ∧ relP K A U fI ∧ instP K R
noncomputable def chk (K : Frag) (A U R fI : Addr) : Bool :=
  clsObjOk (K.lookup A) A bmE && (clsObjOk (K.lookup U) U (.ref A :: bmE) && (decide (excP K A fI) && (decide (excP K U fI) && (decide (relP K A U fI) && decide (instP K R)))))
theorem and_of {a b : Bool} {p q : Prop} (f : a = true → p) (g : b = true → q) (h : (a && b) = true) : p ∧ q := (Bool.and_eq_true_iff.mp h).imp f g
theorem chk_of {K : Frag} {A U R fI : Addr} : chk K A U R fI = true → chkP K A U R fI := and_of id (and_of id (and_of of_decide_eq_true (and_of of_decide_eq_true (and_of of_decide_eq_true of_decide_eq_true))))
noncomputable def methAt (K : Frag) (R : Addr) (n : Str) : Option Addr := ((findIn K (.ref R) n).bind refOf).bind fun f => if decide (typeIn K (.ref f) = some (.type "function")) then some f else none
noncomputable abbrev Obs := Option (Bool × List (Int × Option Str × Option Str) × List (Option PyData) × List (Option FdT) × List (Option FdT) × Option FdT)
noncomputable def obsK (h : Heap) (K : Frag) (A U R : Addr) : Obs := ((findIn K (.ref A) "__init__").bind refOf).map fun fI =>
  (chk K A U R fI && (h.isNs mainGlobals && (h.get? sysModules).isSome), sameOf h, topsN.map (topD h), defIdx.map (fun i => (addrOf h (dr i).name).bind (fdOf h)), (List.range 6).map (fun j => (methAt K R (mr j).name).bind (fdOf h)), fdOf h fI)
noncomputable def obsH (h : Heap) : Obs := (addrOf h "AsmError").bind fun A => (addrOf h "Unknown").bind fun U => (addrOf h "Reader").bind fun R => obsK h (fragOf h (around h A ++ (around h U ++ around h R))) A U R
noncomputable def iDef : DefRec := (inCls 11 0).getD noDef
noncomputable def valH (P : Params) : Obs := some (true, sameV P, topsN.map (fun p => some p.2), defIdx.map (fun i => some (defT (dr i))), (List.range 6).map (fun j => some (defT (mr j))), some (defT iDef))
structure Seen0 (P : Params) (h : Heap) (K : Frag) (A U R fI : Addr) : Prop where
  X : K.In h
  gA : h.nsMap mainGlobals "AsmError" = some (.ref A)
  gU : h.nsMap mainGlobals "Unknown" = some (.ref U)
  gR : h.nsMap mainGlobals "Reader" = some (.ref R)
  c : chkP K A U R fI
  ns : h.isNs mainGlobals = true ∧ (h.get? sysModules).isSome = true
  same : sameOf h = sameV P
  tops : topsN.map (topD h) = topsN.map fun p => some p.2
  fns : defIdx.map (fun i => (addrOf h (dr i).name).bind (fdOf h)) = defIdx.map fun i => some (defT (dr i))
  meths : (List.range 6).map (fun j => (methAt K R (mr j).name).bind (fdOf h)) = (List.range 6).map fun j => some (defT (mr j))
  init : fdOf h fI = some (defT iDef)
theorem seen_of {P : Params} {h : Heap} (e : obsH h = valH P) : ∃ K A U R fI, Seen0 P h K A U R fI := by
  obtain ⟨A, hA, e⟩ := Option.bind_eq_some_iff.mp e
  obtain ⟨U, hU, e⟩ := Option.bind_eq_some_iff.mp e
  obtain ⟨R, hR, e⟩ := Option.bind_eq_some_iff.mp e
  obtain ⟨fI, hf, e⟩ := Option.map_eq_some_iff.mp e
  obtain ⟨e1, e⟩ := Prod.mk.inj e
  obtain ⟨e2, e⟩ := Prod.mk.inj e
  obtain ⟨e3, e⟩ := Prod.mk.inj e
  obtain ⟨e4, e⟩ := Prod.mk.inj e
  obtain ⟨e5, e6⟩ := Prod.mk.inj e
  obtain ⟨c, e1⟩ := Bool.and_eq_true_iff.mp e1
  exact ⟨_, A, U, R, fI, fragOf_in h _, refOf_eq hA, refOf_eq hU, refOf_eq hR, chk_of c, Bool.and_eq_true_iff.mp e1, e2, e3, e4, e5, e6⟩

theorem body_len : pw.main.body.length = 56 := by kernel_rfl
theorem fh_dr {i : Nat} {n : Str} {ps : List Str} (h : fh i = some (n, ps)) : i ∈ defIdx ∧ argNames (dr i) = (n, ps) := by
  have hi : i < 56 := by
    rcases Nat.lt_or_ge i 56 with z | z
    · exact z
    · unfold fh dAt at h
      rw [List.getElem?_eq_none (body_len ▸ z)] at h
      cases h
  refine ⟨List.mem_filter.mpr ⟨List.mem_range.mpr hi, by rw [h]; rfl⟩, ?_⟩
  obtain ⟨d, hd, e⟩ := Option.map_eq_some_iff.mp h
  unfold dr
  rw [hd]
  exact e
theorem mh_mr {j : Nat} {n : Str} {ps : List Str} (h : mh j = some (n, ps)) : j ∈ List.range 6 ∧ argNames (mr j) = (n, ps) := by
  have hj : j < 6 := by
    rcases Nat.lt_or_ge j 6 with z | z
    · exact z
    · obtain ⟨j, rfl⟩ : ∃ i, j = i + 6 := ⟨j - 6, by omega⟩
      rw [show mh (j + 6) = none by kernel_rfl] at h
      cases h
  refine ⟨List.mem_range.mpr hj, ?_⟩
  obtain ⟨d, hd, e⟩ := Option.map_eq_some_iff.mp h
  unfold mr
  rw [hd]
  exact e
section
variable [Pm] {S : St} {K : Frag} {A U R fI : Addr} {h : Heap}
theorem excC_of {C : Addr} {bm : List Value} (h1 : clsObjOk (K.lookup C) C bm = true) (h2 : excP K C fI) (ht : typeIn K (.ref fI) = some (.type "function"))
    (hb : bm.contains (.type "Exception") = true ∧ bm.contains (.type "AttributeError") = false ∧ bm.contains (.type "NameError") = false ∧ bm.contains (.type "BaseException") = true ∧ bm.contains (.type "object") = true)
    (hp : ∀ self, refuseLoop self "__setattr__" (.ref C :: bm) = pure ()) : ExcC K C bm fI :=
  ⟨clsObj_of h1, hb.1, hb.2.1, hb.2.2.1, hb.2.2.2.1, hb.2.2.2.2, hp, h2.1, ht, .inr h2.2.1, h2.2.2.1, .inl h2.2.2.2.1, h2.2.2.2.2.1, h2.2.2.2.2.2.1⟩
theorem excA_of {C : Addr} (h1 : clsObjOk (K.lookup C) C bmE = true) (h2 : excP K C fI) (ht : typeIn K (.ref fI) = some (.type "function")) : ExcC K C bmE fI :=
  excC_of h1 h2 ht (by decide) (fun self => by rw [refuseLoop_ref]; kernel_rfl)
theorem excB_of {C D : Addr} (h1 : clsObjOk (K.lookup C) C (.ref D :: bmE) = true) (h2 : excP K C fI) (ht : typeIn K (.ref fI) = some (.type "function")) : ExcC K C (.ref D :: bmE) fI :=
  excC_of h1 h2 ht ⟨by kernel_rfl, by kernel_rfl, by kernel_rfl, by kernel_rfl, by kernel_rfl⟩ (fun self => by rw [refuseLoop_ref, refuseLoop_ref]; kernel_rfl)
theorem init_is : InitIs iDef.body := ⟨_, _, _, _, _, _, _, _, rfl⟩
theorem init_sc : ScOk iDef.scope ["self", "row", "text"] := .of (by kernel_rfl)
theorem init_binds : Binds iDef.params ["self", "row", "text"] := binds_of (d := iDef) (List.mem_append_right _ (List.mem_append_right _ (.head _)))
theorem excS_of (X : K.In S.B) (HF : HasFn S fI ["self", "row", "text"] iDef.body iDef.scope) (c : chkP K S.cA S.cU R fI) : ExcS S K :=
  ⟨X, ⟨fI, iDef.body, iDef.scope, HF, init_sc, init_is, excA_of c.1 c.2.2.1 c.2.2.2.2.1.1, excB_of c.2.1 c.2.2.2.1 c.2.2.2.2.1.1⟩, c.2.2.1.2.2.2.1, c.2.2.2.1.2.2.2.1⟩
theorem excT_of (E : ExcS S K) (a : excP K S.cA fI) (u : excP K S.cU fI) (r : relP K S.cA S.cU fI) : ExcT S K :=
  { E with gA := a.2.1, gU := u.2.1, tyA := a.2.2.2.2.2.2.1, tyU := u.2.2.2.2.2.2.1, mAA := r.2.1, mAU := r.2.2.1, mUA := r.2.2.2.1, mUU := r.2.2.2.2.1, bA := a.2.2.2.2.2.2.2.1, bU := u.2.2.2.2.2.2.2.1 }
theorem excU_of (E : ExcT S K) (r : relP K S.cA S.cU fI) : ExcU S K :=
  { E with ca := have z := r.2.2.2.2.2.2.2.2; ⟨z.1, z.2.1, z.2.2.1, z.2.2.2⟩, ne := r.2.2.2.2.2.1, tyV := r.2.2.2.2.2.2.1, clV := r.2.2.2.2.2.2.2.1 }
theorem inst_of (c : instP K R) : InstK K R := by
  refine ⟨?_, c.2.1, c.2.2.1, c.2.2.2.1, c.2.2.2.2.1⟩
  have i1 := c.1
  cases hc : clsIn K R with
  | none => rw [hc] at i1; cases i1
  | some cd => rw [hc] at i1; exact ⟨cd, rfl, i1⟩
theorem meth_of (Z : Seen0 Pm.p h K A U R fI) (k : ∀ b o, h.get? b = some o → S.B.get? b = some o) (j : Nat) (n : Str) (ps : List Str) (hm : mh j = some (n, ps)) : FnM S K R n ps (mbd j) (msk j) := by
  obtain ⟨hj, hn⟩ := mh_mr hm
  obtain ⟨f, hf, e⟩ := Option.bind_eq_some_iff.mp (List.map_inj_left.mp Z.meths j hj)
  obtain ⟨f', hf', e'⟩ := Option.bind_eq_some_iff.mp hf
  obtain ⟨v, hv, e''⟩ := Option.bind_eq_some_iff.mp hf'
  split at e'
  · rename_i ht
    cases e'
    have B := binds_of (d := mr j) (List.mem_append_right _ (List.mem_append_left _ (List.mem_map_of_mem hj)))
    unfold names at B
    rw [hn] at B
    rw [refOf_eq e'', show (mr j).name = n from congrArg (·.1) hn] at hv
    exact ⟨f, hv, of_decide_eq_true ht, fdOf_fn k e B⟩
  · cases e'
theorem fn_of (Z : Seen0 Pm.p h K A U R fI) (k : ∀ b o, h.get? b = some o → S.B.get? b = some o) (hm : h.nsMap mainGlobals = S.mg) (i : Nat) (n : Str) (ps : List Str) (hi : fh i = some (n, ps)) : FnN S n ps (bd i) (sk i) := by
  obtain ⟨d1, hn⟩ := fh_dr hi
  obtain ⟨f, hf, e⟩ := Option.bind_eq_some_iff.mp (List.map_inj_left.mp Z.fns i d1)
  have B := binds_of (d := dr i) (List.mem_append_left _ (List.mem_map_of_mem d1))
  unfold names at B
  rw [hn] at B
  have hf := refOf_eq hf
  rw [show (dr i).name = n from congrArg (·.1) hn, hm] at hf
  exact ⟨f, hf, fdOf_fn k e B⟩
end
end
section
noncomputable def q : Program := view pw [55]
noncomputable def nmOf : Stmt → List Str
  | .FunctionDef n .. | .ClassDef n .. => [n]
  | .Assign [.Name n _] _ _ => [n]
  | _ => []
noncomputable def loose : List Str := (((pw.main.body.take 55).flatMap nmOf).filter fun n => n != "__name__")
noncomputable abbrev seeS (s : Shared) := (openSeen q loose (importedModules pw.main.body) (fun s => xlAt q [] s && recOk [] s) true s, obsH s.heap)
theorem leftF (w : World) : (fencedOpening treeTable pw w 4606).map (fun s₀ => (topFrom treeTable pw (w.withFollow "special-get-raises" false) 4606 s₀).map seeS) = some (some (openGood q loose, valH (w.withFollow "special-get-raises" false).params)) := by
  unfold fencedOpening topFrom seeS
  rw [PySem.W.Fast.te10274390034422433532, PySem.W.Fast.te1435165496053646825, PySem.W.Fast.te14082659384304107361, PySem.W.Fast.te14289696077712309145, PySem.W.Fast.te14364793385576792824, PySem.W.Fast.te4187177175401517315, PySem.W.Fast.te5923862056798008813]
  kernel_rfl
theorem leftT (w : World) : (fencedOpening treeTable pw w 4606).map (fun s₀ => (topFrom treeTable pw (w.withFollow "special-get-raises" true) 4606 s₀).map seeS) = some (some (openGood q loose, valH (w.withFollow "special-get-raises" true).params)) := by
  unfold fencedOpening topFrom seeS
  rw [PySem.W.Fast.te10274390034422433532, PySem.W.Fast.te1435165496053646825, PySem.W.Fast.te14082659384304107361, PySem.W.Fast.te14289696077712309145, PySem.W.Fast.te14364793385576792824, PySem.W.Fast.te4187177175401517315, PySem.W.Fast.te5923862056798008813]
  kernel_rfl
theorem both {α β γ : Type} {o : Option α} {f : α → β} {g : α → γ} {a : β} {b : γ} (h1 : o.map f = some a) (h2 : o.map g = some b) : o.map (fun x => (f x, g x)) = some (a, b) := by
  cases o with
  | none => cases h1
  | some x => cases h1; cases h2; rfl
theorem left : LeftO pw q loose (fun s => xlAt q [] s && recOk [] s) (fun s => obsH s.heap) (fun w => valH w.params) 4606 :=
  LeftO.of_split "special-get-raises" fun w => both (leftF w) (leftT w)
end
section
theorem said : PySem.Challenge.rw_pq1456_01.wellSaid = true :=
  (congrFun PySem.W.Fast.te9446332074065402090 PySem.Challenge.rw_pq1456_01).trans (by kernel_rfl)
end
section

noncomputable abbrev rw0 := PySem.Challenge.rw_pq1456_01
noncomputable abbrev XP0 := XL q []
noncomputable def YP0 (w : World) (h : Heap) : Prop := ∃ B : Heap, obsH B = valH w.params ∧ ∀ b o, B.get? b = some o → h.get? b = some o
theorem bis_free : bis.all (fun p => !startupNames.contains p.1 && !(looseW q loose).contains p.1 && !((recsOf q).map (·.name)).contains p.1 && !((litsOf q).map (·.1)).contains p.1 && !((clssOf q (looseW q loose)).map (·.name)).contains p.1 && !(p.1 == ("__name__" : Str)) && decide (bootBuiltins p.1 = some p.2)) = true := by kernel_rfl
theorem bis_of {mean : ExcName → Option Value} {mg mb : Str → Option Value} {h : Heap} (T : Top q (looseW q loose) mean mg mb h) {n : Str} {v : Value} (hb : bis.lookup n = some v) : mg n = none ∧ mb n = some v := by
  have a := List.all_eq_true.mp bis_free _ (lookup_mem hb)
  simp only [Bool.and_eq_true, Bool.not_eq_true', List.contains_eq_mem, decide_eq_false_iff_not, decide_eq_true_eq, beq_eq_false_iff_ne] at a
  exact ⟨T.free n a.1.1.1.1.1.1 a.1.1.1.1.1.2 a.1.1.1.1.2 a.1.1.1.2 a.1.1.2, (T.builtins n a.1.2).trans a.2⟩
theorem has_seen [Pm] {S : St} {mean : ExcName → Option Value} {B : Heap} {K : Frag} {R fI : Addr} (hp : S.w.params = Pm.p) (T : Top q (looseW q loose) mean S.mg S.mb S.B) (Z : Seen0 Pm.p B K S.cA S.cU R fI) (k : ∀ b o, B.get? b = some o → S.B.get? b = some o) (hm : B.nsMap mainGlobals = S.mg) : Has S K R where
  O := ⟨T.g, T.b, T.nolimit, hp, let ⟨o, ho⟩ := Option.isSome_iff_exists.mp Z.ns.2; ⟨o, k _ _ ho⟩⟩
  E := excU_of (excT_of (excS_of (Z.X.keeps k) (fdOf_fn k Z.init init_binds) Z.c) Z.c.2.2.1 Z.c.2.2.2.1 Z.c.2.2.2.2.1) Z.c.2.2.2.2.1
  R := inst_of Z.c.2.2.2.2.2
  makes := Z.c.2.2.2.2.2.2.2.2.2.2.1
  kp := Z.c.2.2.2.2.2.2.2.2.2.2.2.1
  kc := fun u => match u with
    | false => Z.c.2.2.1.2.2.2.2.2.2.2.2
    | true => Z.c.2.2.2.1.2.2.2.2.2.2.2.2
  absent := fun n hn => of_decide_eq_true (List.all_eq_true.mp Z.c.2.2.2.2.2.2.2.2.2.2.2.2 n hn)
  gR := hm ▸ Z.gR
  gA := hm ▸ Z.gA
  gU := hm ▸ Z.gU
  fn := fn_of Z k hm
  mt := meth_of Z k
  dat := fun n d hd => let ⟨v, as, h1, h2⟩ := tops_reads Z.tops Z.same hd
    ⟨v, as, hm ▸ h1, reads_sim (B := S.B) (Fs := []) (X := []) (.of_keeps k) h2 fun _ _ => ⟨List.not_mem_nil, List.not_mem_nil⟩⟩
  bi := fun n v hb => bis_of T hb
theorem has_of {w : World} {s₀ : Shared} {mg mb : Str → Option Value} {h : Heap} (G : Ground q loose [] XP0 w s₀ mg mb h) (Y : YP0 w h) : ∃ K A U R, @Has ⟨w.params⟩ ⟨pw, w, h, mg, mb, A, U⟩ K R :=
  let ⟨_, e, k⟩ := Y
  let ⟨K, A, U, R, _, Z⟩ := seen_of e
  ⟨K, A, U, R, @has_seen ⟨w.params⟩ ⟨pw, w, h, mg, mb, A, U⟩ _ _ _ _ _ rfl G.T Z k (@Ns.same ⟨w.params⟩ _ _ _ _ ((Heap.Ns.of_isNs Z.ns.1).keeps k) G.T.g)⟩
end
section

theorem ints_of : ∀ xs : List WData, WShape.hasItems [] xs .int = true → ∃ sx : List Int, xs = sx.map .int
  | [], _ => ⟨[], rfl⟩
  | x :: xs, h => by
    obtain ⟨h1, h2⟩ := Bool.and_eq_true_iff.mp (show (WShape.has [] x .int && WShape.hasItems [] xs .int) = true from h)
    obtain ⟨sx, rfl⟩ := ints_of xs h2
    cases x <;> first | exact ⟨_ :: sx, rfl⟩ | cases h1
theorem pre_val (L : WTm) (R : WRecords) (e : WCtx) (b : Bool) (h : L.value R e = some (.bool b)) : (WTm.and (.not L) (.lit (.bool true))).holds R e = !b := by
  cases b <;> (unfold WTm.holds; simp only [WTm.value, h]; rfl)
theorem args_of {args : List WData} (h : rw0.row.toRowW.claim.pre args = true) : ∃ sx : List Int, args = [.list (sx.map .int)] ∧ sx.length ≤ 63 := by
  obtain ⟨h1, h2⟩ := pre_splitW h
  obtain ⟨d, r, rfl, hd, hr⟩ := hasAllW_cons (e := .list .int) (es := []) h1
  obtain rfl := hasAllW_nil hr
  have hx : ∃ xs, d = .list xs ∧ WShape.hasItems [] xs .int = true := by
    cases d with
    | list xs => exact ⟨xs, rfl, by have z : (WShape.hasItems [] xs .int || false) = true := hd; simpa using z⟩
    | _ => cases hd
  obtain ⟨xs, rfl, hi⟩ := hx
  obtain ⟨sx, rfl⟩ := ints_of xs hi
  refine ⟨sx, rfl, ?_⟩
  have e : rw0.row.toRowW.pre.holds rw0.row.toRowW.records { args := [.list (sx.map .int)] } = (!decide (((63 : Nat) : Int) < ((sx.map WData.int).length : Int))) := by
    exact pre_val (WTm.lt (.lit (.int 63)) (.len (.arg 0))) _ _ _ (by kernel_rfl)
  rw [e, List.length_map] at h2
  have h2 : ¬ (((63 : Nat) : Int) < (sx.length : Int)) := by simpa using h2
  omega
theorem reads_ints [Pm] {cl : Str → Option Addr} {h : Heap} : ∀ (sx : List Int) {vs : List Value} {as : List Addr}, ReadsAllW [] cl h vs (sx.map .int) as → ∃ bs, ReadsAll h vs (sx.map .int) bs
  | [], _, _, r => by cases r; exact ⟨_, .nil⟩
  | x :: sx, _, _, r => by
    cases r with
    | cons r1 r2 =>
      cases r1 with
      | int =>
        obtain ⟨bs, q⟩ := reads_ints sx r2
        exact ⟨_, .cons (.int _ _) q⟩
theorem law_good [Pm] {S : St} {K : Frag} {R : Addr} (H : Has S K R) {sx : List Int} (hl : sx.length ≤ 63) {fa : Addr} (hm : S.mg "law" = some (.ref fa)) {s : Shared} (hB : S.B = s.heap) {vals : List Value} (hD : DatasIn [] s.heap vals [.list (sx.map .int)]) {Q : Value → Shared → Prop} {E : Value → Shared → Prop}
    (k : ∀ h' tk, (∀ b o, s.heap.get? b = some o → h'.get? b = some o) → Q (.bool true) { s with heap := h', toks := tk }) : wpAny S.M callerA (PySem.call (.ref fa) vals) Q E s := by
  obtain ⟨fb, _, _, c1, _, _, c4⟩ := w_law (b := 0) H sx (by omega) (plain sx)
  cases hm.symm.trans c1
  unfold Cal at c4
  exact c4 callerA [] vals [] s _ _ ⟨rfl, by decide, by decide, rfl, trivial, hB ▸ fun _ _ e => e, (fun _ h => nomatch h), (fun _ h => nomatch h), (fun _ h => nomatch h)⟩ hD fun v h' tk x D => D.bool ▸ k h' tk fun b o e => x.ex b o e List.not_mem_nil List.not_mem_nil
theorem datas_of [Pm] {cl : Str → Option Addr} {h : Heap} {sx : List Int} {vals : List Value} {as : List Addr} (r : ReadsAllW [] cl h vals [.list (sx.map .int)] as) : DatasIn [] h vals [.list (sx.map .int)] := by
  cases r with
  | cons r1 r2 =>
    cases r2
    cases r1 with
    | list e1 e2 e3 e4 =>
      obtain ⟨bs, q⟩ := reads_ints sx e4
      exact ⟨⟨_, .list e1 e2 e3 q, fun _ _ => List.not_mem_nil⟩, trivial⟩
theorem law_name : (dr 55).name = ("law" : Str) := by kernel_rfl
theorem calls : WalkO q loose XP0 YP0 rw0.row.toRowW (dr 55) [] fun f vs => PySem.call f vs :=
  fun w s₀ s₁ mg mb G Y a _ _ _ _ _ _ _ _ _ _ hm hg args vals as hpre _ hrd _ _ =>
  let ⟨_, _, _, _, H⟩ := has_of G Y
  let ⟨sx, e, hl⟩ := args_of hpre
  @law_good ⟨w.params⟩ _ _ _ H sx hl a (law_name ▸ hm) s₁ rfl vals (@datas_of ⟨w.params⟩ _ _ _ _ _ (e ▸ hrd)) _ _ fun h' tk k =>
    ⟨.inl ⟨.bool true, .bool true, [], rfl, fun _ => rfl, .bool true, by kernel_rfl, fun _ => ⟨.nil, fun _ h => nomatch h⟩⟩, OldK.of_keep k, rfl, .of_eq hg⟩
theorem go (k1 : rw0.row.wellSaid = true) : rw0.row.Holds :=
  holds_open (r := rw0.row) (q := q) (loose := loose) (XP := XP0) (Yf := fun s => obsH s.heap) (Ya := fun w => valH w.params) (YP := YP0) (d := dr 55) (kwd := []) (N := 4606) left (fun w s e => ⟨s.heap, e, fun _ _ x => x⟩) (fun w h h' ⟨B, e, k⟩ kk => ⟨B, e, fun b o x => kk _ _ (k _ _ x)⟩)
    (fun s e => xl_of s (Bool.and_eq_true_iff.mp e).1) XL.keeps (by kernel_rfl) (by kernel_rfl) (by kernel_rfl) (fun s e => recFacts_of (Bool.and_eq_true_iff.mp e).2) rfl k1 (by kernel_rfl) ⟨rfl, rfl, rfl, rfl, rfl, by kernel_rfl⟩
    ⟨[.list []], by kernel_rfl, by kernel_rfl⟩ calls
end
end Mine
theorem PySem.Challenge.cw_pq1456_01_holds : PySem.Challenge.rw_pq1456_01.Holds :=
  holds_law Mine.said fun k1 => Mine.go k1
