import PyProof.Rows.All
import Wide.All
import OpenK.AllK
import Wide.FinOn
import PySem.Challenge.RW_nz0269_01
open PySem PySem.W PyProof.Rows
set_option Elab.async false
set_option maxRecDepth 100000 
set_option maxHeartbeats 8000000
open_top Mine.hd for PySem.Challenge.rw_nz0269_01
open PySem.Calls PySem.Spec PyProof.V
local macro_rules | `(tactic| k_ne) => `(tactic| (refine neN ?_; first | with_reducible assumption | exact Ne.symm (by with_reducible assumption) | exact Nat.ne_of_lt (by with_reducible assumption) | exact Nat.ne_of_gt (by with_reducible assumption) | ((try dsimp only); omega)))
local macro_rules | `(tactic| k_all) => `(tactic| with_reducible assumption)
namespace Mine

noncomputable abbrev PR : Program := PySem.Challenge.pw_nz0269_01
noncomputable abbrev VP : Program := hd.view_39

/-- an around that handles nothing -/
abbrev AR (dp un : Nat) (fr : Option (List Env)) (gd : Option (List Code)) : Around := { handled := none, depth := dp, frames := fr, guards := gd, units := un }
/-- the ground: what is known of the text's own objects at a heap -/
structure Gr (w : World) (h : Heap) : Prop where
  K : (hd.heap_39 w.params).In h
  T : ∃ mean mg mb, Top VP (looseW VP []) mean mg mb h

theorem Gr.keeps {w : World} {h h' : Heap} (G : Gr w h) (k : ∀ b o, h.get? b = some o → h'.get? b = some o) : Gr w h' :=
  ⟨G.K.keeps k, let ⟨a, b, c, T⟩ := G.T; ⟨a, b, c, T.keeps k⟩⟩

/-- everything off the addresses S is kept -/
def Off (S : List Addr) (h h' : Heap) : Prop := ∀ b o, h.get? b = some o → b ∉ S → h'.get? b = some o

theorem Off.refl (S : List Addr) (h : Heap) : Off S h h := fun _ _ e _ => e
theorem Off.mono {S S' : List Addr} {h h' : Heap} (a : Off S h h') (hs : ∀ b ∈ S, b ∈ S') : Off S' h h' :=
  fun x o e n => a x o e fun q => n (hs x q)

section
variable {w : World} {A : Around} {s : Shared} {base : Heap}
  {R : Result → Shared → Prop} {name qual : Str} {params : Arguments} {body : List Stmt} {scope : Scope} {dV kV doc pm cdv ct oc : Value} {an od : Option Addr} {osl : Array (Option Value)} {f : Addr} {args : Args} {binds : List (Str × Value)}

/-- entering a def: the named objects are hidden from the ground and stand in the ledger -/
theorem enterH (hid : List (Addr × Obj)) (G : Gr w base) (kp : ∀ b o, base.get? b = some o → s.heap.get? b = some o)
    (hh : ∀ p ∈ hid, s.heap.get? p.1 = some p.2 ∧ base.get? p.1 = none)
    (hroom : A.depth < recursionLimit)
    (ho : (hd.heap_39 w.params).lookup f = some ⟨oc, od, .func (fnOf name qual params body scope dV kV doc pm an cdv ct), osl⟩) (hcd : codeIn (hd.heap_39 w.params) cdv qual = true)
    (hbind : BindsTo s (fnOf name qual params body scope dV kV doc pm an cdv ct) args binds) (hloc : ∀ y ∈ binds, scope.names.lookup y.1 = some .local)
    (h : ∀ g L' h₁ mean mg mb, Fr g L' h₁ (fun y => binds.reverse.lookup y) → News g L' h₁ hid → (hd.heap_39 w.params).In g → Top VP (looseW VP []) mean mg mb g →
      (∀ h' m' hid', Fr g L' h' m' → News g L' h' hid' → Off (hid.map (·.1)) s.heap h' ∧ (∀ p ∈ hid', h'.get? p.1 = some p.2)) →
      wpAny (model PR w) (A.deeper (envOf qual scope L' f cdv)) (execs body (envOf qual scope L' f cdv))
        (fun fl s' => R (.ok (.ret (match fl with | .ret v => v | _ => .none))) s') (fun _ _ => False)
        { s with heap := h₁, toks := s.toks + binds.length })
    (hco : scope.isCoroutine = false := by rfl) (hgen : scope.isGenerator = false := by rfl) (hk : scope.kind = .function := by rfl)
    (hcell : ∀ x ∈ scope.names, x.2 ≠ .cell := by decide) : codeAny (model PR w) A (.call (.ref f) args) R s := by
  have G' := G.keeps kp
  obtain ⟨mean, mg, mb, T⟩ := G.T
  have st : ∀ b o, base.get? b = some o → (hideAll s.heap (hid.map (·.1))).get? b = some o := fun b o e =>
    hideAll_get _ (kp b o e) fun q => by
      obtain ⟨p, hp, rfl⟩ := List.mem_map.mp q
      rw [(hh p hp).2] at e; cases e
  refine codeAny_call_def (fd := fnOf name qual params body scope dV kV doc pm an cdv ct) (body := body) (binds := binds) hroom (G'.K _ _ ho) rfl (T.nolimit.keeps kp) (codeRec_of G'.K hcd) rfl hbind hcell hloc (fun h₁ hns hk₁ => ?_) hco hgen hk
  refine wpAny_mono (h (hideAll s.heap (hid.map (·.1))) s.heap.objs.size h₁ mean mg mb
    ⟨hns, fun b o e => hk₁ b o (of_hideAll _ e), Nat.le_of_eq (hideAll_size _ _)⟩
    (fun p hp => ⟨hk₁ _ _ (hh p hp).1, Nat.ne_of_lt (Heap.lt_size (hh p hp).1), hideAll_none _ (List.mem_map_of_mem hp)⟩) (G.K.keeps st) (T.keeps st) ?_) (fun fl s' hl => hl) (fun _ _ y => y.elim)
  intro h' m' hid' F' N'
  exact ⟨fun b o e n => F'.keep b o (hideAll_get _ e n), fun p hp => (N' p hp).1⟩
/-- entering a def: the named objects are hidden from the ground and stand in the ledger -/
theorem enterF (hid : List (Addr × Obj)) (G : Gr w base) (kp : ∀ b o, base.get? b = some o → s.heap.get? b = some o)
    (hh : ∀ p ∈ hid, s.heap.get? p.1 = some p.2 ∧ base.get? p.1 = none)
    (hroom : A.depth < recursionLimit)
    (ho : (hd.heap_39 w.params).lookup f = some ⟨oc, od, .func (fnOf name qual params body scope dV kV doc pm an cdv ct), osl⟩) (hcd : codeIn (hd.heap_39 w.params) cdv qual = true)
    (hbind : BindsTo s (fnOf name qual params body scope dV kV doc pm an cdv ct) args binds) (hloc : ∀ y ∈ binds, scope.names.lookup y.1 = some .local)
    (h : ∀ g L' h₁ mean mg mb, Fr g L' h₁ (fun y => binds.reverse.lookup y) → News g L' h₁ hid → (hd.heap_39 w.params).In g → Top VP (looseW VP []) mean mg mb g →
      (∀ h' m' hid', Fr g L' h' m' → News g L' h' hid' → Off (hid.map (·.1)) s.heap h' ∧ (∀ p ∈ hid', h'.get? p.1 = some p.2)) → (∀ b, b ∉ hid.map (·.1) → g.get? b = none → s.heap.get? b = none) → (∀ b o, base.get? b = some o → g.get? b = some o) →
      wpAny (model PR w) (A.deeper (envOf qual scope L' f cdv)) (execs body (envOf qual scope L' f cdv))
        (fun fl s' => R (.ok (.ret (match fl with | .ret v => v | _ => .none))) s') (fun _ _ => False)
        { s with heap := h₁, toks := s.toks + binds.length })
    (hco : scope.isCoroutine = false := by rfl) (hgen : scope.isGenerator = false := by rfl) (hk : scope.kind = .function := by rfl)
    (hcell : ∀ x ∈ scope.names, x.2 ≠ .cell := by decide) : codeAny (model PR w) A (.call (.ref f) args) R s := by
  have G' := G.keeps kp
  obtain ⟨mean, mg, mb, T⟩ := G.T
  have st : ∀ b o, base.get? b = some o → (hideAll s.heap (hid.map (·.1))).get? b = some o := fun b o e =>
    hideAll_get _ (kp b o e) fun q => by
      obtain ⟨p, hp, rfl⟩ := List.mem_map.mp q
      rw [(hh p hp).2] at e; cases e
  refine codeAny_call_def (fd := fnOf name qual params body scope dV kV doc pm an cdv ct) (body := body) (binds := binds) hroom (G'.K _ _ ho) rfl (T.nolimit.keeps kp) (codeRec_of G'.K hcd) rfl hbind hcell hloc (fun h₁ hns hk₁ => ?_) hco hgen hk
  refine wpAny_mono (h (hideAll s.heap (hid.map (·.1))) s.heap.objs.size h₁ mean mg mb
    ⟨hns, fun b o e => hk₁ b o (of_hideAll _ e), Nat.le_of_eq (hideAll_size _ _)⟩
    (fun p hp => ⟨hk₁ _ _ (hh p hp).1, Nat.ne_of_lt (Heap.lt_size (hh p hp).1), hideAll_none _ (List.mem_map_of_mem hp)⟩) (G.K.keeps st) (T.keeps st) ?_ ?_ st) (fun fl s' hl => hl) (fun _ _ y => y.elim)
  · intro h' m' hid' F' N'
    exact ⟨fun b o e n => F'.keep b o (hideAll_get _ e n), fun p hp => (N' p hp).1⟩
  · intro b hb hg
    cases q : s.heap.get? b with
    | none => rfl
    | some o => rw [hideAll_get _ q hb] at hg; cases hg
end

theorem fill : (fun (_ : OpenLaw) (_ : Params → Frag) => True) PySem.Challenge.rw_nz0269_01 hd.heap_39 := by
  w_top off
  k_fill
  trivial

/-- a family, said plainly -/
structure Fam where
  nm : List Str
  ns : List Int
  ps : List Int

def Fam.has (st : Fam) (x : Str) : Bool := st.nm.contains x
def Fam.at (st : Fam) (x : Str) : Nat := st.nm.idxOf x
def Fam.placed (st : Fam) (x : Str) : Fam := if st.nm.contains x then st else ⟨st.nm ++ [x], st.ns ++ [0], st.ps ++ [-1]⟩

/-- names with numbers as a dict's data -/
def encI : List (Str × Int) → List (PyData × PyData)
  | [] => []
  | (n, i) :: r => (.str n, .int i) :: encI r
def encS : List (Str × Str) → List (PyData × PyData)
  | [] => []
  | (n, i) :: r => (.str n, .str i) :: encS r
def asc {α : Type} (l : List (Str × α)) (x : Str) : Option α := (l.find? fun p => p.1 == x).map (·.2)
def putA {α : Type} (l : List (Str × α)) (x : Str) (v : α) : List (Str × α) :=
  if l.any (fun p => p.1 == x) then l.map (fun p => if p.1 == x then (p.1, v) else p) else l ++ [(x, v)]

theorem same_s (a b : Str) : Spec.same (.str a) (.str b) = (a == b) := by
  rw [PyProof.V.same_str]; rfl
theorem lookup_encI (l : List (Str × Int)) (x : Str) : Spec.lookup (.str x) (encI l) = (asc l x).map PyData.int := by
  induction l with
  | nil => rfl
  | cons p r ih =>
    obtain ⟨n, i⟩ := p
    simp only [encI, Spec.lookup, same_s, asc, List.find?_cons]
    by_cases h : (n == x) = true
    · simp [h]
    · simp only [h, Bool.false_eq_true, if_false]; exact ih
theorem lookup_encS (l : List (Str × Str)) (x : Str) : Spec.lookup (.str x) (encS l) = (asc l x).map PyData.str := by
  induction l with
  | nil => rfl
  | cons p r ih =>
    obtain ⟨n, i⟩ := p
    simp only [encS, Spec.lookup, same_s, asc, List.find?_cons]
    by_cases h : (n == x) = true
    · simp [h]
    · simp only [h, Bool.false_eq_true, if_false]; exact ih
theorem encI_map (l : List (Str × Int)) : encI l = l.map fun p => (.str p.1, .int p.2) := by
  induction l with
  | nil => rfl
  | cons p r ih => obtain ⟨n, i⟩ := p; simp [encI, ih]
theorem encS_map (l : List (Str × Str)) : encS l = l.map fun p => (.str p.1, .str p.2) := by
  induction l with
  | nil => rfl
  | cons p r ih => obtain ⟨n, i⟩ := p; simp [encS, ih]
theorem putD_encI (l : List (Str × Int)) (x : Str) (v : Int) : putD (.str x) (.int v) (encI l) = encI (putA l x v) := by
  unfold putD putA
  have e : (encI l).any (fun p => Spec.same p.1 (.str x)) = l.any (fun p => p.1 == x) := by
    rw [encI_map, List.any_map]; congr 1
  rw [e]
  split
  · simp only [encI_map, List.map_map]
    apply List.map_congr_left
    intro p _
    simp only [Function.comp, same_s]
    split <;> rfl
  · simp [encI_map]
theorem putD_encS (l : List (Str × Str)) (x : Str) (v : Str) : putD (.str x) (.str v) (encS l) = encS (putA l x v) := by
  unfold putD putA
  have e : (encS l).any (fun p => Spec.same p.1 (.str x)) = l.any (fun p => p.1 == x) := by
    rw [encS_map, List.any_map]; congr 1
  rw [e]
  split
  · simp only [encS_map, List.map_map]
    apply List.map_congr_left
    intro p _
    simp only [Function.comp, same_s]
    split <;> rfl
  · simp [encS_map]
theorem encI_length (l : List (Str × Int)) : (encI l).length = l.length := by rw [encI_map, List.length_map]
theorem encS_length (l : List (Str × Str)) : (encS l).length = l.length := by rw [encS_map, List.length_map]

/-- the places of names: each its place -/
def plc (nm : List Str) : List (Str × Int) := nm.zipIdx.map fun p => (p.1, (p.2 : Int))
theorem asc_zip (nm : List Str) (x : Str) (k : Nat) : asc ((nm.zipIdx k).map fun p => (p.1, (p.2 : Int))) x = if nm.contains x then some ((nm.idxOf x + k : Nat) : Int) else none := by
  induction nm generalizing k with
  | nil => rfl
  | cons n r ih =>
    simp only [List.zipIdx_cons, List.map_cons, asc, List.find?_cons]
    by_cases h : (n == x) = true
    · have : n = x := by simpa using h
      subst this
      simp
    · have hne : ¬ n = x := by simpa using h
      have hne' : ¬ x = n := fun e => hne e.symm
      have := ih (k + 1)
      simp only [asc] at this
      simp only [h, Bool.false_eq_true, this]
      simp only [List.contains_cons, List.idxOf_cons]
      have h2 : (x == n) = false := by simpa using hne'
      have h3 : (n == x) = false := by simpa using hne
      simp only [h2, h3, Bool.false_or]
      by_cases hc : r.contains x = true
      · simp only [hc, if_true]; congr 2; simp only [cond_false]; omega
      · simp only [hc]; rfl
theorem asc_plc (nm : List Str) (x : Str) : asc (plc nm) x = if nm.contains x then some ((nm.idxOf x : Nat) : Int) else none := by
  have := asc_zip nm x 0
  simpa [plc] using this
theorem any_asc {α : Type} (l : List (Str × α)) (x : Str) : l.any (fun p => p.1 == x) = (asc l x).isSome := by
  unfold asc
  rw [Option.isSome_map]
  induction l with
  | nil => rfl
  | cons p r ih => simp only [List.any_cons, List.find?_cons]; cases h : (p.1 == x) <;> simp [ih]
theorem putA_plc (nm : List Str) (x : Str) (h : nm.contains x = false) : putA (plc nm) x (nm.length : Int) = plc (nm ++ [x]) := by
  unfold putA
  rw [any_asc, asc_plc, h]
  simp [plc, List.zipIdx_append]
theorem plc_length (nm : List Str) : (plc nm).length = nm.length := by simp [plc]

abbrev famD (w : World) (t1 t2 t3 : Tok) (pl nu pa : Addr) : List DictEntry :=
  [⟨PyData.keyHash w.params (Str.ofString "places"), .str (Str.ofString "places") t1, .ref pl⟩, ⟨PyData.keyHash w.params (Str.ofString "numbers"), .str (Str.ofString "numbers") t2, .ref nu⟩, ⟨PyData.keyHash w.params (Str.ofString "parents"), .str (Str.ofString "parents") t3, .ref pa⟩]
abbrev listO (vs : List Value) (n : Nat) : Obj := { cls := .type "list", data := .seq vs.toArray n }

/-- a family's five objects -/
structure FA where
  fam : Addr
  dx : Addr
  pl : Addr
  nu : Addr
  pa : Addr
abbrev FA.all (fa : FA) : List Addr := [fa.fam, fa.dx, fa.pl, fa.nu, fa.pa]
abbrev FA.mut (fa : FA) : List Addr := [fa.pl, fa.nu, fa.pa]

/-- the ledger l holds the family's objects in the state st -/
structure FamIn (w : World) (st : Fam) (fa : FA) (l : List (Addr × Obj)) : Prop where
  obj : ∃ t1 t2 t3 nd oP n1 n2 vn vp kvs, l = [(fa.fam, instObj 73 fa.dx), (fa.dx, dictOf (famD w t1 t2 t3 fa.pl fa.nu fa.pa) nd), (fa.pl, oP), (fa.nu, listO vn n1), (fa.pa, listO vp n2)] ∧
    oP.IsDictOf (strKind PR w) kvs ∧ FlatPairs PyData.str kvs (encI (plc st.nm)) ∧ IntsAre vn st.ns ∧ IntsAre vp st.ps
  nodup : fa.all.Nodup
  low : (fa.pl == sysModules) = false

/-- a ledger at a heap, made since base -/
def Has (base h : Heap) (l : List (Addr × Obj)) : Prop := ∀ p ∈ l, h.get? p.1 = some p.2 ∧ base.get? p.1 = none

theorem Has.of_news {g h : Heap} {L : Addr} {l : List (Addr × Obj)} (N : News g L h l) : Has g h l := fun p hp => ⟨(N p hp).1, (N p hp).2.2⟩
theorem Has.sub {base h : Heap} {l l' : List (Addr × Obj)} (H : Has base h l) (hs : ∀ p ∈ l', p ∈ l) : Has base h l' := fun p hp => H p (hs p hp)
/-- a ledger over an older ground -/
theorem Has.older {base g h : Heap} {l : List (Addr × Obj)} (H : Has g h l) (k : ∀ b o, base.get? b = some o → g.get? b = some o) : Has base h l :=
  fun p hp => ⟨(H p hp).1, by
    cases q : base.get? p.1 with
    | none => rfl
    | some o => have := (H p hp).2; rw [k _ _ q] at this; cases this⟩

theorem after_F {g h h' : Heap} {L : Addr} {m : Str → Option Value} {S : List Addr} (F : Fr g L h m) (o : Off S h h') (hL : L ∉ S) (hS : ∀ a ∈ S, g.get? a = none) : Fr g L h' m := by
  obtain ⟨oL, es, ep, hLo, a, b, c⟩ := F.ns
  refine ⟨⟨oL, es, ep, o _ _ hLo hL, a, b, c⟩, fun b ob e => o _ _ (F.keep b ob e) fun q => ?_, F.above⟩
  rw [hS b q] at e; cases e
theorem news_of {g h : Heap} {L : Addr} {l : List (Addr × Obj)} (H : Has g h l) (hL : ∀ p ∈ l, p.1 ≠ L) : News g L h l := fun p hp => ⟨(H p hp).1, hL p hp, (H p hp).2⟩
theorem after_N {g h h' : Heap} {L : Addr} {S : List Addr} {l : List (Addr × Obj)} (N : News g L h l) (o : Off S h h') (hd : ∀ p ∈ l, p.1 ∉ S) : News g L h' l :=
  fun p hp => ⟨o _ _ (N p hp).1 (hd p hp), (N p hp).2⟩
theorem News.both {g h : Heap} {L : Addr} {l l' : List (Addr × Obj)} (N : News g L h l) (N' : News g L h l') : News g L h (l ++ l') :=
  fun p hp => (List.mem_append.mp hp).elim (N p) (N' p)
theorem News.subs {g h : Heap} {L : Addr} {l l' : List (Addr × Obj)} (N : News g L h l) (hs : ∀ p ∈ l', p ∈ l) : News g L h l' := fun p hp => N p (hs p hp)
theorem FamIn.elim {w : World} {st : Fam} {fa : FA} {l : List (Addr × Obj)} {P : Prop} (H : FamIn w st fa l)
    (k : ∀ t1 t2 t3 nd oP n1 n2 vn vp kvs, l = [(fa.fam, instObj 73 fa.dx), (fa.dx, dictOf (famD w t1 t2 t3 fa.pl fa.nu fa.pa) nd), (fa.pl, oP), (fa.nu, listO vn n1), (fa.pa, listO vp n2)] →
      oP.IsDictOf (strKind PR w) kvs → FlatPairs PyData.str kvs (encI (plc st.nm)) → IntsAre vn st.ns → IntsAre vp st.ps → fa.all.Nodup → (fa.pl == sysModules) = false → P) : P := by
  obtain ⟨⟨t1, t2, t3, nd, oP, n1, n2, vn, vp, kvs, e, hP, hD, hN, hA⟩, hnd, low⟩ := H
  exact k _ _ _ _ _ _ _ _ _ _ e hP hD hN hA hnd low
theorem FamIn.elimO {w : World} {st : Fam} {fa : FA} {l : List (Addr × Obj)} {P : Prop} (H : FamIn w st fa l)
    (k : ∀ t1 t2 t3 nd oP n1 n2 vn vp kvs, l = [(fa.fam, instObj 73 fa.dx), (fa.dx, dictOf (famD w t1 t2 t3 fa.pl fa.nu fa.pa) nd), (fa.pl, oP), (fa.nu, listO vn n1), (fa.pa, listO vp n2)] →
      oP.IsDictOf (strKind PR w) kvs → FlatPairs PyData.str kvs (encI (plc st.nm)) → IntsAre vn st.ns → IntsAre vp st.ps → P) : P :=
  H.elim fun _ _ _ _ _ _ _ _ _ _ e hP hD hN hA _ _ => k _ _ _ _ _ _ _ _ _ _ e hP hD hN hA
def at? {α : Type} : List α → Nat → Option α
  | [], _ => none
  | a :: _, 0 => some a
  | _ :: l, n + 1 => at? l n
def picks {α : Type} (l t : List α) : List Nat → List α
  | [] => t
  | i :: is => match at? l i with
    | some x => x :: picks l t is
    | none => picks l t is
theorem mem_at? {α : Type} {x : α} : ∀ {l : List α} {i : Nat}, at? l i = some x → x ∈ l
  | [], _, e => nomatch e
  | _ :: _, 0, e => by cases e; exact .head _
  | _ :: _, _ + 1, e => .tail _ (mem_at? e)
theorem mem_picks {α : Type} {x : α} {l t : List α} (ht : ∀ y ∈ t, y ∈ l) : ∀ {is : List Nat}, x ∈ picks l t is → x ∈ l
  | [], h => ht _ h
  | i :: is, h => by
    unfold picks at h
    cases e : at? l i with
    | none => rw [e] at h; exact mem_picks ht h
    | some y =>
      rw [e] at h
      rcases List.mem_cons.mp h with rfl | h
      · exact mem_at? e
      · exact mem_picks ht h
theorem News.pick {g h : Heap} {L : Addr} {l : List (Addr × Obj)} (N : News g L h l) (is : List Nat) (n : Nat) : News g L h (picks l (l.drop n) is) :=
  fun p hp => N p (mem_picks (fun _ hy => List.mem_of_mem_drop hy) hp)
theorem News.cons {g h : Heap} {L : Addr} {p : Addr × Obj} {l : List (Addr × Obj)} (hp : h.get? p.1 = some p.2 ∧ p.1 ≠ L ∧ g.get? p.1 = none) (N : News g L h l) : News g L h (p :: l) := fun q hq => by
  rcases List.mem_cons.mp hq with rfl | hq
  · exact hp
  · exact N q hq
theorem News.left {g h : Heap} {L : Addr} {l l' : List (Addr × Obj)} (N : News g L h (l ++ l')) : News g L h l := fun p hp => N p (List.mem_append_left _ hp)
theorem News.right {g h : Heap} {L : Addr} {l l' : List (Addr × Obj)} (N : News g L h (l ++ l')) : News g L h l' := fun p hp => N p (List.mem_append_right _ hp)
/-- the five addresses differ: one by one -/
theorem nodup5 {a b c d e : Addr} {P : Prop} (h : [a, b, c, d, e].Nodup) (k : @Ne Nat a b → @Ne Nat a c → @Ne Nat a d → @Ne Nat a e → @Ne Nat b c → @Ne Nat b d → @Ne Nat b e → @Ne Nat c d → @Ne Nat c e → @Ne Nat d e → P) : P := by
  simp only [List.nodup_cons, List.mem_cons, List.not_mem_nil, or_false, not_or, not_false_eq_true, List.nodup_nil, and_true] at h
  exact k h.1.1 h.1.2.1 h.1.2.2.1 h.1.2.2.2 h.2.1.1 h.2.1.2.1 h.2.1.2.2 h.2.2.1.1 h.2.2.1.2 h.2.2.2
theorem ne5 {x a b c d e : Addr} {P : Prop} (h : x ∉ [a, b, c, d, e]) (k : @Ne Nat x a → @Ne Nat x b → @Ne Nat x c → @Ne Nat x d → @Ne Nat x e → P) : P := by
  simp only [List.mem_cons, List.not_mem_nil, or_false, not_or] at h
  exact k h.1 h.2.1 h.2.2.1 h.2.2.2.1 h.2.2.2.2
theorem not2 {x a b : Addr} (h : x ≠ a) (h' : x ≠ b) : x ∉ [a, b] := by
  simp only [List.mem_cons, List.not_mem_nil, or_false, not_or]
  exact ⟨h, h'⟩
theorem allc {α : Type} {P : α → Prop} {a : α} {l : List α} (h : P a) (t : ∀ x ∈ l, P x) : ∀ x ∈ a :: l, P x := List.forall_mem_cons.mpr ⟨h, t⟩
theorem alln {α : Type} {P : α → Prop} : ∀ x ∈ ([] : List α), P x := List.forall_mem_nil _
theorem News.allLt {g h : Heap} {L : Addr} {l : List (Addr × Obj)} (N : News g L h l) : AllLt h.objs.size l := allLt_of fun p hp => Heap.lt_size (N p hp).1
theorem ex2 {A B : Type} {p : A → B → Prop} {P : Prop} : (∃ a b, p a b) → (∀ a b, p a b → P) → P := fun ⟨a, b, h⟩ k => k a b h
theorem ex3 {A B C : Type} {p : A → B → C → Prop} {P : Prop} : (∃ a b c, p a b c) → (∀ a b c, p a b c → P) → P := fun ⟨a, b, c, h⟩ k => k a b c h
theorem ex4 {A B C D : Type} {p : A → B → C → D → Prop} {P : Prop} : (∃ a b c d, p a b c d) → (∀ a b c d, p a b c d → P) → P := fun ⟨a, b, c, d, h⟩ k => k a b c d h
theorem ex6 {A B C D E F : Type} {p : A → B → C → D → E → F → Prop} {P : Prop} : (∃ a b c d e f, p a b c d e f) → (∀ a b c d e f, p a b c d e f → P) → P := fun ⟨a, b, c, d, e, f, h⟩ k => k a b c d e f h
theorem an2 {a b P : Prop} : a ∧ b → (a → b → P) → P := fun h k => k h.1 h.2
theorem an3 {a b c P : Prop} : a ∧ b ∧ c → (a → b → c → P) → P := fun h k => k h.1 h.2.1 h.2.2
theorem an4 {a b c d P : Prop} : a ∧ b ∧ c ∧ d → (a → b → c → d → P) → P := fun h k => an3 h.2 (k h.1)
theorem an5 {a b c d e P : Prop} : a ∧ b ∧ c ∧ d ∧ e → (a → b → c → d → e → P) → P := fun h k => an4 h.2 (k h.1)
theorem an6 {a b c d e f P : Prop} : a ∧ b ∧ c ∧ d ∧ e ∧ f → (a → b → c → d → e → f → P) → P := fun h k => an5 h.2 (k h.1)
theorem an7 {a b c d e f g P : Prop} : a ∧ b ∧ c ∧ d ∧ e ∧ f ∧ g → (a → b → c → d → e → f → g → P) → P := fun h k => an6 h.2 (k h.1)
theorem an8 {a b c d e f g i P : Prop} : a ∧ b ∧ c ∧ d ∧ e ∧ f ∧ g ∧ i → (a → b → c → d → e → f → g → i → P) → P := fun h k => an7 h.2 (k h.1)
theorem an9 {a b c d e f g i j P : Prop} : a ∧ b ∧ c ∧ d ∧ e ∧ f ∧ g ∧ i ∧ j → (a → b → c → d → e → f → g → i → j → P) → P := fun h k => an8 h.2 (k h.1)
theorem an10 {a b c d e f g i j l P : Prop} : a ∧ b ∧ c ∧ d ∧ e ∧ f ∧ g ∧ i ∧ j ∧ l → (a → b → c → d → e → f → g → i → j → l → P) → P := fun h k => an9 h.2 (k h.1)
theorem not_all_of {x fam dx pl nu pa : Addr} (h1 : x ≠ fam) (h2 : x ≠ dx) (h3 : x ≠ pl) (h4 : x ≠ nu) (h5 : x ≠ pa) : x ∉ (⟨fam, dx, pl, nu, pa⟩ : FA).all := by
  simp only [FA.all, List.mem_cons, List.not_mem_nil, or_false, not_or]
  exact ⟨h1, h2, h3, h4, h5⟩

/-- a goal held back from the walk -/
def Hold (P : Prop) : Prop := P
theorem Hold.mk {P : Prop} (h : Hold P) : P := h
theorem Hold.out {P : Prop} (h : P) : Hold P := h
theorem while_rule {prog : Program} {w : World} {A : Around} {E : Value → Shared → Prop} {s : Shared} {test : Expr} {body : List Stmt} {pos : Pos} {env : Env} {Q : Flow → Shared → Prop} (I : Nat → Shared → Prop)
    (turn : ∀ n s, I n s → wpAny (model prog w) A (isTrue test env (eval test env)) (fun b s₂ =>
      if b then wpAny (model prog w) A (execs body env) (fun f s₃ => match f with
        | .next | .cont => Hold (∃ m, m < n ∧ I m s₃)
        | .brk => Q .next s₃
        | .ret v => Q (.ret v) s₃) (fun _ _ => False) s₂ else Q .next s₂) (fun _ _ => False) s)
    (n : Nat) (h : I n s) : wpAny (model prog w) A (exec (.While test body [] pos) env) Q E s := by
  refine wpAny_While ?_
  refine codeAny_whileLoop I (fun n s hI => ?_) n h
  refine wpAny_mono (turn n s hI) (fun b s₂ h₂ => ?_) (fun _ _ x => x.elim)
  cases b with
  | true =>
    simp only [if_true] at h₂ ⊢
    refine wpAny_mono h₂ (fun f s₃ h₃ => ?_) (fun _ _ x => x.elim)
    cases f with
    | next => exact h₃
    | cont => exact h₃
    | brk => exact h₃
    | ret v => exact h₃
  | false =>
    simp only [Bool.false_eq_true, if_false] at h₂ ⊢
    exact wpAny_execs_nil h₂

theorem off_nil {l : List (Addr × Obj)} {h h' : Heap} (o : Off (l.map (·.1)) h h') (a : ∀ p ∈ l, h.get? p.1 = some p.2) (b : ∀ p ∈ l, h'.get? p.1 = some p.2) : Off [] h h' := by
  intro x ob e _
  by_cases q : x ∈ l.map (·.1)
  · obtain ⟨p, hp, rfl⟩ := List.mem_map.mp q
    rw [a p hp] at e
    rw [b p hp]; exact e
  · exact o x ob e q
theorem Off.mono' {S : List Addr} {h h' : Heap} (o : Off [] h h') : Off S h h' := o.mono (fun _ hb => nomatch hb)

/-- the loop of is_above -/
inductive UpTo (ps : List Int) (one : Int) : Int → Int → Nat → Prop
  | stop {o : Int} : (o < 0 ∨ o = one) → UpTo ps one o o 0
  | step {o r : Int} {k : Nat} : 0 ≤ o → o ≠ one → o < ps.length → UpTo ps one (ps.getD o.toNat 0) r k → UpTo ps one o r (k + 1)
theorem set_at (x : Str) (v : Value) (m : Str → Option Value) : (fun y => if y = x then some v else m y) x = some v := if_pos rfl
theorem set_ne {x z : Str} {v v' : Value} {m : Str → Option Value} (h : m z = some v') (hn : z ≠ x := by decide) : (fun y => if y = x then some v else m y) z = some v' := (if_neg hn).trans h

section
variable {prog : Program} {w : World} {A : Around} {E : Value → Shared → Prop} {s : Shared} {env : Env} {target : Expr} {body : List Stmt} {pos : Pos} {Q : Flow → Shared → Prop}
theorem for_turns {I : Addr} {fp wr : List Addr} {n : Nat} {P Md : Nat → Value → Heap → Prop} {St : Nat → Heap → Prop} (W : KTurns prog w A target I fp wr n P Md St) (J : Nat → Heap → Prop) (st0 : St 0 s.heap) (j0 : J 0 s.heap)
    (stable : ∀ i h h', J i h → Off wr h h' → J i h')
    (step : ∀ i v h tk, i < n → P i v h → St (i + 1) h → J i h →
      wpAny (model prog w) A (assign target env v) (fun _ s₃ => wpAny (model prog w) A (execs body env) (fun f s₄ => match f with
        | .next | .cont => Hold (∃ h' tk', s₄ = { s with heap := h', toks := tk' } ∧ St (i + 1) h' ∧ J (i + 1) h')
        | .brk => Q .next s₄
        | .ret v => Q (.ret v) s₄) (fun _ _ => False) s₃) (fun _ _ => False) { s with heap := h, toks := tk })
    (done : ∀ h tk, J n h → Q .next { s with heap := h, toks := tk }) :
    codeAny (model prog w) A (.forLoop target (.ref I) body [] env) (fun r s' => match r with | .ok f => Q f s' | .error e => cameBackBy (model prog w) A env E e s') s := by
  refine codeAny_forLoop_any (fun k s' => ∃ h' tk i, s' = { s with heap := h', toks := tk } ∧ St i h' ∧ J i h' ∧ i ≤ n ∧ k = n + 1 - i) ?_ (n + 1) ⟨s.heap, s.toks, 0, rfl, st0, j0, Nat.zero_le _, rfl⟩
  rintro k s' ⟨h', tk, i, rfl, hst, hJ, hi, rfl⟩
  by_cases hlt : i < n
  · refine W.item i _ _ _ hlt hst fun v h₁ tk₁ hMd hk₁ => ?_
    refine W.go i v _ _ _ hMd fun h₂ hP hst₂ hk₂ => ?_
    have hJ₂ := stable i _ h₂ hJ fun b o e hb => hk₂ b o hb (hk₁ b o hb e)
    refine wpAny_mono (step i v h₂ tk₁ hlt hP hst₂ hJ₂) (fun _ s₂ h₂' => wpAny_mono h₂' (fun f s₃ h₃ => ?_) fun _ _ e => e.elim) fun _ _ e => e.elim
    cases f with
    | ret v => exact h₃
    | brk => exact h₃
    | cont => obtain ⟨h', tk', e, a, b⟩ := h₃; exact ⟨n + 1 - (i + 1), by omega, h', tk', i + 1, e, a, b, hlt, rfl⟩
    | next => obtain ⟨h', tk', e, a, b⟩ := h₃; exact ⟨n + 1 - (i + 1), by omega, h', tk', i + 1, e, a, b, hlt, rfl⟩
  · have : i = n := by omega
    subst this
    exact W.done _ _ _ hst fun h₁ tk₁ hk₁ => wpAny_execs_nil (done h₁ tk₁ (stable i _ h₁ hJ fun b o e hb => hk₁ b o hb e))

/-- a for over a list that stays as it is -/
theorem for_list {l : Addr} {vs : List Value} {lo : Obj} (hh : A.handled = none) (hl : s.heap.get? l = some lo) (hc : lo.cls = .type "list") (hd : ∃ n, lo.data = .seq vs.toArray n) (J : Nat → Heap → Prop)
    (start : ∀ it, it.cls = .type "list_iterator" → J 0 (s.heap.push it))
    (stable : ∀ i h h', J i h → Off [s.heap.objs.size] h h' → J i h')
    (stays : ∀ i h, J i h → h.get? l = some lo)
    (step : ∀ i v h tk it, vs[i]? = some v → it.cls = .type "list_iterator" → h.get? s.heap.objs.size = some it → J i h →
      wpAny (model prog w) A (assign target env v) (fun _ s₃ => wpAny (model prog w) A (execs body env) (fun f s₄ => match f with
        | .next | .cont => Hold (∃ h' tk', s₄ = { s with heap := h', toks := tk' } ∧ h'.get? s.heap.objs.size = some it ∧ J (i + 1) h')
        | .brk => Q .next s₄
        | .ret v => Q (.ret v) s₄) (fun _ _ => False) s₃) (fun _ _ => False) { s with heap := h, toks := tk })
    (done : ∀ h tk, J vs.length h → Q .next { s with heap := h, toks := tk }) :
    wpAny (model prog w) A (pyIter (.ref l)) (fun it s₂ => codeAny (model prog w) A (.forLoop target it body [] env) (fun r s' => match r with | .ok f => Q f s' | .error e => cameBackBy (model prog w) A env E e s') s₂) E s := by
  obtain ⟨n, hd⟩ := hd
  have hil : s.heap.IsList l vs.toArray := ⟨lo, hl, hc, n, hd⟩
  have hne : l ≠ s.heap.objs.size := Nat.ne_of_lt (Heap.lt_size hl)
  refine wpAny_pyIter_list hil ?_
  have W := KTurns.ofWalks (target := target) (Walks.list (prog := prog) (w := w) hh s.heap.objs.size l hne vs.toArray) fun i v s Q E st q => letGo_listiter st.1 q
  have hsz : vs.toArray.size = vs.length := by simp
  rw [hsz] at W
  refine for_turns W J ⟨⟨_, Heap.get?_push_size _ rfl, rfl, rfl⟩, hil.at fun o e => Heap.get?_push_of_some _ e⟩ (start _ rfl) stable (fun i v h tk hi hP hst hJ => ?_) done
  obtain ⟨it, hit, hic, hid⟩ := hst.1
  refine wpAny_mono (step i v h tk it (by simpa using hP) hic hit hJ) (fun _ s₂ h₂ => wpAny_mono h₂ (fun f s₃ h₃ => ?_) fun _ _ e => e) fun _ _ e => e
  have key : Hold (∃ h' tk', s₃ = { s with heap := h', toks := tk' } ∧ h'.get? s.heap.objs.size = some it ∧ J (i + 1) h') →
      Hold (∃ h' tk', s₃ = { s with heap := h', toks := tk' } ∧ (h'.IsListIter s.heap.objs.size l (i + 1) ∧ h'.IsList l vs.toArray) ∧ J (i + 1) h') := by
    rintro ⟨h', tk', e, a, b⟩
    exact ⟨h', tk', e, ⟨⟨it, a, hic, hid⟩, ⟨lo, stays _ _ b, hc, n, hd⟩⟩, b⟩
  cases f with
  | next => exact key h₃
  | cont => exact key h₃
  | brk => exact h₃
  | ret v => exact h₃
end

theorem fill1 : (fun (_ : OpenLaw) (_ : Params → Frag) => True) PySem.Challenge.rw_nz0269_01 hd.heap_39 := by
  w_top off
  k_fill
  trivial
theorem Has.next {base h h' : Heap} {g : Heap} {L : Addr} {l l' : List (Addr × Obj)} (H : Has base h l) (N' : News g L h' l') (e : l'.map (·.1) = l.map (·.1)) : Has base h' l' := fun p hp => by
  refine ⟨(N' p hp).1, ?_⟩
  have : p.1 ∈ l.map (·.1) := e ▸ List.mem_map_of_mem hp
  obtain ⟨q, hq, e'⟩ := List.mem_map.mp this
  rw [← e']; exact (H q hq).2
theorem placed_has {st : Fam} {x : Str} (h : st.nm.contains x = true) : st.placed x = st := by unfold Fam.placed; rw [if_pos h]
theorem placed_not {st : Fam} {x : Str} (h : st.nm.contains x = false) : st.placed x = ⟨st.nm ++ [x], st.ns ++ [0], st.ps ++ [-1]⟩ := by unfold Fam.placed; rw [if_neg (by rw [h]; exact Bool.false_ne_true)]
theorem idxOf_not {nm : List Str} {x : Str} (h : nm.contains x = false) : nm.idxOf x = nm.length := List.idxOf_eq_length (by simpa using h)
theorem asc_of_isSome {l : List (Str × Int)} {x : Str} (h : (Spec.lookup (PyData.str x) (encI l)).isSome = true) : ∃ v, asc l x = some v ∧ Spec.lookup (PyData.str x) (encI l) = some (.int v) := by
  rw [lookup_encI] at h ⊢
  cases q : asc l x with
  | none => rw [q] at h; cases h
  | some v => exact ⟨v, rfl, rfl⟩
theorem asc_of_isNone {l : List (Str × Int)} {x : Str} (h : (Spec.lookup (PyData.str x) (encI l)).isSome = false) : asc l x = none := by
  rw [lookup_encI] at h
  cases q : asc l x with
  | none => rfl
  | some v => rw [q] at h; cases h
theorem plc_some {nm : List Str} {x : Str} {v : Int} (h : asc (plc nm) x = some v) : nm.contains x = true ∧ v = (nm.idxOf x : Nat) := by
  rw [asc_plc] at h
  split at h
  · rename_i hc; exact ⟨hc, (Option.some.inj h).symm⟩
  · cases h
theorem plc_none {nm : List Str} {x : Str} (h : asc (plc nm) x = none) : nm.contains x = false := by
  rw [asc_plc] at h
  split at h
  · cases h
  · rename_i hc; simpa using hc

local macro_rules | `(tactic| walk_at "setItem ref str") => `(tactic| (k_here; k_dflt (refine' setItem_K PyProof.V.same_str (strKind_is _ _ _ _) ?v ?F ?N ?U ?d ?f ?_ ?z; (case F => k_asm); (case N => k_asm); (case U => k_updF); (case d => k_asm); (case f => k_asm); (case z => assumption); (case v => k_flat)); intro h' o' F' N' hd' hf'; (try dsimp only at N'); (try k_sweep)))
set_option maxHeartbeats 4000000
theorem place_of_c {w : World} {dp un : Nat} {fr : Option (List Env)} {gd : Option (List Code)} {s : Shared} {base : Heap} {R : Result → Shared → Prop} {fa : FA} {st : Fam} {l : List (Addr × Obj)} {x : Str} {t : Tok}
    (G : Gr w base) (kp : ∀ b o, base.get? b = some o → s.heap.get? b = some o) (hl : FamIn w st fa l) (hh : Has base s.heap l)
    (hz : st.nm.length ≤ 1000) (e1 : st.ns.length = st.nm.length) (e2 : st.ps.length = st.nm.length)
    (hd : dp + 1 < recursionLimit)
    (ret : ∀ h' tk t' l', FamIn w (st.placed x) fa l' → Has base h' l' → Off fa.all s.heap h' → R (.ok (.ret (.int (st.at x : Nat) t'))) { s with heap := h', toks := tk }) :
    codeAny (model PR w) (AR dp un fr gd) (.call (.ref 35) ⟨[.ref fa.fam, .str x t], []⟩) R s := by
  refine FamIn.elim hl fun t1 t2 t3 nd oP n1 n2 vn vp kvs el hP hD hN hA hnd low => ?_
  subst el
  clear hl
  obtain ⟨fam, dx, pl, nu, pa⟩ := fa
  have hnd0 := hnd
  simp only [List.nodup_cons, List.mem_cons, List.not_mem_nil, or_false, not_or, not_false_eq_true, List.nodup_nil, and_true] at hnd
  obtain ⟨⟨a1, a2, a3, a4⟩, ⟨a5, a6, a7⟩, ⟨a8, a9⟩, a10⟩ := hnd
  replace a1 := neN a1; replace a2 := neN a2; replace a3 := neN a3; replace a4 := neN a4; replace a5 := neN a5; replace a6 := neN a6; replace a7 := neN a7; replace a8 := neN a8; replace a9 := neN a9; replace a10 := neN a10
  dsimp only at low ret hh kp ⊢
  refine' enterH _ G kp hh ?hroom ?ho ?hcd ?hbind ?hloc ?hmain ?c1 ?c2 ?c3 ?c4
  case hroom => (show _ < recursionLimit; dsimp only; omega)
  case ho => k_is
  case hcd => k_is
  case hbind => exact BindsTo.of_eq rfl
  case hloc => exact locs rfl
  case c1 => exact rfl
  case c2 => exact rfl
  case c3 => exact rfl
  case c4 => decide
  k_whole
  intro g L h₁ mean mg mb F N X T fin
  try dsimp only
  have hzl : (encI (plc st.nm)).length ≤ sizeLine := by rw [encI_length, plc_length, sizeLine_eq]; omega
  repeat' (walk1)
  · obtain ⟨v, hv, hv'⟩ := asc_of_isSome (by assumption)
    repeat' (walk1)
    obtain ⟨hc, rfl⟩ := plc_some hv
    exact ret _ _ _ _ ⟨⟨t1, t2, t3, nd, oP, n1, n2, vn, vp, kvs, rfl, hP, by rw [placed_has hc]; exact ⟨hD, hN, hA⟩⟩, hnd0, low⟩ (hh.next N rfl) (fin _ _ _ F N).1
  · have hc := plc_none (asc_of_isNone (by assumption))
    repeat' (walk1)
    rename FlatPairs _ (stored _ _ _) _ => hf'
    rw [putD_encI, show putA (plc st.nm) x (st.ns.length : Int) = plc (st.nm ++ [x]) from e1 ▸ putA_plc _ _ hc] at hf'
    have hv' : Spec.lookup (PyData.str x) (encI (plc (st.nm ++ [x]))) = some (.int ((st.nm.length : Nat) : Int)) := by
      rw [lookup_encI, asc_plc, if_pos (by simp)]
      simp [List.idxOf_append, show x ∉ st.nm by simpa using hc]
    repeat' (walk1)
    rename News _ _ _ _ => N'
    rename Fr _ _ _ _ => F'
    rename Obj.IsDictOf _ _ (stored _ _ _) => hd'
    rw [show ((st.at x : Nat) : Int) = ((st.nm.length : Nat) : Int) from congrArg _ (idxOf_not hc)] at ret
    refine ret _ _ _ _ ⟨⟨t1, t2, t3, nd, _, _, _, _, _, _, rfl, hd', ?_, ?_, ?_⟩, hnd0, low⟩ (hh.next N' rfl) (fin _ _ _ F' N').1
    · rw [placed_not hc]; exact hf'
    · rw [placed_not hc]; exact (hN.append (.cons _ _ .nil))
    · rw [placed_not hc]; exact (hA.append (.cons _ _ .nil))

theorem fill2 : (fun (_ : OpenLaw) (_ : Params → Frag) => True) PySem.Challenge.rw_nz0269_01 hd.heap_39 := by
  w_top off
  k_fill
  trivial
theorem FamIn.map {w : World} {st : Fam} {fa : FA} {l : List (Addr × Obj)} (H : FamIn w st fa l) : l.map (·.1) = fa.all := by
  obtain ⟨_, _, _, _, _, _, _, _, _, _, rfl, _⟩ := H.obj
  rfl
theorem after_fam {w : World} {g h h' : Heap} {L : Addr} {m : Str → Option Value} {l l' : List (Addr × Obj)} {st st' : Fam} {fa : FA} (F : Fr g L h m) (N : News g L h l) (hl : FamIn w st fa l) (hl' : FamIn w st' fa l') (hh' : Has g h' l') (off : Off fa.all h h') :
    Fr g L h' m ∧ News g L h' l' := by
  have mem : ∀ a ∈ fa.all, ∃ p ∈ l, p.1 = a := fun a ha => by rw [← hl.map] at ha; obtain ⟨p, hp, e⟩ := List.mem_map.mp ha; exact ⟨p, hp, e⟩
  refine ⟨after_F F off (fun q => ?_) (fun a ha => ?_), news_of hh' fun p hp => ?_⟩
  · obtain ⟨p, hp, e⟩ := mem _ q; exact (N p hp).2.1 e
  · obtain ⟨p, hp, rfl⟩ := mem _ ha; exact (N p hp).2.2
  · obtain ⟨q, hq, e⟩ := mem p.1 (by rw [← hl'.map]; exact List.mem_map_of_mem hp)
    rw [← e]; exact (N q hq).2.1

theorem placed_facts {st : Fam} {w : World} {fa : FA} {l : List (Addr × Obj)} {y : Str} (_ : FamIn w (st.placed y) fa l) (e1 : st.ns.length = st.nm.length) (e2 : st.ps.length = st.nm.length) :
    st.at y < (st.placed y).ns.length ∧ (st.placed y).ns.length ≤ st.nm.length + 1 ∧ (st.placed y).nm.length = (st.placed y).ns.length ∧ (st.placed y).ps.length = (st.placed y).ns.length := by
  unfold Fam.placed
  by_cases h : st.nm.contains y = true
  · rw [if_pos h, e1]
    exact ⟨List.idxOf_lt_length_iff.mpr (by simpa using h), by omega, rfl, e2⟩
  · rw [if_neg h]
    have : st.at y = st.nm.length := idxOf_not (by simpa using h)
    rw [this]
    have q1 : (st.ns ++ [(0 : Int)]).length = st.nm.length + 1 := by simp [e1]
    have q2 : (st.ps ++ [(-1 : Int)]).length = st.nm.length + 1 := by simp [e2]
    have q3 : (st.nm ++ [y]).length = st.nm.length + 1 := by simp
    refine ⟨?_, ?_, ?_, ?_⟩
    · show _ < (st.ns ++ [(0 : Int)]).length; omega
    · show (st.ns ++ [(0 : Int)]).length ≤ _; omega
    · exact q3.trans q1.symm
    · exact q2.trans q1.symm
def sharp (n : Int) : Str := Str.ofString "#" ++ Str.ofString (toString n)
def Fam.numAt (st : Fam) (x : Str) : Int := st.ns.getD (st.nm.idxOf x) 0
def Fam.ownName (st : Fam) (n : Int) (x : Str) : Str := if x == Str.ofString "" || (st.nm.contains x && decide (0 < st.numAt x)) then sharp n else x
def Fam.num (st : Fam) (i : Nat) (n : Int) : Fam := ⟨st.nm, st.ns.set i n, st.ps⟩
def Fam.owned (st : Fam) (n : Int) (x : Str) : Fam := (st.placed (st.ownName n x)).num (st.at (st.ownName n x)) n

set_option maxHeartbeats 4000000
local macro_rules | `(tactic| walk_at "eval Name") => `(tactic| (k_here; k_dflt (refine' ld ?k1 ?k2 ?_; (case k1 => k_asm); (case k2 => assumption); k_whole)))
theorem once {B P : Shared → Prop} {G : Prop} (main : (∀ σ, P σ → B σ) → G) (pf : ∀ σ, P σ → B σ) : G := main pf
theorem own_place_c {w : World} {dp un : Nat} {fr : Option (List Env)} {gd : Option (List Code)} {s : Shared} {base : Heap} {R : Result → Shared → Prop} {fa : FA} {st : Fam} {l : List (Addr × Obj)} {n : Int} {x : Str} {t u : Tok}
    (G : Gr w base) (kp : ∀ b o, base.get? b = some o → s.heap.get? b = some o) (hl : FamIn w st fa l) (hh : Has base s.heap l)
    (hz : st.nm.length ≤ 1000) (e1 : st.ns.length = st.nm.length) (e2 : st.ps.length = st.nm.length) (hn : 0 < n) (hn2 : n < 100)
    (hd : dp + 2 < recursionLimit)
    (ret : ∀ h' tk t' l', FamIn w (st.owned n x) fa l' → Has base h' l' → Off fa.all s.heap h' → R (.ok (.ret (.int (st.at (st.ownName n x) : Nat) t'))) { s with heap := h', toks := tk }) :
    codeAny (model PR w) (AR dp un fr gd) (.call (.ref 42) ⟨[.ref fa.fam, .int n u, .str x t], []⟩) R s := by
  have hl0 := hl
  refine FamIn.elim hl fun t1 t2 t3 nd oP n1 n2 vn vp kvs el hP hD hN hA hnd low => ?_
  subst el
  clear hl
  obtain ⟨fam, dx, pl, nu, pa⟩ := fa
  have hnd0 := hnd
  refine nodup5 hnd fun a1 a2 a3 a4 a5 a6 a7 a8 a9 a10 => ?_
  clear hnd
  dsimp only at low ret hh kp ⊢
  refine' enterH _ ?hG ?hkp ?hhh ?hroom ?ho ?hcd ?hbind ?hloc ?hmain ?c1 ?c2 ?c3 ?c4
  (case hG => assumption)
  (case hkp => assumption)
  (case hhh => assumption)
  (case hroom => (show _ < recursionLimit; dsimp only; omega))
  (case ho => k_is)
  (case hcd => k_is)
  (case hbind => exact BindsTo.of_eq rfl)
  (case hloc => exact locs rfl)
  (case c1 => exact rfl)
  (case c2 => exact rfl)
  (case c3 => exact rfl)
  (case c4 => decide)
  k_whole
  intro g L h₁ mean mg mb F N X T fin
  try dsimp only
  refine' once (P := fun σ => ∃ h tk m tm y, σ = { s with heap := h, toks := tk } ∧ Fr g L h m ∧ News g L h [(fam, instObj 73 dx), (dx, dictOf (famD w t1 t2 t3 pl nu pa) nd), (pl, oP), (nu, listO vn n1), (pa, listO vp n2)] ∧
    y = st.ownName n x ∧ m (Str.ofString "name") = some (.str y tm) ∧ m (Str.ofString "self") = some (.ref fam) ∧ m (Str.ofString "number") = some (.int n u)) (fun key => ?main) ?pf
  case main =>
    repeat' (fail_if_success (with_reducible show wpAny _ _ (execs [_, _, _] _) _ _ _)
             walk1)
    rotate_left
    · obtain ⟨v, hv, hv'⟩ := asc_of_isSome (by assumption)
      obtain ⟨hc, rfl⟩ := plc_some hv
      have hlt : st.nm.idxOf x < st.nm.length := List.idxOf_lt_length_iff.mpr (by simpa using hc)
      repeat' (fail_if_success (with_reducible show wpAny _ _ (execs [_, _, _] _) _ _ _)
               walk1)
      · have hname : st.ownName n x = sharp n := by
          unfold Fam.ownName Fam.numAt
          rename 0 < List.getD _ _ _ => hq
          rw [if_pos (by simp only [hc, Bool.true_and, Bool.or_eq_true, decide_eq_true_eq]; exact .inr (by simpa using hq))]
        rename Fr _ _ _ _ => F2
        rename News _ _ _ _ => N2
        show wpAny _ _ _ _ _ _
        exact key _ ⟨_, _, _, _, _, rfl, F2, N2, hname.symm, rfl, rfl, rfl⟩
      · have hname : st.ownName n x = x := by
          unfold Fam.ownName Fam.numAt
          rename ¬ 0 < List.getD _ _ _ => hq
          rw [if_neg (by simp only [*, Bool.true_and, Bool.or_eq_true, decide_eq_true_eq, Bool.false_eq_true, false_or]; simpa using hq)]
        rename Fr _ _ _ _ => F2
        rename News _ _ _ _ => N2
        show wpAny _ _ _ _ _ _
        exact key _ ⟨_, _, _, _, _, rfl, F2, N2, hname.symm, rfl, rfl, rfl⟩
    · have hc := plc_none (asc_of_isNone (by assumption))
      have hname : st.ownName n x = x := by
        unfold Fam.ownName
        rw [if_neg (by simp only [*, Bool.false_and, Bool.or_false]; decide)]
      rename Fr _ _ _ _ => F2
      rename News _ _ _ _ => N2
      show wpAny _ _ _ _ _ _
      exact key _ ⟨_, _, _, _, _, rfl, F2, N2, hname.symm, rfl, rfl, rfl⟩
    · have hname : st.ownName n x = sharp n := by
        unfold Fam.ownName
        rw [if_pos (by simp only [*, Bool.true_or])]
      rename Fr _ _ _ _ => F2
      rename News _ _ _ _ => N2
      show wpAny _ _ _ _ _ _
      exact key _ ⟨_, _, _, _, _, rfl, F2, N2, hname.symm, rfl, rfl, rfl⟩
  case pf =>
    clear F N
    rintro σ ⟨h, tk, m, tm, y, rfl, F1, N1, hy, m1, m2, m3⟩
    subst hy
    repeat' (walk1)
    unfold Fam.owned at ret
    rename Fr _ _ _ _ => F2
    rename News _ _ _ _ => N2
    refine wpAny_call (place_of_c (fa := ⟨fam, dx, pl, nu, pa⟩) ⟨X, _, _, _, T⟩ F2.keep hl0 (Has.of_news N2) hz e1 e2 (by first | omega | (simp only [depth_deeper]; omega) | (dsimp only; omega)) ?_)
    intro h' tk' t' l' hl' hh' off
    obtain ⟨p1, p2, p3, p4⟩ := placed_facts hl' e1 e2
    refine an2 (after_fam F2 N2 hl0 hl' hh' off) fun F3 N3 => ?_
    clear F2 N2
    refine FamIn.elimO hl' fun t1' t2' t3' nd' oP' n1' n2' vn' vp' kvs' el hP' hD' hN' hA' => ?_
    subst el
    clear hl'
    dsimp only at N3 ⊢
    repeat' (walk1)
    rename Fr _ _ _ _ => F4
    rename News _ _ _ _ => N4
    exact ret _ _ _ _ ⟨⟨t1', t2', t3', nd', _, _, _, _, _, _, rfl, hP', hD', ints_set hN' _, hA'⟩, hnd0, low⟩ (hh.next N4 rfl) (fin _ _ _ F4 N4).1

theorem fill3 : (fun (_ : OpenLaw) (_ : Params → Frag) => True) PySem.Challenge.rw_nz0269_01 hd.heap_39 := by
  w_top off
  k_fill
  trivial
set_option maxHeartbeats 4000000
local macro_rules | `(tactic| walk_at "exec While") => `(tactic| refine Hold.mk ?_)
theorem is_above_c {w : World} {dp un : Nat} {fr : Option (List Env)} {gd : Option (List Code)} {s : Shared} {base : Heap} {R : Result → Shared → Prop} {fa : FA} {st : Fam} {l : List (Addr × Obj)} {one o r : Int} {k : Nat} {t u : Tok}
    (G : Gr w base) (kp : ∀ b o, base.get? b = some o → s.heap.get? b = some o) (hl : FamIn w st fa l) (hh : Has base s.heap l)
    (hz : st.ps.length ≤ 1000) (D : UpTo st.ps one o r k)
    (hd : dp + 1 < recursionLimit)
    (ret : ∀ h' tk, Has base h' l → Off [] s.heap h' → R (.ok (.ret (.bool (r == one)))) { s with heap := h', toks := tk }) :
    codeAny (model PR w) (AR dp un fr gd) (.call (.ref 49) ⟨[.ref fa.fam, .int one u, .int o t], []⟩) R s := by
  have hl0 := hl
  refine FamIn.elim hl fun t1 t2 t3 nd oP n1 n2 vn vp kvs el hP hD hN hA hnd low => ?_
  subst el
  clear hl
  obtain ⟨fam, dx, pl, nu, pa⟩ := fa
  dsimp only at low ret hh kp ⊢
  refine' enterH _ ?hG ?hkp ?hhh ?hroom ?ho ?hcd ?hbind ?hloc ?hmain ?c1 ?c2 ?c3 ?c4
  (case hG => assumption)
  (case hkp => assumption)
  (case hhh => assumption)
  (case hroom => (show _ < recursionLimit; dsimp only; omega))
  (case ho => k_is)
  (case hcd => k_is)
  (case hbind => exact BindsTo.of_eq rfl)
  (case hloc => exact locs rfl)
  (case c1 => exact rfl)
  (case c2 => exact rfl)
  (case c3 => exact rfl)
  (case c4 => decide)
  k_whole
  intro g L h₁ mean mg mb F N X T fin
  try dsimp only
  repeat' (walk1)
  refine Hold.out ?_
  refine while_rule (fun n s' => ∃ h' tk o t' m, s' = { s with heap := h', toks := tk } ∧ Fr g L h' m ∧ News g L h' [(fam, instObj 73 dx), (dx, dictOf (famD w t1 t2 t3 pl nu pa) nd), (pl, oP), (nu, listO vn n1), (pa, listO vp n2)] ∧
    m (Str.ofString "self") = some (.ref fam) ∧ m (Str.ofString "one") = some (.int one u) ∧ m (Str.ofString "other") = some (.int o t') ∧ UpTo st.ps one o r n) ?_ k ?_
  · rintro n s' ⟨h', tk, o, t', m, rfl, F', N', m1, m2, m3, D'⟩
    clear F N
    cases D' with
    | stop hs =>
      repeat' (walk1)
      any_goals (exfalso; rcases hs with hs | hs <;> omega)
      all_goals exact ret _ _ (hh.next N' rfl) (off_nil (fin _ _ _ F' N').1 (fun p hp => (hh p hp).1) (fun p hp => (N' p hp).1))
    | step q1 q2 q3 D' =>
      repeat' (walk1)
      any_goals (exfalso; omega)
      rename Fr _ _ _ _ => F3
      rename News _ _ _ _ => N3
      exact Hold.out ⟨_, Nat.lt_succ_self _, _, _, _, _, _, rfl, F3, N3, set_ne m1, set_ne m2, set_at _ _ _, D'⟩
  · exact ⟨_, _, o, t, _, rfl, F, N, rfl, rfl, rfl, D⟩

theorem fill4 : (fun (_ : OpenLaw) (_ : Params → Frag) => True) PySem.Challenge.rw_nz0269_01 hd.heap_39 := by
  w_top off
  k_fill
  trivial
set_option maxHeartbeats 4000000
def Fam.joined (st : Fam) (parent kid r : Int) : Fam := if r == kid then st else ⟨st.nm, st.ns, st.ps.set kid.toNat parent⟩
theorem join_c {w : World} {dp un : Nat} {fr : Option (List Env)} {gd : Option (List Code)} {s : Shared} {base : Heap} {R : Result → Shared → Prop} {fa : FA} {st : Fam} {l : List (Addr × Obj)} {parent kid r : Int} {k : Nat} {t u : Tok}
    (G : Gr w base) (kp : ∀ b o, base.get? b = some o → s.heap.get? b = some o) (hl : FamIn w st fa l) (hh : Has base s.heap l)
    (hz : st.ps.length ≤ 1000) (hk0 : 0 ≤ kid) (hk1 : kid < st.ps.length) (D : UpTo st.ps kid parent r k)
    (hd : dp + 2 < recursionLimit)
    (ret : ∀ h' tk l', FamIn w (st.joined parent kid r) fa l' → Has base h' l' → Off fa.all s.heap h' → R (.ok (.ret .none)) { s with heap := h', toks := tk }) :
    codeAny (model PR w) (AR dp un fr gd) (.call (.ref 56) ⟨[.ref fa.fam, .int parent t, .int kid u], []⟩) R s := by
  have hl0 := hl
  refine FamIn.elim hl fun t1 t2 t3 nd oP n1 n2 vn vp kvs el hP hD hN hA hnd low => ?_
  subst el
  clear hl
  obtain ⟨fam, dx, pl, nu, pa⟩ := fa
  have hnd0 := hnd
  simp only [List.nodup_cons, List.mem_cons, List.not_mem_nil, or_false, not_or, not_false_eq_true, List.nodup_nil, and_true] at hnd
  obtain ⟨⟨a1, a2, a3, a4⟩, ⟨a5, a6, a7⟩, ⟨a8, a9⟩, a10⟩ := hnd
  replace a1 := neN a1; replace a2 := neN a2; replace a3 := neN a3; replace a4 := neN a4; replace a5 := neN a5; replace a6 := neN a6; replace a7 := neN a7; replace a8 := neN a8; replace a9 := neN a9; replace a10 := neN a10
  dsimp only at low ret hh kp ⊢
  refine' enterH _ ?hG ?hkp ?hhh ?hroom ?ho ?hcd ?hbind ?hloc ?hmain ?c1 ?c2 ?c3 ?c4
  (case hG => assumption)
  (case hkp => assumption)
  (case hhh => assumption)
  (case hroom => (show _ < recursionLimit; dsimp only; omega))
  (case ho => k_is)
  (case hcd => k_is)
  (case hbind => exact BindsTo.of_eq rfl)
  (case hloc => exact locs rfl)
  (case c1 => exact rfl)
  (case c2 => exact rfl)
  (case c3 => exact rfl)
  (case c4 => decide)
  k_whole
  intro g L h₁ mean mg mb F N X T fin
  try dsimp only
  repeat' (walk1)
  refine wpAny_call (is_above_c (fa := ⟨fam, dx, pl, nu, pa⟩) ⟨X, _, _, _, T⟩ F.keep hl0 (Has.of_news N) hz D (by first | omega | (simp only [depth_deeper]; omega) | (dsimp only; omega)) ?_)
  intro h' tk' hh' off
  obtain ⟨F3, N3⟩ := after_fam F N hl0 hl0 hh' off.mono'
  clear F N
  dsimp only at N3 ⊢
  repeat' (walk1)
  · rename r = kid => hq
    have hj : st.joined parent kid r = st := by unfold Fam.joined; rw [if_pos (by simpa using hq)]
    rw [hj] at ret
    exact ret _ _ _ hl0 (hh.next N3 rfl) (fin _ _ _ F3 N3).1
  · rename r ≠ kid => hq
    have hj : st.joined parent kid r = ⟨st.nm, st.ns, st.ps.set kid.toNat parent⟩ := by unfold Fam.joined; rw [if_neg (by simpa using hq)]
    rw [hj] at ret
    rename Fr _ _ _ _ => F4
    rename News _ _ _ _ => N4
    exact ret _ _ _ ⟨⟨t1, t2, t3, nd, _, _, _, _, _, _, rfl, hP, hD, hN, ints_set hA _⟩, hnd0, low⟩ (hh.next N4 rfl) (fin _ _ _ F4 N4).1

def chain (ps : List Int) : Nat → Int → List Int
  | 0, _ => []
  | f + 1, o => if o < 0 then [] else o :: chain ps f (ps.getD o.toNat 0)
def Fam.chn (st : Fam) (o : Int) : List Int := chain st.ps (st.ps.length + 1) o
def Fam.join (st : Fam) (parent kid : Int) : Fam := if (st.chn parent).contains kid then st else ⟨st.nm, st.ns, st.ps.set kid.toNat parent⟩

theorem UpTo.det {ps : List Int} {one : Int} : ∀ {k o r r' k'}, UpTo ps one o r k → UpTo ps one o r' k' → r = r' ∧ k = k' := by
  intro k
  induction k with
  | zero =>
    intro o r r' k' h h'
    cases h with
    | stop hs =>
      cases h' with
      | stop _ => exact ⟨rfl, rfl⟩
      | step a b c d => exfalso; rcases hs with hs | hs <;> omega
  | succ k ih =>
    intro o r r' k' h h'
    cases h with
    | step a b c d =>
      cases h' with
      | stop hs => exfalso; rcases hs with hs | hs <;> omega
      | step a' b' c' d' => obtain ⟨e1, e2⟩ := ih d d'; exact ⟨e1, by omega⟩

/-- the way up ends -/
abbrev Ends (ps : List Int) (o : Int) (k : Nat) : Prop := UpTo ps (-1) o (-1) k

theorem Ends.chain_len {ps : List Int} : ∀ {k o}, Ends ps o k → ∀ f, k ≤ f → (chain ps f o).length = k := by
  intro k
  induction k with
  | zero =>
    intro o h f _
    cases h with
    | stop hs =>
      cases f with
      | zero => rfl
      | succ f => simp [chain]
  | succ k ih =>
    intro o h f hf
    cases h with
    | step a b c d =>
      cases f with
      | zero => omega
      | succ f =>
        unfold chain
        rw [if_neg (by omega), List.length_cons, ih d f (by omega)]
theorem Ends.chain_lt {ps : List Int} : ∀ {k o}, Ends ps o k → ∀ f, ∀ x ∈ chain ps f o, (0 ≤ x ∧ x < ps.length) ∧ ∃ j, 0 < j ∧ j ≤ k ∧ Ends ps x j := by
  intro k
  induction k with
  | zero =>
    intro o h f x hx
    cases h with
    | stop hs =>
      cases f with
      | zero => cases hx
      | succ f => simp [chain] at hx
  | succ k ih =>
    intro o h f x hx
    have h0 := h
    cases h with
    | step a b c d =>
      cases f with
      | zero => cases hx
      | succ f =>
        unfold chain at hx
        rw [if_neg (by omega)] at hx
        rcases List.mem_cons.mp hx with rfl | hx
        · exact ⟨⟨a, c⟩, k + 1, by omega, Nat.le_refl _, h0⟩
        · obtain ⟨r, j, q1, q2, q3⟩ := ih d f x hx
          exact ⟨r, j, q1, by omega, q3⟩
theorem Ends.nodup {ps : List Int} : ∀ {k o}, Ends ps o k → ∀ f, (chain ps f o).Nodup := by
  intro k
  induction k with
  | zero =>
    intro o h f
    cases h with
    | stop hs =>
      cases f with
      | zero => exact List.nodup_nil
      | succ f => simp [chain]
  | succ k ih =>
    intro o h f
    have h0 := h
    cases h with
    | step a b c d =>
      cases f with
      | zero => exact List.nodup_nil
      | succ f =>
        unfold chain
        rw [if_neg (by omega)]
        refine List.nodup_cons.mpr ⟨fun hm => ?_, ih d f⟩
        obtain ⟨_, j, _, q2, q3⟩ := Ends.chain_lt d f o hm
        have := (UpTo.det h0 q3).2
        omega
theorem nodup_bound : ∀ (n : Nat) (l : List Int), l.Nodup → (∀ x ∈ l, 0 ≤ x ∧ x < (n : Int)) → l.length ≤ n := by
  intro n
  induction n with
  | zero =>
    intro l _ h
    cases l with
    | nil => exact Nat.le_refl _
    | cons x r => have := h x (.head _); omega
  | succ n ih =>
    intro l hn h
    by_cases hm : (n : Int) ∈ l
    · have h1 := ih (l.erase n) (hn.erase _) (fun x hx => by
        have h2 := (hn.mem_erase_iff).mp hx
        have := h x h2.2
        have : x ≠ (n : Int) := h2.1
        omega)
      rw [List.length_erase_of_mem hm] at h1
      omega
    · have h1 := ih l hn (fun x hx => by
        have := h x hx
        have : x ≠ (n : Int) := fun e => hm (e ▸ hx)
        omega)
      omega
theorem Ends.le {ps : List Int} {k : Nat} {o : Int} (h : Ends ps o k) : k ≤ ps.length := by
  have h1 := nodup_bound ps.length _ (Ends.nodup h k) (fun x hx => (Ends.chain_lt h k x hx).1)
  rw [Ends.chain_len h k (Nat.le_refl _)] at h1
  exact h1

/-- the loop for one, told by the chain -/
theorem Ends.upto {ps : List Int} : ∀ {k o}, Ends ps o k → ∀ f, k ≤ f → ∀ one, 0 ≤ one → ∃ r j, UpTo ps one o r j ∧ (r == one) = (chain ps f o).contains one := by
  intro k
  induction k with
  | zero =>
    intro o h f _ one h1
    cases h with
    | stop hs =>
      refine ⟨-1, 0, .stop (.inl (by omega)), ?_⟩
      cases f with
      | zero =>
        have : ((-1 : Int) == one) = false := by simp; omega
        rw [this]; rfl
      | succ f =>
        have : ((-1 : Int) == one) = false := by simp; omega
        rw [this]; simp [chain]
  | succ k ih =>
    intro o h f hf one h1
    cases h with
    | step a b c d =>
      cases f with
      | zero => omega
      | succ f =>
        by_cases q : o = one
        · refine ⟨o, 0, .stop (.inr q), ?_⟩
          unfold chain
          rw [if_neg (by omega)]
          simp [q]
        · obtain ⟨r, j, u, e⟩ := ih d f (by omega) one h1
          refine ⟨r, j + 1, .step a q c u, ?_⟩
          unfold chain
          rw [if_neg (by omega), e]
          have : (one == o) = false := by simpa using fun e => q e.symm
          simp only [List.contains_cons, this, Bool.false_or]

structure Good (st : Fam) : Prop where
  e1 : st.ns.length = st.nm.length
  e2 : st.ps.length = st.nm.length
  nd : st.nm.Nodup
  rng : ∀ p ∈ st.ps, -1 ≤ p ∧ p < st.nm.length
  fin : ∀ i : Nat, i < st.nm.length → ∃ k, Ends st.ps i k

theorem Good.ends {st : Fam} (G : Good st) {o : Int} (h0 : 0 ≤ o) (h1 : o < st.nm.length) : ∃ k, Ends st.ps o k := by
  obtain ⟨k, hk⟩ := G.fin o.toNat (by omega)
  exact ⟨k, by rw [Int.toNat_of_nonneg h0] at hk; exact hk⟩
theorem Good.upto {st : Fam} (G : Good st) {o one : Int} (h0 : 0 ≤ o) (h1 : o < st.nm.length) (h2 : 0 ≤ one) : ∃ r j, UpTo st.ps one o r j ∧ (r == one) = (st.chn o).contains one := by
  obtain ⟨k, hk⟩ := G.ends h0 h1
  exact Ends.upto hk _ (by have := Ends.le hk; omega) one h2

theorem getD_app (ps t : List Int) (i : Nat) (h : i < ps.length) : (ps ++ t).getD i 0 = ps.getD i 0 := by
  simp [List.getD, List.getElem?_append_left h]
theorem getD_set (ps : List Int) (j : Nat) (v : Int) (i : Nat) : (ps.set j v).getD i 0 = if i = j ∧ j < ps.length then v else ps.getD i 0 := by
  simp only [List.getD, List.getElem?_set]
  by_cases h : j = i
  · subst h
    by_cases q : j < ps.length
    · simp [q]
    · simp [q, List.getElem?_eq_none (Nat.le_of_not_lt q)]
  · rw [if_neg h, if_neg (fun e => h e.1.symm)]
theorem Ends.app {ps : List Int} (t : List Int) : ∀ {k o}, Ends ps o k → Ends (ps ++ t) o k := by
  intro k
  induction k with
  | zero => intro o h; cases h with | stop hs => exact .stop hs
  | succ k ih =>
    intro o h
    cases h with
    | step a b c d =>
      refine .step a b (by simp; omega) ?_
      rw [getD_app _ _ _ (by omega)]
      exact ih d
theorem Ends.cut {ps : List Int} (i : Nat) (hi : i < ps.length) : ∀ {k o}, Ends ps o k → ∃ k', Ends (ps.set i (-1)) o k' := by
  intro k
  induction k with
  | zero => intro o h; cases h with | stop hs => exact ⟨0, .stop hs⟩
  | succ k ih =>
    intro o h
    cases h with
    | step a b c d =>
      obtain ⟨k', hk'⟩ := ih d
      by_cases q : o.toNat = i
      · refine ⟨0 + 1, .step a b (by simpa using c) ?_⟩
        rw [getD_set, if_pos ⟨q, hi⟩]
        exact .stop (.inl (by omega))
      · refine ⟨k' + 1, .step a b (by simpa using c) ?_⟩
        rw [getD_set, if_neg (fun e => q e.1)]
        exact hk'
theorem Ends.keep_off {ps : List Int} (i : Nat) (v : Int) : ∀ {k o}, Ends ps o k → ∀ f, k ≤ f → (i : Int) ∉ chain ps f o → Ends (ps.set i v) o k := by
  intro k
  induction k with
  | zero => intro o h _ _ _; cases h with | stop hs => exact .stop hs
  | succ k ih =>
    intro o h f hf hm
    cases h with
    | step a b c d =>
      cases f with
      | zero => omega
      | succ f =>
        unfold chain at hm
        rw [if_neg (by omega)] at hm
        have hne : o.toNat ≠ i := fun e => hm (by rw [← e, Int.toNat_of_nonneg a]; exact .head _)
        refine .step a b (by simpa using c) ?_
        rw [getD_set, if_neg (fun e => hne e.1)]
        exact ih d f (by omega) (fun q => hm (.tail _ q))
theorem Ends.join {ps : List Int} (i : Nat) (v : Int) (kv : Nat) (hi : i < ps.length) (hv : Ends (ps.set i v) v kv) : ∀ {k o}, Ends ps o k → ∃ k', Ends (ps.set i v) o k' := by
  intro k
  induction k with
  | zero => intro o h; cases h with | stop hs => exact ⟨0, .stop hs⟩
  | succ k ih =>
    intro o h
    cases h with
    | step a b c d =>
      obtain ⟨k', hk'⟩ := ih d
      by_cases q : o.toNat = i
      · refine ⟨kv + 1, .step a b (by simpa using c) ?_⟩
        rw [getD_set, if_pos ⟨q, hi⟩]
        exact hv
      · refine ⟨k' + 1, .step a b (by simpa using c) ?_⟩
        rw [getD_set, if_neg (fun e => q e.1)]
        exact hk'

theorem Good.placed {st : Fam} (G : Good st) (x : Str) : Good (st.placed x) := by
  by_cases h : st.nm.contains x = true
  · rw [placed_has h]; exact G
  · have h' : st.nm.contains x = false := by simpa using h
    rw [placed_not h']
    have hx : x ∉ st.nm := by simpa using h'
    refine ⟨by simp [G.e1], by simp [G.e2], ?_, ?_, ?_⟩
    · rw [List.nodup_append]
      refine ⟨G.nd, by simp, fun a ha b hb e => ?_⟩
      rw [List.mem_singleton.mp hb] at e
      exact hx (e ▸ ha)
    · intro p hp
      simp only [List.length_append, List.length_cons, List.length_nil]
      rcases List.mem_append.mp hp with hp | hp
      · have := G.rng p hp; omega
      · rw [List.mem_singleton.mp hp]; omega
    · intro i hi
      simp only [List.length_append, List.length_cons, List.length_nil] at hi
      by_cases q : i < st.nm.length
      · obtain ⟨k, hk⟩ := G.fin i q
        exact ⟨k, Ends.app _ hk⟩
      · have : i = st.ps.length := by have := G.e2; omega
        subst this
        refine ⟨0 + 1, .step (by omega) (by omega) (by simp; omega) ?_⟩
        have : (st.ps ++ [(-1 : Int)]).getD ((st.ps.length : Int).toNat) 0 = -1 := by simp [List.getD]
        rw [this]
        exact .stop (.inl (by omega))
theorem Good.num {st : Fam} (G : Good st) (i : Nat) (n : Int) : Good (st.num i n) := ⟨by simp [Fam.num, G.e1], G.e2, G.nd, G.rng, G.fin⟩
def Fam.cut (st : Fam) (i : Nat) : Fam := ⟨st.nm, st.ns, st.ps.set i (-1)⟩
theorem Good.cut {st : Fam} (G : Good st) (i : Nat) (hi : i < st.nm.length) : Good (st.cut i) := by
  refine ⟨G.e1, by simp [Fam.cut, G.e2], G.nd, fun p hp => ?_, fun j hj => ?_⟩
  · rcases List.mem_or_eq_of_mem_set hp with h | h
    · exact G.rng p h
    · subst h; show _ ∧ (-1 : Int) < (st.nm.length : Int); omega
  · obtain ⟨k, hk⟩ := G.fin j hj
    exact Ends.cut i (by rw [G.e2]; exact hi) hk
theorem Good.join {st : Fam} (G : Good st) {parent kid : Int} (p0 : 0 ≤ parent) (p1 : parent < st.nm.length) (k0 : 0 ≤ kid) (k1 : kid < st.nm.length) : Good (st.join parent kid) := by
  unfold Fam.join
  split
  · exact G
  · rename_i hc
    refine ⟨G.e1, by simp [G.e2], G.nd, fun p hp => ?_, fun j hj => ?_⟩
    · rcases List.mem_or_eq_of_mem_set hp with h | h
      · exact G.rng p h
      · rw [h]; show _ ∧ parent < (st.nm.length : Int); omega
    · obtain ⟨k, hk⟩ := G.fin j hj
      obtain ⟨kv, hv⟩ := G.ends p0 p1
      have hlt : kid.toNat < st.ps.length := by rw [G.e2]; omega
      refine Ends.join kid.toNat parent kv hlt (Ends.keep_off _ _ hv (st.ps.length + 1) (by have := Ends.le hv; omega) ?_) hk
      rw [Int.toNat_of_nonneg k0]
      intro hm
      exact hc (by simpa [Fam.chn] using hm)
theorem join_eq {st : Fam} {parent kid r : Int} (e : (r == kid) = (st.chn parent).contains kid) : st.joined parent kid r = st.join parent kid := by
  unfold Fam.joined Fam.join
  rw [e]

def Fam.turn (p : Fam × Int) (x : Str) : Fam × Int :=
  (if 0 ≤ p.2 ∧ (p.1.placed x).ps.getD (p.1.at x) 0 < 0 then (p.1.placed x).join p.2 (p.1.at x : Nat) else p.1.placed x, (p.1.at x : Nat))
def Fam.refd (st : Fam) (n : Int) (x : Str) (refs : List Str) : Fam × Int := refs.foldl Fam.turn (st.owned n x, -1)
def Fam.ended (q : Fam × Int) (own : Nat) : Fam := if 0 ≤ q.2 then (q.1.cut own).join q.2 (own : Nat) else q.1.cut own
def Fam.add (st : Fam) (n : Int) (x : Str) (refs : List Str) : Fam := Fam.ended (st.refd n x refs) (st.at (st.ownName n x))

theorem join_nm (st : Fam) (a b : Int) : (st.join a b).nm = st.nm := by unfold Fam.join; split <;> rfl
theorem placed_len (st : Fam) (x : Str) : st.nm.length ≤ (st.placed x).nm.length ∧ (st.placed x).nm.length ≤ st.nm.length + 1 ∧ st.at x < (st.placed x).nm.length := by
  by_cases h : st.nm.contains x = true
  · rw [placed_has h]
    exact ⟨Nat.le_refl _, by omega, List.idxOf_lt_length_iff.mpr (by simpa using h)⟩
  · have h' : st.nm.contains x = false := by simpa using h
    rw [placed_not h']
    have : st.at x = st.nm.length := idxOf_not h'
    simp only [List.length_append, List.length_cons, List.length_nil]
    omega
structure TurnOk (p : Fam × Int) : Prop where
  good : Good p.1
  lo : -1 ≤ p.2
  hi : p.2 < p.1.nm.length
theorem turn_ok {p : Fam × Int} (H : TurnOk p) (x : Str) : TurnOk (Fam.turn p x) ∧ p.1.nm.length ≤ (Fam.turn p x).1.nm.length ∧ (Fam.turn p x).1.nm.length ≤ p.1.nm.length + 1 := by
  obtain ⟨a, b, c⟩ := placed_len p.1 x
  have G := H.good.placed x
  have e : (Fam.turn p x).1.nm = (p.1.placed x).nm := by
    unfold Fam.turn
    dsimp only
    split
    · exact join_nm _ _ _
    · rfl
  refine ⟨⟨?_, ?_, ?_⟩, by rw [e]; exact a, by rw [e]; exact b⟩
  · unfold Fam.turn
    dsimp only
    split
    · rename_i h
      exact G.join h.1 (by have := H.hi; omega) (by omega) (by omega)
    · exact G
  · show (-1 : Int) ≤ (p.1.at x : Nat); omega
  · rw [e]; show ((p.1.at x : Nat) : Int) < _; omega
theorem turns_ok (refs : List Str) : ∀ {p : Fam × Int}, TurnOk p → TurnOk (refs.foldl Fam.turn p) ∧ p.1.nm.length ≤ (refs.foldl Fam.turn p).1.nm.length ∧ (refs.foldl Fam.turn p).1.nm.length ≤ p.1.nm.length + refs.length := by
  induction refs with
  | nil => intro p H; exact ⟨H, Nat.le_refl _, Nat.le_refl _⟩
  | cons x r ih =>
    intro p H
    obtain ⟨a, b, c⟩ := turn_ok H x
    obtain ⟨a', b', c'⟩ := ih a
    simp only [List.foldl_cons, List.length_cons]
    exact ⟨a', by omega, by omega⟩
theorem Good.owned {st : Fam} (G : Good st) (n : Int) (x : Str) : Good (st.owned n x) := (G.placed _).num _ _
theorem owned_len (st : Fam) (n : Int) (x : Str) : st.nm.length ≤ (st.owned n x).nm.length ∧ (st.owned n x).nm.length ≤ st.nm.length + 1 ∧ st.at (st.ownName n x) < (st.owned n x).nm.length := placed_len st (st.ownName n x)
theorem owned_ok {st : Fam} (G : Good st) (n : Int) (x : Str) : TurnOk (st.owned n x, -1) := ⟨G.owned n x, by show (-1 : Int) ≤ -1; omega, by show (-1 : Int) < _; omega⟩
theorem refd_ok {st : Fam} (G : Good st) (n : Int) (x : Str) (refs : List Str) : TurnOk (st.refd n x refs) ∧ st.at (st.ownName n x) < (st.refd n x refs).1.nm.length ∧ (st.refd n x refs).1.nm.length ≤ st.nm.length + 1 + refs.length := by
  obtain ⟨a, b, c⟩ := owned_len st n x
  obtain ⟨d, e, f⟩ := turns_ok refs (owned_ok G n x)
  exact ⟨d, Nat.lt_of_lt_of_le c e, by unfold Fam.refd; dsimp only at f; omega⟩
theorem Good.add {st : Fam} (G : Good st) (n : Int) (x : Str) (refs : List Str) : Good (st.add n x refs) := by
  obtain ⟨a, b, c⟩ := refd_ok G n x refs
  unfold Fam.add Fam.ended
  split
  · rename_i h
    exact (a.good.cut _ b).join h a.hi (by omega) (by show (_ : Int) < ((st.refd n x refs).1.nm.length : Int); omega)
  · exact a.good.cut _ b
theorem add_nm (st : Fam) (n : Int) (x : Str) (refs : List Str) : (st.add n x refs).nm = (st.refd n x refs).1.nm := by
  unfold Fam.add Fam.ended
  split
  · rw [join_nm]; rfl
  · rfl

theorem fill5 : (fun (_ : OpenLaw) (_ : Params → Frag) => True) PySem.Challenge.rw_nz0269_01 hd.heap_39 := by
  w_top off
  k_fill
  trivial
set_option maxHeartbeats 4000000
local macro_rules | `(tactic| walk_at "exec For Name Name cons nil") => `(tactic| refine Hold.mk ?_)
theorem stable_led {g h h' : Heap} {L I : Addr} {m : Str → Option Value} {led : List (Addr × Obj)} (F : Fr g L h m) (N : News g L h led) (hI : L ≠ I) (hg : g.get? I = none) (hled : ∀ p ∈ led, p.1 ≠ I) (off : Off [I] h h') : Fr g L h' m ∧ News g L h' led :=
  ⟨after_F F off (fun q => hI (List.mem_singleton.mp q)) (fun a ha => by rw [List.mem_singleton.mp ha]; exact hg), after_N N off fun p hp q => hled p hp (List.mem_singleton.mp q)⟩
theorem after_famR {w : World} {g h h' : Heap} {L : Addr} {m : Str → Option Value} {l l' rest : List (Addr × Obj)} {st st' : Fam} {fa : FA} (hl : FamIn w st fa l) (hl' : FamIn w st' fa l') (F : Fr g L h m) (N : News g L h (l ++ rest)) (hh' : Has g h' l') (off : Off fa.all h h') (hr : ∀ p ∈ rest, p.1 ∉ fa.all) :
    Fr g L h' m ∧ News g L h' (l' ++ rest) := by
  obtain ⟨F', N'⟩ := after_fam F (Mine.News.subs N fun p hp => List.mem_append_left _ hp) hl hl' hh' off
  exact ⟨F', Mine.News.both N' (after_N (Mine.News.subs N fun p hp => List.mem_append_right _ hp) off hr)⟩

theorem strs_get {vs : List Value} {ys : List Str} (h : StrsAre vs ys) : ∀ (i : Nat) {v : Value}, vs[i]? = some v → ∃ y t, v = .str y t ∧ ys[i]? = some y := by
  induction h with
  | nil => intro i v e; simp at e
  | cons y t _ ih =>
    intro i v e
    cases i with
    | zero => simp at e; exact ⟨y, t, e.symm, rfl⟩
    | succ i => simp at e; obtain ⟨y', t', a, b⟩ := ih i e; exact ⟨y', t', a, by simpa using b⟩
theorem strs_len {vs : List Value} {ys : List Str} (h : StrsAre vs ys) : vs.length = ys.length := by
  induction h with
  | nil => rfl
  | cons _ _ _ ih => simp [ih]
theorem off_keep {S : List Addr} {a : Addr} {o : Obj} {h h' : Heap} (k : Off (S ++ [a]) h h') (e : h.get? a = some o) (e' : h'.get? a = some o) : Off S h h' := fun b ob eb nb => by
  by_cases q : b = a
  · subst q; rw [e] at eb; rw [e']; exact eb
  · exact k b ob eb fun x => (List.mem_append.mp x).elim nb fun x => q (List.mem_singleton.mp x)
theorem News.ne_top {g h : Heap} {L : Addr} {l : List (Addr × Obj)} (N : News g L h l) : ∀ a ∈ l.map (·.1), a ≠ h.objs.size := fun a ha => by
  obtain ⟨q, hq, rfl⟩ := List.mem_map.mp ha
  exact Nat.ne_of_lt (Heap.lt_size (N q hq).1)
theorem led_ne {w : World} {st : Fam} {fa : FA} {l' rest : List (Addr × Obj)} {I : Addr} (H : FamIn w st fa l') (h : ∀ a ∈ fa.all ++ rest.map (·.1), a ≠ I) : ∀ p ∈ l' ++ rest, p.1 ≠ I := fun p hp => by
  have := List.mem_map_of_mem (f := Prod.fst) hp
  rw [List.map_append, H.map] at this
  exact h _ this
theorem News.pushed {g h : Heap} {L : Addr} {l : List (Addr × Obj)} (N : News g L h l) (o : Obj) : News g L (h.push o) l := fun p hp => ⟨Heap.get?_push_of_some _ (N p hp).1, (N p hp).2⟩
theorem foldl_take {α β : Type} (f : β → α → β) (b : β) (l : List α) (i : Nat) {x : α} (h : l[i]? = some x) : (l.take (i + 1)).foldl f b = f ((l.take i).foldl f b) x := by
  rw [List.take_add_one, h, Option.toList_some, List.foldl_append]; rfl
theorem add_c {w : World} {dp un : Nat} {fr : Option (List Env)} {gd : Option (List Code)} {s : Shared} {base : Heap} {R : Result → Shared → Prop} {fa : FA} {st : Fam} {l : List (Addr × Obj)} {n : Int} {x : Str} {rl : Addr} {vr : List Value} {refs : List Str} {nr : Nat} {t u : Tok}
    (G : Gr w base) (kp : ∀ b o, base.get? b = some o → s.heap.get? b = some o) (hl : FamIn w st fa l) (hh : Has base s.heap (l ++ [(rl, listO vr nr)])) (hr : StrsAre vr refs) (hrl : rl ∉ fa.all)
    (good : Good st) (hz : st.nm.length + refs.length ≤ 900) (hn : 0 < n) (hn2 : n < 100)
    (hd : dp + 4 < recursionLimit)
    (ret : ∀ h' tk l', FamIn w (st.add n x refs) fa l' → Has base h' (l' ++ [(rl, listO vr nr)]) → Off fa.all s.heap h' → R (.ok (.ret .none)) { s with heap := h', toks := tk }) :
    codeAny (model PR w) (AR dp un fr gd) (.call (.ref 63) ⟨[.ref fa.fam, .int n u, .str x t, .ref rl], []⟩) R s := by
  have hl0 := hl
  refine FamIn.elim hl fun t1 t2 t3 nd oP n1 n2 vn vp kvs el hP hD hN hA hnd low => ?_
  subst el
  clear hl
  obtain ⟨fam, dx, pl, nu, pa⟩ := fa
  have hnd0 := hnd
  refine nodup5 hnd fun a1 a2 a3 a4 a5 a6 a7 a8 a9 a10 => ?_
  clear hnd
  refine ne5 hrl fun b1 b2 b3 b4 b5 => ?_
  dsimp only at low ret hh kp ⊢
  refine' enterH _ ?hG ?hkp ?hhh ?hroom ?ho ?hcd ?hbind ?hloc ?hmain ?c1 ?c2 ?c3 ?c4
  (case hG => assumption)
  (case hkp => assumption)
  (case hhh => assumption)
  (case hroom => (show _ < recursionLimit; dsimp only; omega))
  (case ho => k_is)
  (case hcd => k_is)
  (case hbind => exact BindsTo.of_eq rfl)
  (case hloc => exact locs rfl)
  (case c1 => exact rfl)
  (case c2 => exact rfl)
  (case c3 => exact rfl)
  (case c4 => decide)
  k_whole
  intro g L h₁ mean mg mb F N X T fin
  try dsimp only
  have hrest : ∀ p ∈ [(rl, listO vr nr)], p.1 ∉ [fam, dx, pl, nu, pa] := by
    exact allc hrl alln
  repeat' (walk1)
  refine wpAny_call (own_place_c (fa := ⟨fam, dx, pl, nu, pa⟩) ⟨X, _, _, _, T⟩ F.keep hl0 ((Has.of_news N).sub (fun p hp => List.mem_append_left _ hp)) (by omega) good.e1 good.e2 hn hn2 (by first | omega | (simp only [depth_deeper]; omega) | (dsimp only; omega)) ?_)
  intro h' tk' to l' hl' hh' off
  refine an2 (after_famR hl0 hl' F N hh' off hrest) fun F3 N3 => ?_
  have hl1 := hl'
  refine FamIn.elimO hl' fun t1' t2' t3' nd' oP' n1' n2' vn' vp' kvs' el hP' hD' hN' hA' => ?_
  subst el
  clear hl'
  dsimp only [List.cons_append, List.nil_append] at N3 ⊢
  clear F N
  repeat' (walk1)
  refine Hold.out ?_
  rename Fr _ _ _ _ => F4
  rename News _ _ _ _ => N4
  have N5 := Mine.News.subs N4 (fun p hp => List.mem_cons_of_mem _ hp)
  clear N4
  refine wpAny_For ?_
  walk1
  refine for_list (vs := vr) (lo := listO vr nr) rfl (N5 (rl, listO vr nr) (by k_mem)).1 rfl ⟨nr, rfl⟩ (fun i h => ∃ m l' tb, Fr g L h m ∧ News g L h (l' ++ [(rl, listO vr nr)]) ∧ FamIn w ((refs.take i).foldl Fam.turn (st.owned n x, -1)).1 ⟨fam, dx, pl, nu, pa⟩ l' ∧
    m (Str.ofString "self") = some (.ref fam) ∧ m (Str.ofString "own") = some (.int (st.at (st.ownName n x) : Nat) to) ∧ m (Str.ofString "before") = some (.int ((refs.take i).foldl Fam.turn (st.owned n x, -1)).2 tb)) ?_ ?_ ?_ ?_ ?_
  · intro it _
    exact ⟨_, _, _, F4.push it, News.pushed N5 it, hl1, rfl, rfl, rfl⟩
  · intro i h h' hInv off
    refine ex3 hInv fun m l' tb hQ => an6 hQ fun F N H m1 m2 m3 => ?_
    clear hQ hInv
    obtain ⟨F', N'⟩ := stable_led F N (Nat.ne_of_lt F4.ns.lt) (next_is_new F4) (led_ne H (News.ne_top N5)) off
    exact ⟨m, l', tb, F', N', H, m1, m2, m3⟩
  · intro i h hInv
    refine ex3 hInv fun m l' tb hQ => an6 hQ fun F N H m1 m2 m3 => ?_
    clear hQ hInv
    exact (N _ (List.mem_append_right _ (.head _))).1
  · intro i v h tk it hv hic hit hInv
    refine ex3 hInv fun m l' tb hQ => an6 hQ fun F N H m1 m2 m3 => ?_
    clear hQ hInv
    obtain ⟨r, tr, rfl, hri⟩ := strs_get hr i hv
    have hsz := News.ne_top N5
    have hIL := (Nat.ne_of_lt F4.ns.lt)
    have hIg := next_is_new F4
    generalize hI : Heap.objs _ = ob at hit hsz hIL hIg ⊢
    have c1 := neN (hsz fam (by k_mem)); have c2 := neN (hsz dx (by k_mem)); have c3 := neN (hsz pl (by k_mem)); have c4 := neN (hsz nu (by k_mem)); have c5 := neN (hsz pa (by k_mem)); have c6 := neN (hsz rl (by k_mem))
    have N6 : News g L h (l' ++ [(rl, listO vr nr), (ob.size, it)]) := 
      News.both (Mine.News.left N) (Mine.News.cons (Mine.News.right N _ (.head _)) (Mine.News.cons (l := []) ⟨hit, fun e => hIL e.symm, hIg⟩ (fun _ h => nomatch h)))
    clear N hit N5 F4
    have hi : i < refs.length := (List.getElem?_eq_some_iff.mp hri).1
    obtain ⟨tok, tl1, tl2⟩ := turns_ok (refs.take i) (owned_ok good n x)
    have tl3 := owned_len st n x
    have hft := foldl_take Fam.turn (st.owned n x, -1) refs i hri
    generalize (refs.take i).foldl Fam.turn (st.owned n x, -1) = q at *
    have hlen2 : (refs.take i).length = i := by simp; omega
    dsimp only at tl1 tl2
    refine FamIn.elimO H fun t1 t2 t3 nd oQ n1 n2 vn vp kvs el hPq hDq hNq hAq => ?_
    subst el
    dsimp only [List.cons_append, List.nil_append] at N6
    have hrest : ∀ p ∈ [(rl, listO vr nr), (ob.size, it)], p.1 ∉ [fam, dx, pl, nu, pa] := by
      exact allc hrl (allc (not_all_of (Ne.symm c1) (Ne.symm c2) (Ne.symm c3) (Ne.symm c4) (Ne.symm c5)) alln)
    repeat' (walk1)
    rename Fr _ _ _ _ => F7
    rename News _ _ _ _ => N7
    have hlq : FamIn w q.1 ⟨fam, dx, pl, nu, pa⟩ [(fam, instObj 73 dx), (dx, dictOf (famD w t1 t2 t3 pl nu pa) nd), (pl, oQ), (nu, listO vn n1), (pa, listO vp n2)] := H
    refine wpAny_call (place_of_c (fa := ⟨fam, dx, pl, nu, pa⟩) ⟨X, _, _, _, T⟩ F7.keep hlq ((Has.of_news N7).sub (fun p hp => List.mem_append_left _ hp)) (by omega) tok.good.e1 tok.good.e2 (by first | omega | (simp only [depth_deeper]; omega) | (dsimp only; omega)) ?_)
    intro h2 tk2 th l2 hl2 hh2 off2
    refine an2 (after_famR hlq hl2 F7 N7 hh2 off2 hrest) fun F8 N8 => ?_
    clear F7 N7
    obtain ⟨p1, p2, p3⟩ := placed_len q.1 r
    have Gq := tok.good.placed r
    have hlo := tok.lo
    have hhi := tok.hi
    have hl2' := hl2
    refine FamIn.elimO hl2' fun t1' t2' t3' nd' oR n1' n2' vn' vp' kvs' el hP' hD' hN' hA' => ?_
    subst el
    clear hl2'
    dsimp only [List.cons_append, List.nil_append] at N8 ⊢
    have q1 := Gq.e1
    have q2 := Gq.e2
    have toNat_at : ((q.1.at r : Nat) : Int).toNat = q.1.at r := Int.toNat_natCast _
    repeat' (walk1)
    · rename 0 ≤ q.2 => w1
      rename List.getD _ _ _ < 0 => w2
      obtain ⟨rr, j, U, e⟩ := Gq.upto (o := q.2) (one := (q.1.at r : Nat)) w1 (by omega) (by omega)
      rename Fr _ _ _ _ => F7
      rename News _ _ _ _ => N7
      refine wpAny_call (join_c (fa := ⟨fam, dx, pl, nu, pa⟩) ⟨X, _, _, _, T⟩ F7.keep hl2 ((Has.of_news N7).sub (fun p hp => List.mem_append_left _ hp)) (by omega) (by omega) (by omega) U (by first | omega | (simp only [depth_deeper]; omega) | (dsimp only; omega)) ?_)
      intro h3 tk3 l3 hl3 hh3 off3
      rw [join_eq e] at hl3
      refine an2 (after_famR hl2 hl3 F7 N7 hh3 off3 hrest) fun F9 N9 => ?_
      have et : Fam.turn q r = ((q.1.placed r).join q.2 (q.1.at r : Nat), ((q.1.at r : Nat) : Int)) := by
        unfold Fam.turn
        rw [if_pos ⟨w1, by rw [toNat_at] at w2; exact w2⟩]
      clear F7 N7
      have hl3' := hl3
      refine FamIn.elimO hl3' fun t1' t2' t3' nd' oR n1' n2' vn' vp' kvs' el hP' hD' hN' hA' => ?_
      subst el
      clear hl3'
      dsimp only [List.cons_append, List.nil_append] at N9 ⊢
      repeat' (walk1)
      rename Fr _ _ _ _ => F10
      rename News _ _ _ _ => N10
      refine Hold.out ⟨_, _, rfl, (N10 (ob.size, it) (by k_mem)).1, ?_⟩
      rw [hft, et]
      exact ⟨_, _, _, F10, Mine.News.pick N10 [0, 1, 2, 3, 4, 5] 7, hl3, m1, m2, rfl⟩
    · rename ¬ List.getD _ _ _ < 0 => w2
      have et : Fam.turn q r = (q.1.placed r, ((q.1.at r : Nat) : Int)) := by
        unfold Fam.turn
        rw [if_neg (fun e => w2 (by rw [toNat_at]; exact e.2))]
      rename Fr _ _ _ _ => F10
      rename News _ _ _ _ => N10
      refine Hold.out ⟨_, _, rfl, (N10 (ob.size, it) (by k_mem)).1, ?_⟩
      rw [hft, et]
      exact ⟨_, _, _, F10, Mine.News.pick N10 [0, 1, 2, 3, 4, 5] 7, hl2, m1, m2, rfl⟩
    · rename ¬ 0 ≤ q.2 => w2
      have et : Fam.turn q r = (q.1.placed r, ((q.1.at r : Nat) : Int)) := by
        unfold Fam.turn
        rw [if_neg (fun e => w2 e.1)]
      rename Fr _ _ _ _ => F10
      rename News _ _ _ _ => N10
      refine Hold.out ⟨_, _, rfl, (N10 (ob.size, it) (by k_mem)).1, ?_⟩
      rw [hft, et]
      exact ⟨_, _, _, F10, Mine.News.pick N10 [0, 1, 2, 3, 4, 5] 7, hl2, m1, m2, rfl⟩
  · intro h tk hInv
    refine ex3 hInv fun m l' tb hQ => an6 hQ fun F N H m1 m2 m3 => ?_
    clear hQ hInv
    have hvl := strs_len hr
    rw [hvl, List.take_length] at H m3
    obtain ⟨tok, tl1, tl2⟩ := refd_ok good n x refs
    unfold Fam.add at ret
    unfold Fam.refd at tok tl1 tl2 ret
    generalize refs.foldl Fam.turn (st.owned n x, -1) = q at *
    have hlq := H
    refine FamIn.elimO H fun t1 t2 t3 nd oQ n1 n2 vn vp kvs el hPq hDq hNq hAq => ?_
    subst el
    dsimp only [List.cons_append, List.nil_append] at N ⊢
    clear N5 F4
    have q1 := tok.good.e1
    have q2 := tok.good.e2
    have hlo := tok.lo
    have hhi := tok.hi
    repeat' (walk1)
    · rename 0 ≤ q.2 => w1
      rename Fr _ _ _ _ => F7
      rename News _ _ _ _ => N7
      have hl2 : ∀ u : Tok, FamIn w (q.1.cut (st.at (st.ownName n x))) ⟨fam, dx, pl, nu, pa⟩ [(fam, instObj 73 dx), (dx, dictOf (famD w t1 t2 t3 pl nu pa) nd), (pl, oQ), (nu, listO vn n1), (pa, listO (vp.set ((st.at (st.ownName n x) : Nat) : Int).toNat (.int (-1) u)) n2)] := fun u => ⟨⟨t1, t2, t3, nd, _, _, _, _, _, _, rfl, hPq, hDq, hNq, ints_set hAq _⟩, hnd0, low⟩
      have Gc := tok.good.cut _ tl1
      obtain ⟨rr, j, U, e⟩ := Gc.upto (o := q.2) (one := (st.at (st.ownName n x) : Nat)) w1 hhi (by omega)
      refine wpAny_call (join_c (fa := ⟨fam, dx, pl, nu, pa⟩) ⟨X, _, _, _, T⟩ F7.keep (hl2 _) ((Has.of_news N7).sub (fun p hp => List.mem_append_left [(rl, listO vr nr)] hp)) (by have := Gc.e2; show _ ≤ 1000; have : (q.1.cut (st.at (st.ownName n x))).nm.length = q.1.nm.length := rfl; omega) (by omega) (by have := Gc.e2; have : (q.1.cut (st.at (st.ownName n x))).nm.length = q.1.nm.length := rfl; omega) U (by first | omega | (simp only [depth_deeper]; omega) | (dsimp only; omega)) ?_)
      intro h3 tk3 l3 hl3 hh3 off3
      rw [join_eq e] at hl3
      refine an2 (after_famR (hl2 _) hl3 F7 N7 hh3 off3 hrest) fun F9 N9 => ?_
      clear F7 N7
      have et : Fam.ended q (st.at (st.ownName n x)) = (q.1.cut (st.at (st.ownName n x))).join q.2 (st.at (st.ownName n x) : Nat) := by
        unfold Fam.ended
        rw [if_pos w1]
      rw [et] at ret
      have hl3' := hl3
      refine FamIn.elimO hl3' fun t1' t2' t3' nd' oR n1' n2' vn' vp' kvs' el hP' hD' hN' hA' => ?_
      subst el
      clear hl3'
      dsimp only [List.cons_append, List.nil_append] at N9 ⊢
      repeat' (walk1)
      exact ret _ _ _ hl3 (hh.next N9 rfl) (off_keep (fin _ _ _ F9 N9).1 (hh (rl, listO vr nr) (by k_mem)).1 (N9 (rl, listO vr nr) (by k_mem)).1)
    · rename ¬ 0 ≤ q.2 => w2
      rename Fr _ _ _ _ => F9
      rename News _ _ _ _ => N9
      have et : Fam.ended q (st.at (st.ownName n x)) = q.1.cut (st.at (st.ownName n x)) := by
        unfold Fam.ended
        rw [if_neg w2]
      rw [et] at ret
      exact ret _ _ _ ⟨⟨t1, t2, t3, nd, _, _, _, _, _, _, rfl, hPq, hDq, hNq, ints_set hAq _⟩, hnd0, low⟩ (hh.next N9 rfl) (off_keep (fin _ _ _ F9 N9).1 (hh (rl, listO vr nr) (by k_mem)).1 (N9 (rl, listO vr nr) (by k_mem)).1)

theorem fill6 : (fun (_ : OpenLaw) (_ : Params → Frag) => True) PySem.Challenge.rw_nz0269_01 hd.heap_39 := by
  w_top off
  k_fill
  trivial
set_option maxHeartbeats 4000000
def wayF (up : List (Str × Str)) : Nat → Str → List Str
  | 0, x => [x]
  | f + 1, x => match asc up x with
    | some p => if p == Str.ofString "" then [x] else x :: wayF up f p
    | none => [x]
def way (up : List (Str × Str)) (x : Str) : List Str := wayF up 19 x
/-- every parent named is a key -/
def Closed (up : List (Str × Str)) : Prop := ∀ x p, asc up x = some p → p = Str.ofString "" ∨ (asc up p).isSome = true

theorem sub_last {prog : Program} {w : World} {A : Around} {E : Value → Shared → Prop} {s : Shared} {g : Heap} {L fl : Addr} {news : List (Addr × Obj)} {vp : List Value} {v : Value} {n : Nat} {t : Tok} {value slice : Expr} {Q : Value → Shared → Prop}
    (N : News g L s.heap news) (hm : (fl, listO (vp ++ [v]) n) ∈ news) (h : Q v s)
    (hs : subscripted slice false (.ref fl) (.int (-1) t) = operate [.ref fl, .int (-1) t] (getItem (.ref fl) (.int (-1) t)) := by with_unfolding_all rfl) :
    wpAny (model prog w) A (subscriptTail value slice (.ref fl) (.int (-1) t)) Q E s := by
  have hl : s.heap.IsList fl (vp ++ [v]).toArray := ⟨_, (N _ hm).1, rfl, n, rfl⟩
  refine tail_any hl.typeIs slot_list_getitem.lookup (wpAny_getItem_list_neg hl (by omega) (by simp; omega) (by decide) ?_ h) hs
  have : ((-1 : Int) + ((vp ++ [v]).toArray.size : Nat)).toNat = vp.length := by simp; omega
  rw [this]
  simp
theorem len_any {prog : Program} {w : World} {A : Around} {E : Value → Shared → Prop} {s : Shared} {g : Heap} {L fl : Addr} {news : List (Addr × Obj)} {vs : List Value} {n : Nat} {Q : Value → Shared → Prop}
    (N : News g L s.heap news) (hm : (fl, listO vs n) ∈ news) (hf : vs.length < 2 ^ 62) (h : Q (.int (vs.length : Nat) (s.toks + 1)) { s with toks := s.toks + 1 + 1 }) :
    wpAny (model prog w) A (call (.builtin "len") [.ref fl]) Q E s := by
  have hl : s.heap.IsList fl vs.toArray := ⟨_, (N _ hm).1, rfl, n, rfl⟩
  refine Calls.call_len_list hl (by simp; omega) ?_
  simpa using h
theorem asc_lookup {up : List (Str × Str)} {x p : Str} (h : asc up x = some p) : Spec.lookup (PyData.str x) (encS up) = some (.str p) := by rw [lookup_encS, h]; rfl
local macro_rules
  | `(tactic| walk_at "subscriptTail Name UnaryOp ref int") => `(tactic| (k_here; k_dflt (refine' sub_last ?N ?hm ?_ ?hs; (case N => k_asm); (case hm => k_mem); (case hs => with_unfolding_all rfl); k_whole)))
  | `(tactic| walk_at "call builtin:len") => `(tactic| (k_here; (with_reducible show wpAny _ _ (call (Value.builtin _) [Value.ref _]) _ _ _); k_dflt (refine' len_any ?N ?hm ?hf ?_; (case N => k_asm); (case hm => k_mem); (case hf => (simp only [List.length_append, List.length_cons, List.length_nil]; omega)); k_whole); (try simp only [List.length_append, List.length_cons, List.length_nil])))
  | `(tactic| walk_at "exec While BoolOp cons nil") => `(tactic| refine Hold.mk ?_)
theorem way_c {w : World} {dp un : Nat} {fr : Option (List Env)} {gd : Option (List Code)} {s : Shared} {base : Heap} {R : Result → Shared → Prop} {U : Addr} {oU : Obj} {up : List (Str × Str)} {kvs : List (Str × Value)} {x : Str} {t : Tok}
    (G : Gr w base) (kp : ∀ b o, base.get? b = some o → s.heap.get? b = some o) (hh : Has base s.heap [(U, oU)]) (hU : oU.IsDictOf (strKind PR w) kvs) (hD : FlatPairs PyData.str kvs (encS up)) (low : (U == sysModules) = false)
    (hc : Closed up) (hx : (asc up x).isSome = true)
    (hd : dp + 1 < recursionLimit)
    (ret : ∀ h' tk fl vs n, StrsAre vs (way up x) → Has base h' [(U, oU), (fl, listO vs n)] → s.heap.get? fl = none → Off [] s.heap h' → R (.ok (.ret (.ref fl))) { s with heap := h', toks := tk }) :
    codeAny (model PR w) (AR dp un fr gd) (.call (.ref 98) ⟨[.ref U, .str x t], []⟩) R s := by
  refine' enterF _ ?hG ?hkp ?hhh ?hroom ?ho ?hcd ?hbind ?hloc ?hmain ?c1 ?c2 ?c3 ?c4
  (case hG => assumption)
  (case hkp => assumption)
  (case hhh => assumption)
  (case hroom => (show _ < recursionLimit; dsimp only; omega))
  (case ho => k_is)
  (case hcd => k_is)
  (case hbind => exact BindsTo.of_eq rfl)
  (case hloc => exact locs rfl)
  (case c1 => exact rfl)
  (case c2 => exact rfl)
  (case c3 => exact rfl)
  (case c4 => decide)
  k_whole
  intro g L h₁ mean mg mb F N X T fin fresh kg
  try dsimp only
  repeat' (walk1)
  refine Hold.out ?_
  rename Fr _ _ _ _ => F1
  rename News _ _ _ ((_, _) :: _) => N1
  rename_i tkX fl hX l1X hY
  refine while_rule (fun n s' => ∃ h' tk vp pre y ty nn m, s' = { s with heap := h', toks := tk } ∧ Fr g L h' m ∧ News g L h' [(fl, listO (vp ++ [.str y ty]) nn), (U, oU)] ∧ StrsAre vp pre ∧
    m (Str.ofString "up") = some (.ref U) ∧ m (Str.ofString "found") = some (.ref fl) ∧ pre ++ wayF up n y = way up x ∧ pre.length + n = 19 ∧ (asc up y).isSome = true) ?_ 19 ?_
  rotate_left
  · exact ⟨_, _, [], [], x, t, 0, _, rfl, F1, N1, .nil, rfl, rfl, rfl, rfl, hx⟩
  · rintro n s' ⟨h', tk, vp, pre, y, ty, nn, m, rfl, F', N', hS, m1, m2, hw, hl, hy⟩
    clear F1 N1
    obtain ⟨p, hp⟩ := Option.isSome_iff_exists.mp hy
    have hp' := asc_lookup hp
    have hvl := strs_len hS
    have fl0 : s.heap.get? fl = none := fresh fl (fun q => Nat.ne_of_gt l1X (List.mem_singleton.mp q)) (N' (fl, _) (.head _)).2.2
    repeat' (walk1)
    · rename (p != Str.ofString "") = true => w1
      have hp0 : (p == Str.ofString "") = false := by simpa [bne] using w1
      have hn0 : p ≠ Str.ofString "" := by simpa using hp0
      rename_i w2 hQ F9 N9
      obtain ⟨m', rfl⟩ : ∃ m', n = m' + 1 := ⟨n - 1, by omega⟩
      rw [List.push_toArray] at N9
      have hy' : (asc up p).isSome = true := (hc y p hp).resolve_left hn0
      have hw' : wayF up (m' + 1) y = y :: wayF up m' p := by
        show (match asc up y with | some p => if p == Str.ofString "" then [y] else y :: wayF up m' p | none => [y]) = _
        rw [hp]; simp only [hp0]; rfl
      exact Hold.out ⟨m', Nat.lt_succ_self _, _, _, vp ++ [.str y ty], pre ++ [y], p, _, _, _, rfl, F9, N9, StrsAre.append' hS (.cons _ _ .nil), m1, m2, by rw [hw'] at hw; rw [List.append_assoc]; exact hw, by simp; omega, hy'⟩
    · have hn : n = 0 := by omega
      subst hn
      have hS' : StrsAre (vp ++ [.str y ty]) (way up x) := by rw [← hw]; exact StrsAre.append' hS (.cons _ _ .nil)
      have N2 : News g L h' [(U, oU), (fl, listO (vp ++ [.str y ty]) nn)] := Mine.News.subs N' (fun p hp => by
        rcases List.mem_cons.mp hp with rfl | hp
        · exact .tail _ (.head _)
        · rw [List.mem_singleton.mp hp]; exact .head _)
      exact ret _ _ _ _ _ hS' (Has.older (Has.of_news N2) kg) fl0 (off_nil (l := [(U, oU)]) (fin _ _ _ F' N2).1 (fun p hp => (hh p hp).1) (fun p hp => (N2 p (by rw [List.mem_singleton.mp hp]; exact .head _)).1))
    · have w1 : (p == Str.ofString "") = true := by rename (p != Str.ofString "") = false => w1; simpa [bne] using w1
      have hw' : wayF up n y = [y] := by
        cases n with
        | zero => rfl
        | succ m' =>
          show (match asc up y with | some p => if p == Str.ofString "" then [y] else y :: wayF up m' p | none => [y]) = _
          rw [hp]; simp only [w1]; rfl
      have hS' : StrsAre (vp ++ [.str y ty]) (way up x) := by rw [← hw, hw']; exact StrsAre.append' hS (.cons _ _ .nil)
      have N2 : News g L h' [(U, oU), (fl, listO (vp ++ [.str y ty]) nn)] := Mine.News.subs N' (fun p hp => by
        rcases List.mem_cons.mp hp with rfl | hp
        · exact .tail _ (.head _)
        · rw [List.mem_singleton.mp hp]; exact .head _)
      exact ret _ _ _ _ _ hS' (Has.older (Has.of_news N2) kg) fl0 (off_nil (l := [(U, oU)]) (fin _ _ _ F' N2).1 (fun p hp => (hh p hp).1) (fun p hp => (N2 p (by rw [List.mem_singleton.mp hp]; exact .head _)).1))

section
variable {prog : Program} {w : World} {A : Around} {E : Value → Shared → Prop} {s : Shared} {env : Env} {body : List Stmt} {Q : Flow → Shared → Prop} {elts : List Expr} {k : Nat} {tpos : Pos}
theorem for_turns' {target : Expr} {I : Addr} {fp wr : List Addr} {n : Nat} {P Md : Nat → Value → Heap → Prop} {St : Nat → Heap → Prop} (W : KTurns prog w A target I fp wr n P Md St) (J : Nat → Heap → Prop) (st0 : St 0 s.heap) (j0 : J 0 s.heap)
    (stable : ∀ i h h', J i h → Off wr h h' → J i h')
    (step : ∀ i v h tk, i < n → P i v h → St (i + 1) h → J i h →
      wpAny (model prog w) A (assign target env v) (fun _ s₃ => wpAny (model prog w) A (execs body env) (fun f s₄ => match f with
        | .next | .cont => Hold (∃ h' tk', s₄ = { s with heap := h', toks := tk' } ∧ (∀ b ∈ fp, ∀ o, h.get? b = some o → h'.get? b = some o) ∧ J (i + 1) h')
        | .brk => Q .next s₄
        | .ret v => Q (.ret v) s₄) (fun _ _ => False) s₃) (fun _ _ => False) { s with heap := h, toks := tk })
    (done : ∀ h tk, J n h → Q .next { s with heap := h, toks := tk }) :
    codeAny (model prog w) A (.forLoop target (.ref I) body [] env) (fun r s' => match r with | .ok f => Q f s' | .error e => cameBackBy (model prog w) A env E e s') s := by
  refine for_turns W J st0 j0 stable (fun i v h tk hi hP hst hJ => ?_) done
  refine wpAny_mono (step i v h tk hi hP hst hJ) (fun _ s₂ h₂ => wpAny_mono h₂ (fun f s₃ h₃ => ?_) fun _ _ e => e) fun _ _ e => e
  cases f with
  | next => obtain ⟨h', tk', e, a, b⟩ := h₃; exact ⟨h', tk', e, W.frame _ _ _ hst a, b⟩
  | cont => obtain ⟨h', tk', e, a, b⟩ := h₃; exact ⟨h', tk', e, W.frame _ _ _ hst a, b⟩
  | brk => exact h₃
  | ret v => exact h₃
theorem for_enum {l : Addr} {vs : List Value} {lo : Obj} (hh : A.handled = none) (hl : s.heap.get? l = some lo) (hc : lo.cls = .type "list") (hd : ∃ n, lo.data = .seq vs.toArray n) (J : Nat → Heap → Prop)
    (start : ∀ h', (∀ b o, s.heap.get? b = some o → h'.get? b = some o) → J 0 h')
    (stable : ∀ i h h', J i h → Off [s.heap.objs.size + 1, s.heap.objs.size] h h' → J i h')
    (stays : ∀ i h, J i h → h.get? l = some lo)
    (step : ∀ i x T t h tk oE oI, vs[i]? = some x → IsTup h T #[.int (i : Nat) t, x] → oE.cls = .type "enumerate" → oI.cls = .type "list_iterator" → h.get? (s.heap.objs.size + 1) = some oE → h.get? s.heap.objs.size = some oI → J i h →
      wpAny (model prog w) A (assign (.Tuple elts k tpos) env (.ref T)) (fun _ s₃ => wpAny (model prog w) A (execs body env) (fun f s₄ => match f with
        | .next | .cont => Hold (∃ h' tk', s₄ = { s with heap := h', toks := tk' } ∧ h'.get? (s.heap.objs.size + 1) = some oE ∧ h'.get? s.heap.objs.size = some oI ∧ J (i + 1) h')
        | .brk => Q .next s₄
        | .ret v => Q (.ret v) s₄) (fun _ _ => False) s₃) (fun _ _ => False) { s with heap := h, toks := tk })
    (done : ∀ h tk, J vs.length h → Q .next { s with heap := h, toks := tk }) :
    wpAny (model prog w) A (call (.type "enumerate") [.ref l]) (fun xv s₁ => wpAny (model prog w) A (pyIter xv) (fun it s₂ => codeAny (model prog w) A (.forLoop (.Tuple elts k tpos) it body [] env) (fun r s' => match r with | .ok f => Q f s' | .error e => cameBackBy (model prog w) A env E e s') s₂) E s₁) E s := by
  obtain ⟨n, hd⟩ := hd
  have hil : s.heap.IsList l vs.toArray := ⟨lo, hl, hc, n, hd⟩
  have hlt : l < s.heap.objs.size := Heap.lt_size hl
  refine call_enumerate_list hil fun h' hE hI hsz hk => ?_
  refine wpAny_pyIter_enum hE ?_
  have W := KTurns.ofWalksU (elts := elts) (k := k) (pos := tpos) (WalksT.enumerate (prog := prog) (w := w) hh (s.heap.objs.size + 1) s.heap.objs.size l (Nat.succ_ne_self _) (ktu_ne 1 hlt) (Nat.ne_of_lt hlt) vs.toArray).toU
  have e : vs.toArray.size = vs.length := by simp
  rw [e] at W
  refine for_turns' (s := { s with heap := h', toks := _ }) W J ⟨⟨.none, hE⟩, hI, hil.at fun o e => hk l o e⟩ (start h' hk) (fun i h h' hJ ho => stable i h h' hJ (ho.mono fun b hb => by simpa using hb)) (fun i v h tk hi hP hst hJ => ?_) done
  obtain ⟨T, vals, rfl, ⟨t, x, hx, rfl⟩, hT⟩ := hP
  obtain ⟨⟨old, he⟩, ⟨oi, hoi, hic, hid⟩, hll⟩ := hst
  obtain ⟨oe, h1, h2⟩ : ∃ oe : Obj, h.get? (s.heap.objs.size + 1) = some oe ∧ oe.cls = .type "enumerate" := ⟨_, he, rfl⟩
  refine wpAny_mono (step i x T t h tk oe oi (by simpa using hx) hT h2 hic h1 hoi hJ) (fun _ s₂ h₂ => wpAny_mono h₂ (fun f s₃ h₃ => ?_) fun _ _ e => e) fun _ _ e => e
  have key : Hold (∃ h' tk', s₃ = { s with heap := h', toks := tk' } ∧ h'.get? (s.heap.objs.size + 1) = some oe ∧ h'.get? s.heap.objs.size = some oi ∧ J (i + 1) h') →
      Hold (∃ h'' tk', s₃ = { s with heap := h'', toks := tk' } ∧ (∀ b' ∈ [s.heap.objs.size + 1, s.heap.objs.size, l], ∀ o, h.get? b' = some o → h''.get? b' = some o) ∧ J (i + 1) h'') := by
    rintro ⟨h', tk', e, a, b, c⟩
    refine ⟨h', tk', e, fun b' hb o ho => ?_, c⟩
    have hb' : b' = s.heap.objs.size + 1 ∨ b' = s.heap.objs.size ∨ b' = l := by simpa using hb
    rcases hb' with rfl | rfl | rfl
    · rw [h1] at ho; rw [a]; exact ho
    · rw [hoi] at ho; rw [b]; exact ho
    · rw [stays _ _ hJ] at ho; rw [stays _ _ c]; exact ho
  cases f with
  | next => exact key h₃
  | cont => exact key h₃
  | brk => exact h₃
  | ret v => exact h₃

theorem for_zip {l1 l2 : Addr} {xs ys : List Value} {lo1 lo2 : Obj} (hh : A.handled = none) (hl1 : s.heap.get? l1 = some lo1) (hc1 : lo1.cls = .type "list") (hd1 : ∃ n, lo1.data = .seq xs.toArray n)
    (hl2 : s.heap.get? l2 = some lo2) (hc2 : lo2.cls = .type "list") (hd2 : ∃ n, lo2.data = .seq ys.toArray n) (J : Nat → Heap → Prop)
    (start : ∀ h', (∀ b o, s.heap.get? b = some o → h'.get? b = some o) → J 0 h')
    (stable : ∀ i h h', J i h → Off [s.heap.objs.size + 4, s.heap.objs.size + 2, s.heap.objs.size + 3, s.heap.objs.size, s.heap.objs.size + 1] h h' → J i h')
    (stays1 : ∀ i h, J i h → h.get? l1 = some lo1) (stays2 : ∀ i h, J i h → h.get? l2 = some lo2)
    (step : ∀ i x y T h tk o0 o1 o2 o3 o4, xs[i]? = some x → ys[i]? = some y → IsTup h T #[x, y] → o4.cls = .type "zip" → o2.cls = .type "tuple" → o3.cls = .type "tuple" → o0.cls = .type "list_iterator" → o1.cls = .type "list_iterator" →
      h.get? (s.heap.objs.size + 4) = some o4 → h.get? (s.heap.objs.size + 2) = some o2 → h.get? (s.heap.objs.size + 3) = some o3 → h.get? s.heap.objs.size = some o0 → h.get? (s.heap.objs.size + 1) = some o1 → J i h →
      wpAny (model prog w) A (assign (.Tuple elts k tpos) env (.ref T)) (fun _ s₃ => wpAny (model prog w) A (execs body env) (fun f s₄ => match f with
        | .next | .cont => Hold (∃ h' tk', s₄ = { s with heap := h', toks := tk' } ∧ (h'.get? (s.heap.objs.size + 4) = some o4 ∧ h'.get? (s.heap.objs.size + 2) = some o2 ∧ h'.get? (s.heap.objs.size + 3) = some o3 ∧ h'.get? s.heap.objs.size = some o0 ∧ h'.get? (s.heap.objs.size + 1) = some o1) ∧ J (i + 1) h')
        | .brk => Q .next s₄
        | .ret v => Q (.ret v) s₄) (fun _ _ => False) s₃) (fun _ _ => False) { s with heap := h, toks := tk })
    (done : ∀ h tk, J (min xs.length ys.length) h → Q .next { s with heap := h, toks := tk }) :
    wpAny (model prog w) A (call (.type "zip") [.ref l1, .ref l2]) (fun xv s₁ => wpAny (model prog w) A (pyIter xv) (fun it s₂ => codeAny (model prog w) A (.forLoop (.Tuple elts k tpos) it body [] env) (fun r s' => match r with | .ok f => Q f s' | .error e => cameBackBy (model prog w) A env E e s') s₂) E s₁) E s := by
  obtain ⟨n1, hd1⟩ := hd1
  obtain ⟨n2, hd2⟩ := hd2
  have hi1 : s.heap.IsList l1 xs.toArray := ⟨lo1, hl1, hc1, n1, hd1⟩
  have hi2 : s.heap.IsList l2 ys.toArray := ⟨lo2, hl2, hc2, n2, hd2⟩
  have hlt1 : l1 < s.heap.objs.size := Heap.lt_size hl1
  have hlt2 : l2 < s.heap.objs.size := Heap.lt_size hl2
  have D : ZipApart (s.heap.objs.size + 4) (s.heap.objs.size + 2) (s.heap.objs.size + 3) s.heap.objs.size (s.heap.objs.size + 1) l1 l2 := ktu_apart _ _ _ hlt1 hlt2
  refine call_zip_2 hi1 hi2 fun h' hz hTI hTO hj1 hj2 hsz hk => ?_
  refine wpAny_pyIter_zip hz ?_
  have W := KTurns.ofWalksU (elts := elts) (k := k) (pos := tpos) (WalksT.zip2 (prog := prog) (w := w) hh _ _ _ _ _ _ _ D xs.toArray ys.toArray).toU
  have e : min xs.toArray.size ys.toArray.size = min xs.length ys.length := by simp
  rw [e] at W
  refine for_turns' (s := { s with heap := h', toks := _ }) W J ?st (start h' hk) (fun i h h' hJ ho => stable i h h' hJ (ho.mono fun b hb => by simp at hb ⊢; rcases hb with e | e | e | e <;> simp [e])) (fun i v h tk hi hP hst hJ => ?_) done
  case st => exact ⟨hz, hTI, ⟨_, _, hTO⟩, hj1, hj2, hi1.at fun o e => hk l1 o e, hi2.at fun o e => hk l2 o e⟩
  obtain ⟨T, vals, rfl, ⟨x, y, hx, hy, rfl⟩, hT⟩ := hP
  obtain ⟨hz, hTI, ⟨a, b, hTO⟩, ⟨o0, ho0, hc0, _⟩, ⟨o1, ho1, hc1', _⟩, _⟩ := hst
  obtain ⟨o4, h4, c4⟩ : ∃ o : Obj, h.get? (s.heap.objs.size + 4) = some o ∧ o.cls = .type "zip" := ⟨_, hz, rfl⟩
  obtain ⟨o2, h2, c2⟩ : ∃ o : Obj, h.get? (s.heap.objs.size + 2) = some o ∧ o.cls = .type "tuple" := ⟨_, hTI, rfl⟩
  obtain ⟨o3, h3, c3⟩ : ∃ o : Obj, h.get? (s.heap.objs.size + 3) = some o ∧ o.cls = .type "tuple" := ⟨_, hTO, rfl⟩
  refine wpAny_mono (step i x y T h tk o0 o1 o2 o3 o4 (by simpa using hx) (by simpa using hy) hT c4 c2 c3 hc0 hc1' h4 h2 h3 ho0 ho1 hJ) (fun _ s₂ h₂ => wpAny_mono h₂ (fun f s₃ h₃ => ?_) fun _ _ e => e) fun _ _ e => e
  have key : Hold (∃ h' tk', s₃ = { s with heap := h', toks := tk' } ∧ (h'.get? (s.heap.objs.size + 4) = some o4 ∧ h'.get? (s.heap.objs.size + 2) = some o2 ∧ h'.get? (s.heap.objs.size + 3) = some o3 ∧ h'.get? s.heap.objs.size = some o0 ∧ h'.get? (s.heap.objs.size + 1) = some o1) ∧ J (i + 1) h') →
      Hold (∃ h'' tk', s₃ = { s with heap := h'', toks := tk' } ∧ (∀ b' ∈ [s.heap.objs.size + 4, s.heap.objs.size + 2, s.heap.objs.size + 3, s.heap.objs.size, s.heap.objs.size + 1, l1, l2], ∀ o, h.get? b' = some o → h''.get? b' = some o) ∧ J (i + 1) h'') := by
    rintro ⟨h', tk', e, ⟨k4, k2, k3, k0, k1⟩, c⟩
    refine ⟨h', tk', e, fun b' hb o ho => ?_, c⟩
    have hb' : b' = s.heap.objs.size + 4 ∨ b' = s.heap.objs.size + 2 ∨ b' = s.heap.objs.size + 3 ∨ b' = s.heap.objs.size ∨ b' = s.heap.objs.size + 1 ∨ b' = l1 ∨ b' = l2 := by simpa using hb
    rcases hb' with rfl | rfl | rfl | rfl | rfl | rfl | rfl
    · rw [h4] at ho; rw [k4]; exact ho
    · rw [h2] at ho; rw [k2]; exact ho
    · rw [h3] at ho; rw [k3]; exact ho
    · rw [ho0] at ho; rw [k0]; exact ho
    · rw [ho1] at ho; rw [k1]; exact ho
    · rw [stays1 _ _ hJ] at ho; rw [stays1 _ _ c]; exact ho
    · rw [stays2 _ _ hJ] at ho; rw [stays2 _ _ c]; exact ho
  cases f with
  | next => exact key h₃
  | cont => exact key h₃
  | brk => exact h₃
  | ret v => exact h₃
end

abbrev Up := List (Str × Str)
def setd (l : Up) (x : Str) : Up := if (asc l x).isSome then l else putA l x (Str.ofString "")
def mineOf (held : List (Str × Int)) (n : Int) (own : Str) : Str := if own != Str.ofString "" && !(asc held own).isSome then own else sharp n
def linkStep (up : Up) (p : Str × Str) : Up := if asc up p.2 == some (Str.ofString "") && !(way up p.1).contains p.2 then putA up p.2 p.1 else up
def lastStep (up : Up) (mine : Str) (names : List Str) : Up := match names.getLast? with
  | none => up
  | some z => if (way up z).contains mine then up else putA up mine z
def linkedUp (up : Up) (mine : Str) (names : List Str) : Up :=
  lastStep (putA ((names.dropLast.zip names.tail).foldl linkStep ((mine :: names).foldl setd up)) mine (Str.ofString "")) mine names

def Has1 {α : Type} (l : List (Str × α)) (x : Str) : Prop := (asc l x).isSome = true
theorem asc_append {α : Type} (l : List (Str × α)) (x y : Str) (v : α) : asc (l ++ [(x, v)]) y = match asc l y with | some p => some p | none => if x == y then some v else none := by
  unfold asc
  rw [List.find?_append]
  cases h : l.find? (fun p => p.1 == y) with
  | some p => simp
  | none =>
    simp only [Option.none_or, List.find?_cons, List.find?_nil, Option.map_none]
    cases (x == y) <;> rfl
theorem asc_map {α : Type} (l : List (Str × α)) (x y : Str) (v : α) : asc (l.map fun p => if p.1 == x then (p.1, v) else p) y = if x == y then (asc l y).map (fun _ => v) else asc l y := by
  induction l with
  | nil => simp [asc]
  | cons p r ih =>
    unfold asc at ih ⊢
    simp only [List.map_cons, List.find?_cons]
    by_cases h : p.1 = x
    · subst h
      simp only [beq_self_eq_true, if_true]
      by_cases q : p.1 = y
      · simp [q]
      · have : (p.1 == y) = false := by simpa using q
        simp only [this, Bool.false_eq_true, if_false]
        rw [ih]; simp [this]
    · have h' : (p.1 == x) = false := by simpa using h
      simp only [h', Bool.false_eq_true, if_false]
      by_cases q : p.1 = y
      · have : (x == y) = false := by simp; exact fun e => h (q.trans e.symm)
        simp [q, this]
      · have : (p.1 == y) = false := by simpa using q
        simp only [this]
        exact ih
theorem asc_putA {α : Type} (l : List (Str × α)) (x y : Str) (v : α) : asc (putA l x v) y = if x == y then some v else asc l y := by
  unfold putA
  split
  · rename_i h
    rw [asc_map]
    by_cases q : (x == y) = true
    · rw [if_pos q, if_pos q]
      have : x = y := by simpa using q
      subst this
      rw [any_asc] at h
      obtain ⟨p, hp⟩ := Option.isSome_iff_exists.mp h
      rw [hp]; rfl
    · rw [if_neg q, if_neg q]
  · rename_i h
    rw [asc_append]
    rw [any_asc] at h
    by_cases q : (x == y) = true
    · rw [if_pos q]
      have : x = y := by simpa using q
      subst this
      have : asc l x = none := by simpa using h
      rw [this]; simp
    · rw [if_neg q]
      cases asc l y with
      | none => simp [q]
      | some p => simp [q]
theorem asc_setd (l : Up) (x y : Str) : asc (setd l x) y = match asc l y with | some p => some p | none => if x == y then some (Str.ofString "") else none := by
  unfold setd
  split
  · rename_i h
    cases q : asc l y with
    | some p => rfl
    | none =>
      by_cases e : (x == y) = true
      · have : x = y := by simpa using e
        subst this
        rw [q] at h; cases h
      · simp [e]
  · rename_i h
    rw [asc_putA]
    by_cases e : (x == y) = true
    · have : x = y := by simpa using e
      subst this
      have : asc l x = none := by simpa using h
      simp [this]
    · rw [if_neg e]
      cases asc l y with
      | none => simp [e]
      | some p => rfl
theorem Closed.setd {up : Up} (C : Closed up) (x : Str) : Closed (setd up x) := by
  intro y p h
  rw [asc_setd] at h
  cases q : asc up y with
  | some p' =>
    rw [q] at h
    cases h
    rcases C y p q with e | e
    · exact .inl e
    · right
      rw [asc_setd]
      obtain ⟨z, hz⟩ := Option.isSome_iff_exists.mp e
      rw [hz]; rfl
  | none =>
    rw [q] at h
    dsimp only at h
    split at h
    · exact .inl (Option.some.inj h).symm
    · cases h
theorem Closed.putA {up : Up} (C : Closed up) (x v : Str) (h : v = Str.ofString "" ∨ (asc up v).isSome = true) : Closed (putA up x v) := by
  have key : ∀ z, (asc up z).isSome = true → (asc (Mine.putA up x v) z).isSome = true := by
    intro z hz
    rw [asc_putA]; split
    · rfl
    · exact hz
  intro y p hp
  rw [asc_putA] at hp
  split at hp
  · have : v = p := Option.some.inj hp
    subst this
    exact h.imp id (key _)
  · exact (C y p hp).imp id (key _)
theorem has_putA {α : Type} {l : List (Str × α)} {x y : Str} {v : α} (h : (asc l y).isSome = true) : (asc (putA l x v) y).isSome = true := by
  rw [asc_putA]; split
  · rfl
  · exact h
theorem has_setd {l : Up} {x y : Str} (h : (asc l y).isSome = true) : (asc (setd l x) y).isSome = true := by
  rw [asc_setd]
  obtain ⟨z, hz⟩ := Option.isSome_iff_exists.mp h
  rw [hz]; rfl
theorem has_setd_self (l : Up) (x : Str) : (asc (setd l x) x).isSome = true := by
  rw [asc_setd]
  cases asc l x with
  | some p => rfl
  | none => simp
theorem putA_len {α : Type} (l : List (Str × α)) (x : Str) (v : α) : (putA l x v).length ≤ l.length + 1 := by unfold putA; split <;> simp
theorem setd_len (l : Up) (x : Str) : (setd l x).length ≤ l.length + 1 := by
  unfold setd; split
  · omega
  · exact putA_len _ _ _
theorem putA_len_has {α : Type} (l : List (Str × α)) (x : Str) (v : α) (h : (asc l x).isSome = true) : (putA l x v).length = l.length := by
  unfold putA; rw [any_asc, if_pos h]; simp
theorem setds_len (xs : List Str) : ∀ l : Up, (xs.foldl setd l).length ≤ l.length + xs.length := by
  induction xs with
  | nil => intro l; exact Nat.le_refl _
  | cons x r ih =>
    intro l
    simp only [List.foldl_cons, List.length_cons]
    have := ih (setd l x)
    have := setd_len l x
    omega
theorem setds_closed (xs : List Str) : ∀ {l : Up}, Closed l → Closed (xs.foldl setd l) := by
  induction xs with
  | nil => intro l C; exact C
  | cons x r ih => intro l C; exact ih (C.setd x)
theorem setds_has (xs : List Str) : ∀ {l : Up} {y : Str}, (asc l y).isSome = true → (asc (xs.foldl setd l) y).isSome = true := by
  induction xs with
  | nil => intro l y h; exact h
  | cons x r ih => intro l y h; exact ih (has_setd h)
theorem setds_mem (xs : List Str) : ∀ {l : Up} {y : Str}, y ∈ xs → (asc (xs.foldl setd l) y).isSome = true := by
  induction xs with
  | nil => intro l y h; cases h
  | cons x r ih =>
    intro l y h
    rcases List.mem_cons.mp h with rfl | h
    · exact setds_has r (has_setd_self l y)
    · exact ih h
theorem link_ok {up : Up} (C : Closed up) {p : Str × Str} (h1 : (asc up p.1).isSome = true) (h2 : (asc up p.2).isSome = true) :
    Closed (linkStep up p) ∧ (∀ y, (asc up y).isSome = true → (asc (linkStep up p) y).isSome = true) ∧ (linkStep up p).length = up.length := by
  unfold linkStep
  split
  · exact ⟨C.putA _ _ (.inr h1), fun y hy => has_putA hy, putA_len_has _ _ _ h2⟩
  · exact ⟨C, fun y hy => hy, rfl⟩
theorem links_ok (ps : List (Str × Str)) : ∀ {up : Up}, Closed up → (∀ p ∈ ps, (asc up p.1).isSome = true ∧ (asc up p.2).isSome = true) →
    Closed (ps.foldl linkStep up) ∧ (∀ y, (asc up y).isSome = true → (asc (ps.foldl linkStep up) y).isSome = true) ∧ (ps.foldl linkStep up).length = up.length := by
  induction ps with
  | nil => intro up C _; exact ⟨C, fun y hy => hy, rfl⟩
  | cons p r ih =>
    intro up C h
    obtain ⟨a, b, c⟩ := link_ok C (h p (.head _)).1 (h p (.head _)).2
    obtain ⟨a', b', c'⟩ := ih a fun q hq => ⟨b _ (h q (.tail _ hq)).1, b _ (h q (.tail _ hq)).2⟩
    exact ⟨a', fun y hy => b' y (b y hy), c'.trans c⟩

def Oks (ns : List Str) : Prop := ∀ x ∈ ns, PyData.strOk x = true
theorem canLay_strs : ∀ ns : List Str, Oks ns → PyData.canLayAll0 (ns.map PyData.str) = true
  | [], _ => rfl
  | x :: r, h => by simp [PyData.canLayAll0, PyData.canLay0, canLay_strs r (fun y hy => h y (.tail _ hy)), h x (.head _)]
theorem depth_strs : ∀ ns : List Str, PyData.depthAll (ns.map PyData.str) = 0
  | [] => rfl
  | _ :: r => by simp [PyData.depthAll, PyData.depth, depth_strs r]
theorem shaped_strs (ns : List Str) (h : Oks ns) : SeqAt.shaped (.list (ns.map PyData.str)) = true := by
  simp [SeqAt.shaped, PyData.canLay0, PyData.depth, canLay_strs ns h, depth_strs]
theorem sameAll_strs : ∀ ns ms : List Str, PySem.Spec.sameAll (ns.map PyData.str) (ms.map PyData.str) = decide (ns = ms)
  | [], [] => by simp [PySem.Spec.sameAll]
  | [], _ :: _ => by simp [PySem.Spec.sameAll]
  | _ :: _, [] => by simp [PySem.Spec.sameAll]
  | a :: r, b :: t => by
    simp only [List.map_cons, PySem.Spec.sameAll, sameAll_strs r t, same_s]
    by_cases h : a = b <;> by_cases h' : r = t <;> simp [h, h']
theorem same_strs (ns ms : List Str) : PySem.Spec.same (.list (ns.map PyData.str)) (.list (ms.map PyData.str)) = decide (ns = ms) := by
  simp only [PySem.Spec.same]; exact sameAll_strs ns ms
theorem carried_strs : ∀ {vs : List Value} {ns : List Str}, StrsAre vs ns → CarriedAll vs (ns.map PyData.str)
  | _, _, .nil => .nil
  | _, _, .cons _ t r => .cons (.str _ t) (carried_strs r)
section
variable {prog : Program} {w : World} {A : Around} {E : Value → Shared → Prop} {s : Shared} {a b : Addr} {xs ys : List Value} {ns ms : List Str} {Q : Value → Shared → Prop}
theorem ne_strs (ha : s.heap.IsList a xs.toArray) (hb : s.heap.IsList b ys.toArray) (hi : StrsAre xs ns) (hj : StrsAre ys ms) (o1 : Oks ns) (o2 : Oks ms) (hu : A.units + 64 < cLine) (h : Q (.bool (!decide (ns = ms))) s) :
    wpAny (model prog w) A (compareOp .NotEq (.ref a) (.ref b)) Q E s :=
  ne_dataH_same (reads_newData ha (carried_strs hi)) (reads_newData hb (carried_strs hj)) (shaped_strs _ o1) (shaped_strs _ o2) hu (SeqAt.noMix_of_shape (.list .str) rfl _ _ (list_map_has fun _ => rfl) (list_map_has fun _ => rfl)) (by rw [same_strs]; exact h)
end

theorem fill7 : (fun (_ : OpenLaw) (_ : Params → Frag) => True) PySem.Challenge.rw_nz0269_01 hd.heap_39 := by
  w_top off
  k_fill
  trivial
set_option maxHeartbeats 4000000
local macro_rules
  | `(tactic| walk_at "exec For Name BinOp cons nil") => `(tactic| refine Hold.mk ?_)
  | `(tactic| walk_at "exec For Tuple Call cons nil") => `(tactic| refine Hold.mk ?_)
  | `(tactic| walk_at "call type:zip cons nil") => `(tactic| refine Hold.mk ?_)
abbrev tupO (vs : List Value) (n : Nat) : Obj := { cls := .type "tuple", data := .seq vs.toArray n }
theorem add_listO {prog : Program} {w : World} {A : Around} {E : Value → Shared → Prop} {s : Shared} {g : Heap} {L a b : Addr} {m : Str → Option Value} {news : List (Addr × Obj)} {vs ws : List Value} {n1 n2 : Nat} {Q : Value → Shared → Prop}
    (F : Fr g L s.heap m) (N : News g L s.heap news) (h1 : (a, listO vs n1) ∈ news) (h2 : (b, listO ws n2) ∈ news) (hz : vs.length + ws.length ≤ sizeLine)
    (h : ∀ c h', (∀ p ∈ news, @LT.lt Nat _ p.1 c) → Fr g L h' m → News g L h' ((c, listO (vs ++ ws) 0) :: news) → Q (.ref c) { s with heap := h' }) :
    wpAny (model prog w) A (binaryOp .Add (.ref a) (.ref b)) Q E s :=
  add_lists (hsz := hz) F N ⟨_, (N _ h1).1, rfl, n1, rfl⟩ ⟨_, (N _ h2).1, rfl, n2, rfl⟩ fun h' F' N' => h _ h' (fun p hp => Heap.lt_size (N p hp).1) F' N'
theorem News.lt_top {g h : Heap} {L : Addr} {l : List (Addr × Obj)} (N : News g L h l) : ∀ a ∈ l.map (·.1), @LT.lt Nat _ a h.objs.size := fun a ha => by
  obtain ⟨q, hq, rfl⟩ := List.mem_map.mp ha
  exact Heap.lt_size (N q hq).1
theorem none_above {g h0 : Heap} {L : Addr} {m0 : Str → Option Value} (F0 : Fr g L h0 m0) {a : Addr} (h : @LE.le Nat _ h0.objs.size a) : g.get? a = none :=
  Heap.get?_none_of_le (Nat.le_trans (Nat.le_of_lt (Nat.lt_of_le_of_lt F0.above F0.ns.lt)) h)
theorem any_contains (l : List Str) (b : Str) : l.any (fun x => x == b) = l.contains b := by
  induction l with
  | nil => rfl
  | cons x r ih =>
    rw [List.any_cons, List.contains_cons, ih]
    congr 1
    exact BEq.comm
theorem after_new {g h h' : Heap} {L fl : Addr} {m : Str → Option Value} {led : List (Addr × Obj)} {o : Obj} (F : Fr g L h m) (N : News g L h led) (off : Off [] h h') (hx : h'.get? fl = some o ∧ g.get? fl = none) (hfl : h.get? fl = none) :
    Fr g L h' m ∧ News g L h' ((fl, o) :: led) ∧ (∀ a ∈ led.map (·.1), @Ne Nat a fl) := by
  refine ⟨after_F F off (fun q => nomatch q) (fun a ha => nomatch ha), fun p hp => ?_, fun a ha => ?_⟩
  · rcases List.mem_cons.mp hp with rfl | hp
    · refine ⟨hx.1, fun e => ?_, hx.2⟩
      obtain ⟨oL, _, _, hLo, _⟩ := F.ns
      have e' : fl = L := e
      rw [← e', hfl] at hLo; cases hLo
    · exact after_N N off (fun p _ q => nomatch q) p hp
  · obtain ⟨q, hq, rfl⟩ := List.mem_map.mp ha
    intro e
    have e' : q.1 = fl := e
    have := (N q hq).1
    rw [e', hfl] at this; cases this
theorem stable_up {g h0 h h' : Heap} {L : Addr} {m0 m : Str → Option Value} {S : List Addr} {led : List (Addr × Obj)} 
    (F : Fr g L h m) (N : News g L h led) (off : Off S h h') (F0 : Fr g L h0 m0) (hS : ∀ a ∈ S, @LE.le Nat _ h0.objs.size a) (hled : ∀ a ∈ led.map (·.1), @LT.lt Nat _ a h0.objs.size) : Fr g L h' m ∧ News g L h' led :=
  ⟨after_F F off (fun q => Nat.lt_irrefl _ (Nat.lt_of_lt_of_le F0.ns.lt (hS _ q))) (fun a ha => none_above F0 (hS a ha)),
    after_N N off fun p hp q => Nat.lt_irrefl _ (Nat.lt_of_lt_of_le (hled p.1 (List.mem_map_of_mem hp)) (hS _ q))⟩
section
variable {prog : Program} {w : World} {A : Around} {E : Value → Shared → Prop} {s : Shared} {g : Heap} {L l : Addr} {m : Str → Option Value} {news : List (Addr × Obj)} {vs : List Value} {n : Nat} {Q : Value → Shared → Prop} {value slice : Expr} {t : Tok}
theorem slice_from1 (F : Fr g L s.heap m) (N : News g L s.heap news) (hm : (l, listO vs n) ∈ news) (hz : vs.length ≤ sizeLine)
    (h : ∀ c h', (∀ p ∈ news, @LT.lt Nat _ p.1 c) → Fr g L h' m → News g L h' ((c, listO (vs.drop 1) 0) :: news) → Q (.ref c) { s with heap := h' })
    (hs : subscripted slice false (.ref l) (.ref s.heap.objs.size) = operate [.ref s.heap.objs.size, .ref l] (getItem (.ref l) (.ref s.heap.objs.size)) := by with_unfolding_all rfl)
    (ht : ∀ r, letTemporaryGo value (.ref l) r = pure () := by intro _; with_unfolding_all rfl) :
    wpAny (model prog w) A (subscriptTail value slice (.ref l) (.ref s.heap.objs.size)) Q E { s with heap := s.heap.push { cls := .type "slice", data := .fields #[.int 1 t, .none, .none] } } := by
  refine slice_list (lo := some 1) (hi := none) F N ⟨_, (N _ hm).1, rfl, n, rfl⟩ (.int _ _) .none (fun h' F' N' => ?_) hs ht (by simpa using hz)
  rw [show slicePick vs.toArray (some 1) none none = (vs.drop 1).toArray from slicePick_from' vs.toArray 1] at N'
  exact h _ h' (fun p hp => Nat.lt_succ_of_lt (Heap.lt_size (N p hp).1)) F' N'
theorem slice_butlast (F : Fr g L s.heap m) (N : News g L s.heap news) (hm : (l, listO vs n) ∈ news) (hz : vs.length ≤ sizeLine)
    (h : ∀ c h', (∀ p ∈ news, @LT.lt Nat _ p.1 c) → Fr g L h' m → News g L h' ((c, listO vs.dropLast 0) :: news) → Q (.ref c) { s with heap := h' })
    (hs : subscripted slice false (.ref l) (.ref s.heap.objs.size) = operate [.ref s.heap.objs.size, .ref l] (getItem (.ref l) (.ref s.heap.objs.size)) := by with_unfolding_all rfl)
    (ht : ∀ r, letTemporaryGo value (.ref l) r = pure () := by intro _; with_unfolding_all rfl) :
    wpAny (model prog w) A (subscriptTail value slice (.ref l) (.ref s.heap.objs.size)) Q E { s with heap := s.heap.push { cls := .type "slice", data := .fields #[.none, .int (-1) t, .none] } } := by
  refine slice_list (lo := none) (hi := some (-1)) F N ⟨_, (N _ hm).1, rfl, n, rfl⟩ .none (.int _ _) (fun h' F' N' => ?_) hs ht (by simpa using hz)
  have e : slicePick vs.toArray none (some (-1)) none = vs.dropLast.toArray := by
    have := slicePick_butLast vs.toArray 1 (Nat.le_refl _)
    rw [List.size_toArray] at this
    rw [List.dropLast_eq_take]
    exact this
  rw [e] at N'
  exact h _ h' (fun p hp => Nat.lt_succ_of_lt (Heap.lt_size (N p hp).1)) F' N'
end
theorem off_drop2 {a b c d : Addr} {oc od : Obj} {h h' : Heap} (k : Off [a, b, c, d] h h') (e1 : h.get? c = some oc) (e1' : h'.get? c = some oc) (e2 : h.get? d = some od) (e2' : h'.get? d = some od) : Off [a, b] h h' :=
  off_keep (S := [a, b]) (a := c) (off_keep (S := [a, b, c]) (a := d) k e2 e2') e1 e1'
theorem strs_concat {vs : List Value} {pre : List Str} {z : Str} (h : StrsAre vs (pre ++ [z])) : ∃ vp tz, vs = vp ++ [.str z tz] ∧ StrsAre vp pre := by
  induction pre generalizing vs with
  | nil =>
    cases h with
    | cons _ t h' => cases h'; exact ⟨[], t, rfl, .nil⟩
  | cons x r ih =>
    cases h with
    | cons _ t h' =>
      obtain ⟨vp, tz, rfl, hs⟩ := ih h'
      exact ⟨.str x t :: vp, tz, rfl, .cons _ _ hs⟩
theorem ne_nilN {prog : Program} {w : World} {A : Around} {E : Value → Shared → Prop} {s : Shared} {g : Heap} {L a b : Addr} {news : List (Addr × Obj)} {xs : List Value} {n1 n2 : Nat} {ns : List Str} {Q : Value → Shared → Prop}
    (N : News g L s.heap news) (h1 : (a, listO xs n1) ∈ news) (h2 : (b, listO [] n2) ∈ news) (hi : StrsAre xs ns) (hn : ns ≠ []) (o1 : Oks ns) (hu : A.units + 64 < cLine) (h : Q (.bool true) s) :
    wpAny (model prog w) A (compareOp .NotEq (.ref a) (.ref b)) Q E s :=
  ne_strs ⟨_, (N _ h1).1, rfl, n1, rfl⟩ ⟨_, (N _ h2).1, rfl, n2, rfl⟩ hi .nil o1 (fun _ h => nomatch h) hu (by rw [decide_eq_false hn]; exact h)
theorem linked_c {w : World} {dp un : Nat} {fr : Option (List Env)} {gd : Option (List Code)} {s : Shared} {base : Heap} {R : Result → Shared → Prop} {U H T rl : Addr} {oU oH : Obj} {up : Up} {held : List (Str × Int)} {kvs kvh : List (Str × Value)} {n : Int} {own : Str} {vr : List Value} {refs : List Str} {nt nr : Nat} {t u : Tok}
    (G : Gr w base) (kp : ∀ b o, base.get? b = some o → s.heap.get? b = some o) (hh : Has base s.heap [(U, oU), (H, oH), (T, tupO [.int n u, .str own t, .ref rl] nt), (rl, listO vr nr)])
    (hU : oU.IsDictOf (strKind PR w) kvs) (hD : FlatPairs PyData.str kvs (encS up)) (hH : oH.IsDictOf (strKind PR w) kvh) (hE : FlatPairs PyData.str kvh (encI held))
    (low : (U == sysModules) = false) (low2 : (H == sysModules) = false) (hr : StrsAre vr refs) (hok : Oks refs)
    (a1 : @Ne Nat U H) (a2 : @Ne Nat U T) (a3 : @Ne Nat U rl) (a4 : @Ne Nat H T) (a5 : @Ne Nat H rl) (a6 : @Ne Nat T rl)
    (hc : Closed up) (hz : up.length + refs.length ≤ 900) (hz2 : held.length ≤ 900) (hn : 0 < n) (hn2 : n < 100)
    (hd : dp + 2 < recursionLimit) (hu : un + 200 < cLine)
    (ret : ∀ h' tk oU' oH' kvs' kvh', oU'.IsDictOf (strKind PR w) kvs' → FlatPairs PyData.str kvs' (encS (linkedUp up (mineOf held n own) refs)) → oH'.IsDictOf (strKind PR w) kvh' → FlatPairs PyData.str kvh' (encI (putA held (mineOf held n own) n)) →
      Has base h' [(U, oU'), (H, oH')] → Off [U, H] s.heap h' → R (.ok (.ret .none)) { s with heap := h', toks := tk }) :
    codeAny (model PR w) (AR dp un fr gd) (.call (.ref 105) ⟨[.ref U, .ref H, .ref T], []⟩) R s := by
  have hvr := strs_len hr
  have zU : (encS up).length ≤ sizeLine := by rw [encS_length, sizeLine_eq]; omega
  have zH : (encI held).length ≤ sizeLine := by rw [encI_length, sizeLine_eq]; omega
  refine' enterF _ ?hG ?hkp ?hhh ?hroom ?ho ?hcd ?hbind ?hloc ?hmain ?c1 ?c2 ?c3 ?c4
  (case hG => assumption)
  (case hkp => assumption)
  (case hhh => assumption)
  (case hroom => (show _ < recursionLimit; dsimp only; omega))
  (case ho => k_is)
  (case hcd => k_is)
  (case hbind => exact BindsTo.of_eq rfl)
  (case hloc => exact locs rfl)
  (case c1 => exact rfl)
  (case c2 => exact rfl)
  (case c3 => exact rfl)
  (case c4 => decide)
  k_whole
  intro g L h₁ mean mg mb F N X T' fin fresh kg
  try dsimp only
  refine' once (P := fun σ => ∃ h tk m tm oH2 kvh2, σ = { s with heap := h, toks := tk } ∧ Fr g L h m ∧ News g L h [(U, oU), (H, oH2), (T, tupO [.int n u, .str own t, .ref rl] nt), (rl, listO vr nr)] ∧
    oH2.IsDictOf (strKind PR w) kvh2 ∧ FlatPairs PyData.str kvh2 (encI (putA held (mineOf held n own) n)) ∧ m (Str.ofString "mine") = some (.str (mineOf held n own) tm) ∧ m (Str.ofString "up") = some (.ref U) ∧ m (Str.ofString "names") = some (.ref rl)) (fun key => ?main) ?pf
  case main =>
    repeat' (walk1)
    · have e : mineOf held n own = sharp n := by
        obtain ⟨v, hv, _⟩ := asc_of_isSome (by assumption)
        unfold mineOf
        rw [if_neg (by simp [hv])]
      rename Fr _ _ _ _ => F1
      rename News _ _ _ _ => N1
      rename FlatPairs _ (stored _ _ _) _ => hE1
      rename Obj.IsDictOf _ _ (stored _ _ _) => hH1
      exact Hold.out (key _ ⟨_, _, _, _, _, _, rfl, F1, N1, hH1, by rw [e, ← putD_encI]; exact hE1, by rw [e]; rfl, rfl, rfl⟩)
    · have e : mineOf held n own = own := by
        have hv := asc_of_isNone (by assumption)
        rename (own != Str.ofString "") = true => w1
        unfold mineOf
        rw [if_pos (by simp [hv, w1])]
      rename Fr _ _ _ _ => F1
      rename News _ _ _ _ => N1
      rename FlatPairs _ (stored _ _ _) _ => hE1
      rename Obj.IsDictOf _ _ (stored _ _ _) => hH1
      exact Hold.out (key _ ⟨_, _, _, _, _, _, rfl, F1, N1, hH1, by rw [e, ← putD_encI]; exact hE1, by rw [e]; rfl, rfl, rfl⟩)
    · have e : mineOf held n own = sharp n := by
        rename (own != Str.ofString "") = false => w1
        unfold mineOf
        rw [if_neg (by simp [w1])]
      rename Fr _ _ _ _ => F1
      rename News _ _ _ _ => N1
      rename FlatPairs _ (stored _ _ _) _ => hE1
      rename Obj.IsDictOf _ _ (stored _ _ _) => hH1
      exact Hold.out (key _ ⟨_, _, _, _, _, _, rfl, F1, N1, hH1, by rw [e, ← putD_encI]; exact hE1, by rw [e]; rfl, rfl, rfl⟩)
  case pf =>
    clear F N
    rintro σ ⟨h, tk, m, tm, oH2, kvh2, rfl, F2, N2, hH2, hE2, m1, m2, m3⟩
    refine wpAny_For ?_
    repeat' (first
      | (k_here; (with_reducible show wpAny _ _ (binaryOp _ (Value.ref _) (Value.ref _)) _ _ _); k_dflt (refine' add_listO ?Fw1 ?Nw1 ?h1w1 ?h2w1 ?hzw1 ?_; (case Fw1 => k_asm); (case Nw1 => k_asm); (case h1w1 => k_mem); (case h2w1 => k_mem); (case hzw1 => (rw [sizeLine_eq]; simp only [List.length_cons, List.length_nil]; omega)); k_whole); intro cl lc hlc F' N'; (try k_lt hlc); (try k_sweep))
      | walk1)
    rename Fr _ _ _ _ => F3
    rename News _ _ _ _ => N3
    have hS1 : StrsAre ([.str (mineOf held n own) tm] ++ vr) (mineOf held n own :: refs) := .cons _ _ hr
    refine for_list (l := cl) (vs := [.str (mineOf held n own) tm] ++ vr) (lo := listO ([.str (mineOf held n own) tm] ++ vr) 0) rfl (N3 (cl, _) (.head _)).1 rfl ⟨0, rfl⟩ (fun i h => ∃ m oU' kv, Fr g L h m ∧
      News g L h ([(cl, listO ([.str (mineOf held n own) tm] ++ vr) 0), (U, oU'), (H, oH2), (T, tupO [.int n u, .str own t, .ref rl] nt), (rl, listO vr nr)]) ∧ oU'.IsDictOf (strKind PR w) kv ∧ FlatPairs PyData.str kv (encS (((mineOf held n own :: refs).take i).foldl setd up)) ∧
      m (Str.ofString "mine") = some (.str (mineOf held n own) tm) ∧ m (Str.ofString "up") = some (.ref U) ∧ m (Str.ofString "names") = some (.ref rl)) ?_ ?_ ?_ ?_ ?_
    · intro it _
      exact ⟨_, _, _, F3.push it, Mine.News.subs (News.pushed N3 it) (fun p hp => by
        rcases List.mem_cons.mp hp with rfl | hp
        · exact .head _
        · exact .tail _ (.tail _ hp)), hU, hD, m1, m2, m3⟩
    · intro i h h' hInv off
      refine ex3 hInv fun m oU' kv hQ => an7 hQ fun F N q1 q2 q3 q4 q5 => ?_
      clear hQ hInv
      obtain ⟨F', N'⟩ := stable_led F N (Nat.ne_of_lt F3.ns.lt) (next_is_new F3) (fun p hp => by
        have hp' := List.mem_map_of_mem (f := Prod.fst) hp
        exact News.ne_top N3 p.1 (by
          have : p.1 ∈ [cl, U, H, T, rl] := hp'
          rcases List.mem_cons.mp this with e | h
          · rw [e]; exact .head _
          · exact .tail _ (.tail _ h))) off
      exact ⟨m, oU', kv, F', N', q1, q2, q3, q4, q5⟩
    · intro i h hInv
      refine ex3 hInv fun m oU' kv hQ => an7 hQ fun F N q1 q2 q3 q4 q5 => ?_
      clear hQ hInv
      exact (N (cl, _) (.head _)).1
    · intro i v h tk it hv hic hit hInv
      refine ex3 hInv fun m oU' kv hQ => an7 hQ fun F N q1 q2 q3 q4 q5 => ?_
      clear hQ hInv
      obtain ⟨y, ty, rfl, hyi⟩ := strs_get hS1 i hv
      have hsz := News.ne_top N3
      have hIL := (Nat.ne_of_lt F3.ns.lt)
      have hIg := next_is_new F3
      generalize hI : Heap.objs _ = ob at hit hsz hIL hIg ⊢
      have c1 := neN (hsz cl (by k_mem)); have c2 := neN (hsz U (by k_mem)); have c3 := neN (hsz H (by k_mem)); have c4 := neN (hsz T (by k_mem)); have c5 := neN (hsz rl (by k_mem))
      have d1 : @Ne Nat U cl := Nat.ne_of_lt hlc.2.1
      have N6 : News g L h [(cl, listO ([.str (mineOf held n own) tm] ++ vr) 0), (U, oU'), (H, oH2), (T, tupO [.int n u, .str own t, .ref rl] nt), (rl, listO vr nr), (ob.size, it)] :=
        Mine.News.both N (Mine.News.cons (l := []) ⟨hit, fun e => hIL e.symm, hIg⟩ (fun _ h => nomatch h))
      clear N hit N3 F3
      have hi : i < refs.length + 1 := by have := (List.getElem?_eq_some_iff.mp hyi).1; simpa using this
      have hft := foldl_take setd up (mineOf held n own :: refs) i hyi
      have hql := setds_len ((mineOf held n own :: refs).take i) up
      have hlen2 : ((mineOf held n own :: refs).take i).length = i := by rw [List.length_take, List.length_cons]; omega
      generalize ((mineOf held n own :: refs).take i).foldl setd up = q at *
      have zq : (encS q).length ≤ sizeLine := by rw [encS_length, sizeLine_eq]; omega
      cases hya : asc q y with
      | some p =>
        have hya' := asc_lookup hya
        repeat' (first
          | (k_here; (with_reducible show wpAny _ _ (call (Value.builtin "dict.setdefault") [Value.ref _, Value.str _ _, _]) _ _ _); k_dflt (first
      | (refine kt_setdefault_there PyProof.V.same_str (strKind_is _ _ _ _) (by k_tabat) (PySem.F.args_dict_setdefault_3 _ _ _) (by with_reducible assumption) (by assumption) ?_; intro v' hv')
      | (refine' kt_setdefault_K PyProof.V.same_str (strKind_is _ _ _ _) ?vw2 ?ow2 (PySem.F.args_dict_setdefault_3 _ _ _) ?Fw2 ?Nw2 ?Uw2 ?dw2 ?fw2 ?lw2 ?_ ?zw2; (case Fw2 => k_asm); (case Nw2 => k_asm); (case Uw2 => k_updF); (case dw2 => k_asm); (case fw2 => k_asm); (case lw2 => with_reducible assumption); (case zw2 => assumption); (case ow2 => k_asm); (case vw2 => k_flat); intro h' o' F' N' hd' hf'; (try dsimp only at N'); (try k_sweep))))
          | walk1)
        rename Fr _ _ _ _ => F7
        rename News _ _ _ _ => N7
        refine Hold.out ⟨_, _, rfl, (N7 (ob.size, it) (by k_mem)).1, ?_⟩
        have et : setd q y = q := by unfold setd; rw [if_pos (by rw [hya]; rfl)]
        rw [hft, et]
        exact ⟨_, _, _, F7, Mine.News.subs N7 (fun p hp => List.mem_append_left [(ob.size, it)] hp), q1, q2, q3, q4, q5⟩
      | none =>
        have hya' : Spec.lookup (PyData.str y) (encS q) = none := by rw [lookup_encS, hya]; rfl
        repeat' (first
          | (k_here; (with_reducible show wpAny _ _ (call (Value.builtin "dict.setdefault") [Value.ref _, Value.str _ _, _]) _ _ _); k_dflt (first
      | (refine kt_setdefault_there PyProof.V.same_str (strKind_is _ _ _ _) (by k_tabat) (PySem.F.args_dict_setdefault_3 _ _ _) (by with_reducible assumption) (by assumption) ?_; intro v' hv')
      | (refine' kt_setdefault_K PyProof.V.same_str (strKind_is _ _ _ _) ?vw3 ?ow3 (PySem.F.args_dict_setdefault_3 _ _ _) ?Fw3 ?Nw3 ?Uw3 ?dw3 ?fw3 ?lw3 ?_ ?zw3; (case Fw3 => k_asm); (case Nw3 => k_asm); (case Uw3 => k_updF); (case dw3 => k_asm); (case fw3 => k_asm); (case lw3 => with_reducible assumption); (case zw3 => assumption); (case ow3 => k_asm); (case vw3 => k_flat); intro h' o' F' N' hd' hf'; (try dsimp only at N'); (try k_sweep))))
          | walk1)
        rename Fr _ _ _ _ => F7
        rename News _ _ _ _ => N7
        rename FlatPairs _ (stored _ _ _) _ => hE7
        rename Obj.IsDictOf _ _ (stored _ _ _) => hU7
        rw [putD_encS] at hE7
        refine Hold.out ⟨_, _, rfl, (N7 (ob.size, it) (by k_mem)).1, ?_⟩
        have et : setd q y = putA q y (Str.ofString "") := by unfold setd; rw [if_neg (by rw [hya]; exact Bool.false_ne_true)]
        rw [hft, et]
        exact ⟨_, _, _, F7, Mine.News.subs N7 (fun p hp => List.mem_append_left [(ob.size, it)] hp), hU7, hE7, q3, q4, q5⟩
    · intro h tk hInv
      refine ex3 hInv fun m oU1 kv1 hQ => an7 hQ fun F N q1 q2 q3 q4 q5 => ?_
      clear hQ hInv
      have hvl : ([Value.str (mineOf held n own) tm] ++ vr).length = (mineOf held n own :: refs).length := strs_len hS1
      rw [hvl, List.take_length] at q2
      have C1 := setds_closed (mineOf held n own :: refs) hc
      have L1 := setds_len (mineOf held n own :: refs) up
      have M1 : ∀ y ∈ (mineOf held n own :: refs), (asc ((mineOf held n own :: refs).foldl setd up) y).isSome = true := fun y hy => setds_mem _ hy
      unfold linkedUp at ret
      generalize (mineOf held n own :: refs).foldl setd up = up1 at *
      simp only [List.length_cons] at L1
      have N1 : News g L h [(U, oU1), (H, oH2), (T, tupO [.int n u, .str own t, .ref rl] nt), (rl, listO vr nr)] := Mine.News.subs N (fun p hp => .tail _ hp)
      clear N N3 F3 m1 m2 m3
      repeat' (first
        | (k_here; (with_reducible show wpAny _ _ (subscriptTail _ (Expr.Slice _ _ _ _) _ _) _ _ _); first
        | (k_dflt (refine' slice_from1 ?Fw4 ?Nw4 ?hmw4 ?hzw4 ?_ ?hsw4 ?htw4; (case Fw4 => k_asm); (case Nw4 => k_asm); (case hmw4 => k_mem); (case hzw4 => (rw [sizeLine_eq]; omega)); (case hsw4 => with_unfolding_all rfl); (case htw4 => (intro _; with_unfolding_all rfl)); k_whole); intro c2 hX2 hl2 F' N'; (try k_lt hl2); (try k_sweep))
        | (k_dflt (refine' slice_butlast ?F2w4 ?N2w4 ?hm2w4 ?hz2w4 ?_ ?hs2w4 ?ht2w4; (case F2w4 => k_asm); (case N2w4 => k_asm); (case hm2w4 => k_mem); (case hz2w4 => (rw [sizeLine_eq]; omega)); (case hs2w4 => with_unfolding_all rfl); (case ht2w4 => (intro _; with_unfolding_all rfl)); k_whole); intro c1 hX1 hl1 F' N'; (try k_lt hl1); (try k_sweep)))
        | walk1)
      refine Hold.out ?_
      refine wpAny_For ?_
      repeat' (first
        | (k_here; (with_reducible show wpAny _ _ (subscriptTail _ (Expr.Slice _ _ _ _) _ _) _ _ _); first
        | (k_dflt (refine' slice_from1 ?Fw5 ?Nw5 ?hmw5 ?hzw5 ?_ ?hsw5 ?htw5; (case Fw5 => k_asm); (case Nw5 => k_asm); (case hmw5 => k_mem); (case hzw5 => (rw [sizeLine_eq]; omega)); (case hsw5 => with_unfolding_all rfl); (case htw5 => (intro _; with_unfolding_all rfl)); k_whole); intro c2 hX2 hl2 F' N'; (try k_lt hl2); (try k_sweep))
        | (k_dflt (refine' slice_butlast ?F2w5 ?N2w5 ?hm2w5 ?hz2w5 ?_ ?hs2w5 ?ht2w5; (case F2w5 => k_asm); (case N2w5 => k_asm); (case hm2w5 => k_mem); (case hz2w5 => (rw [sizeLine_eq]; omega)); (case hs2w5 => with_unfolding_all rfl); (case ht2w5 => (intro _; with_unfolding_all rfl)); k_whole); intro c1 hX1 hl1 F' N'; (try k_lt hl1); (try k_sweep)))
        | walk1)
      refine Hold.out ?_
      rename Fr _ _ _ _ => F3
      rename News _ _ _ _ => N3
      have hS2 : StrsAre vr.dropLast refs.dropLast := by rw [List.dropLast_eq_take, List.dropLast_eq_take, hvr]; exact hr.take' _
      have hS3 : StrsAre (vr.drop 1) refs.tail := by rw [← List.drop_one]; exact hr.drop' 1
      have hpr : ∀ p ∈ refs.dropLast.zip refs.tail, (asc up1 p.1).isSome = true ∧ (asc up1 p.2).isSome = true := fun p hp => by
        have h1 := (List.of_mem_zip hp).1
        have h2 := (List.of_mem_zip hp).2
        exact ⟨M1 _ (.tail _ ((List.dropLast_sublist refs).subset h1)), M1 _ (.tail _ (List.mem_of_mem_tail h2))⟩
      refine for_zip (l1 := c1) (l2 := c2) (xs := vr.dropLast) (ys := vr.drop 1) (lo1 := listO vr.dropLast 0) (lo2 := listO (vr.drop 1) 0) rfl (N3 (c1, _) (.tail _ (.head _))).1 rfl ⟨0, rfl⟩ (N3 (c2, _) (.head _)).1 rfl ⟨0, rfl⟩ (fun i h => ∃ m oU' kv, Fr g L h m ∧
        News g L h [(c2, listO (vr.drop 1) 0), (c1, listO vr.dropLast 0), (U, oU'), (H, oH2), (T, tupO [.int n u, .str own t, .ref rl] nt), (rl, listO vr nr)] ∧ oU'.IsDictOf (strKind PR w) kv ∧ FlatPairs PyData.str kv (encS (((refs.dropLast.zip refs.tail).take i).foldl linkStep up1)) ∧
        m (Str.ofString "mine") = some (.str (mineOf held n own) tm) ∧ m (Str.ofString "up") = some (.ref U) ∧ m (Str.ofString "names") = some (.ref rl)) ?_ ?_ ?_ ?_ ?_ ?_
      · intro h' hk
        exact ⟨_, _, _, F3.keeps hk, N3.grown hk, q1, q2, q3, q4, q5⟩
      · intro i h h' hInv off
        refine ex3 hInv fun m oU' kv hQ => an7 hQ fun F N q1 q2 q3 q4 q5 => ?_
        clear hQ hInv
        obtain ⟨F', N'⟩ := stable_up F N off F3 (fun a ha => by
          simp only [List.mem_cons, List.not_mem_nil, or_false] at ha
          rcases ha with e | e | e | e | e <;> (rw [e]; first | exact Nat.le_refl _ | exact Nat.le_add_right _ _)) (fun a ha => News.lt_top N3 a ha)
        exact ⟨m, oU', kv, F', N', q1, q2, q3, q4, q5⟩
      · intro i h hInv
        refine ex3 hInv fun m oU' kv hQ => an7 hQ fun F N q1 q2 q3 q4 q5 => ?_
        clear hQ hInv
        exact (N (c1, _) (.tail _ (.head _))).1
      · intro i h hInv
        refine ex3 hInv fun m oU' kv hQ => an7 hQ fun F N q1 q2 q3 q4 q5 => ?_
        clear hQ hInv
        exact (N (c2, _) (.head _)).1
      · intro i vx vy T1 h tk o0 o1 o2 o3 o4 hx hy hT k4 k2 k3 k0 k1 g4 g2 g3 g0 g1 hInv
        refine ex3 hInv fun m oU' kv hQ => an7 hQ fun F N q1 q2 q3 q4 q5 => ?_
        clear hQ hInv
        obtain ⟨a, ta, rfl, hai⟩ := strs_get hS2 i hx
        obtain ⟨b, tb, rfl, hbi⟩ := strs_get hS3 i hy
        have hsz := News.lt_top N3
        have hIL := F3.ns.lt
        have hIg : ∀ k : Nat, g.get? (hX2.objs.size + k) = none := fun k => none_above F3 (Nat.le_add_right _ _)
        dsimp only at g4 g2 g3 g0 g1 hsz hIL hIg ⊢
        generalize hX2.objs.size = sz at g4 g2 g3 g0 g1 hsz hIL hIg ⊢
        have c1' := ltN (hsz c1 (by k_mem)); have c2' := ltN (hsz c2 (by k_mem)); have c3' := ltN (hsz U (by k_mem)); have c4' := ltN (hsz H (by k_mem)); have c5' := ltN (hsz T (by k_mem)); have c6' := ltN (hsz rl (by k_mem))
        have N6 : News g L h [(c2, listO (vr.drop 1) 0), (c1, listO vr.dropLast 0), (U, oU'), (H, oH2), (T, tupO [.int n u, .str own t, .ref rl] nt), (rl, listO vr nr), (sz + 4, o4), (sz + 2, o2), (sz + 3, o3), (sz, o0), (sz + 1, o1)] := 
          have hIL' := ltN hIL
          Mine.News.both N (Mine.News.cons ⟨g4, (Nat.ne_of_gt (Nat.lt_add_right 4 hIL')), hIg 4⟩ (Mine.News.cons ⟨g2, (Nat.ne_of_gt (Nat.lt_add_right 2 hIL')), hIg 2⟩ (Mine.News.cons ⟨g3, (Nat.ne_of_gt (Nat.lt_add_right 3 hIL')), hIg 3⟩
            (Mine.News.cons ⟨g0, Nat.ne_of_gt hIL', hIg 0⟩ (Mine.News.cons (l := []) ⟨g1, (Nat.ne_of_gt (Nat.lt_add_right 1 hIL')), hIg 1⟩ (fun _ h => nomatch h))))))
        clear N hsz N3 F3 g4 g2 g3 g0 g1
        have hpi : (refs.dropLast.zip refs.tail)[i]? = some (a, b) := by
          rw [List.getElem?_zip_eq_some]; exact ⟨hai, hbi⟩
        have hft := foldl_take linkStep up1 (refs.dropLast.zip refs.tail) i hpi
        obtain ⟨Cq, Mq, Lq⟩ := links_ok ((refs.dropLast.zip refs.tail).take i) C1 (fun p hp => hpr p (List.mem_of_mem_take hp))
        have hpab := hpr _ (List.mem_of_getElem? hpi)
        generalize ((refs.dropLast.zip refs.tail).take i).foldl linkStep up1 = q at *
        have zq : (encS q).length ≤ sizeLine := by rw [encS_length, sizeLine_eq]; omega
        obtain ⟨p, hp⟩ := Option.isSome_iff_exists.mp (Mq _ hpab.2)
        have hp' := asc_lookup hp
        have hqa := Mq _ hpab.1
        repeat' (walk1)
        · rename (p == Str.ofString "") = true => w1
          rename Fr _ _ _ _ => F7
          rename News _ _ _ _ => N7
          refine wpAny_call (way_c ⟨X, _, _, _, T'⟩ F7.keep ((Has.of_news N7).sub (fun p hp => by rw [List.mem_singleton.mp hp]; exact .tail _ (.tail _ (.head _)))) q1 q2 low Cq hqa (by first | omega | (simp only [depth_deeper]; omega) | (dsimp only; omega)) ?_)
          intro h2 tk2 fl vw nw hSw hhw hfl off
          obtain ⟨F8, N8, ne8⟩ := after_new F7 N7 off (hhw (fl, _) (.tail _ (.head _))) hfl
          have f1 := ne8 U (by k_mem)
          clear F7 N7
          dsimp only
          repeat' (walk1)
          · rename (List.any _ _) = true => w2
            have et : linkStep q (a, b) = q := by
              unfold linkStep
              rw [if_neg (by rw [any_contains] at w2; simp only [w2]; simp)]
            have F9 := F8
            have N9 := N8
            refine Hold.out ⟨_, _, rfl, ⟨(N9 (sz + 4, o4) (by k_mem)).1, (N9 (sz + 2, o2) (by k_mem)).1, (N9 (sz + 3, o3) (by k_mem)).1, (N9 (sz, o0) (by k_mem)).1, (N9 (sz + 1, o1) (by k_mem)).1⟩, ?_⟩
            rw [hft, et]
            exact ⟨_, _, _, F9, Mine.News.subs N9 (fun p hp => .tail _ (List.mem_append_left [(sz + 4, o4), (sz + 2, o2), (sz + 3, o3), (sz, o0), (sz + 1, o1)] hp)), q1, q2, q3, q4, q5⟩
          · rename FlatPairs _ (stored _ _ _) _ => hE7
            rename Obj.IsDictOf _ _ (stored _ _ _) => hU7
            rename Fr _ _ _ _ => F9
            rename News _ _ _ _ => N9
            rename (List.any _ _) = false => w2
            rw [putD_encS] at hE7
            have et : linkStep q (a, b) = putA q b a := by
              unfold linkStep
              rw [if_pos (by rw [any_contains] at w2; have : p = Str.ofString "" := by simpa using w1
                             subst this; simp only [hp, w2]; rfl)]
            refine Hold.out ⟨_, _, rfl, ⟨(N9 (sz + 4, o4) (by k_mem)).1, (N9 (sz + 2, o2) (by k_mem)).1, (N9 (sz + 3, o3) (by k_mem)).1, (N9 (sz, o0) (by k_mem)).1, (N9 (sz + 1, o1) (by k_mem)).1⟩, ?_⟩
            rw [hft, et]
            exact ⟨_, _, _, F9, Mine.News.subs N9 (fun p hp => .tail _ (List.mem_append_left [(sz + 4, o4), (sz + 2, o2), (sz + 3, o3), (sz, o0), (sz + 1, o1)] hp)), hU7, hE7, q3, q4, q5⟩
        · rename (p == Str.ofString "") = false => w1
          rename Fr _ _ _ _ => F9
          rename News _ _ _ _ => N9
          have et : linkStep q (a, b) = q := by
            unfold linkStep
            have : p ≠ Str.ofString "" := by simpa using w1
            rw [if_neg (by simp only [hp]; simp [this])]
          refine Hold.out ⟨_, _, rfl, ⟨(N9 (sz + 4, o4) (by k_mem)).1, (N9 (sz + 2, o2) (by k_mem)).1, (N9 (sz + 3, o3) (by k_mem)).1, (N9 (sz, o0) (by k_mem)).1, (N9 (sz + 1, o1) (by k_mem)).1⟩, ?_⟩
          rw [hft, et]
          exact ⟨_, _, _, F9, Mine.News.subs N9 (fun p hp => List.mem_append_left [(sz + 4, o4), (sz + 2, o2), (sz + 3, o3), (sz, o0), (sz + 1, o1)] hp), q1, q2, q3, q4, q5⟩
      · intro h tk hInv
        refine ex3 hInv fun m oU2 kv2 hQ => an7 hQ fun F N q1 q2 q3 q4 q5 => ?_
        clear hQ hInv
        have hml : min vr.dropLast.length (vr.drop 1).length = (refs.dropLast.zip refs.tail).length := by
          rw [List.length_zip, List.length_dropLast, List.length_dropLast, List.length_drop, List.length_tail, hvr]
        rw [hml, List.take_length] at q2
        obtain ⟨C2, M2, L2⟩ := links_ok (refs.dropLast.zip refs.tail) C1 hpr
        generalize (refs.dropLast.zip refs.tail).foldl linkStep up1 = up2 at *
        have z2 : (encS up2).length ≤ sizeLine := by rw [encS_length, sizeLine_eq]; omega
        have M2' : ∀ y ∈ refs, (asc up2 y).isSome = true := fun y hy => M2 y (M1 y (.tail _ hy))
        clear N3 F3
        rcases List.eq_nil_or_concat refs with hre | ⟨pre, z, hre⟩
        · subst hre
          obtain rfl : vr = [] := by cases hr; rfl
          repeat' (first
            | (k_here; (with_reducible show wpAny _ _ (compareOp _ (Value.ref _) (Value.ref _)) _ _ _); k_dflt (refine' ne_nilN ?Nw6 ?h1w6 ?h2w6 ?hiw6 ?hnw6 ?o1w6 ?huw6 ?_; (case Nw6 => k_asm); (case h1w6 => k_mem); (case h2w6 => k_mem); (case hiw6 => with_reducible assumption); (case hnw6 => with_reducible assumption); (case o1w6 => with_reducible assumption); (case huw6 => (simp only [Around.deeper_units]; omega)); k_whole))
            | walk1)
          rename FlatPairs _ (stored _ _ _) _ => hE7
          rename Obj.IsDictOf _ _ (stored _ _ _) => hU7
          rename Fr _ _ _ _ => F9
          rename News _ _ _ _ => N9
          rw [putD_encS] at hE7
          have N10 := Mine.News.subs N9 (l' := [(U, _), (H, oH2), (T, tupO [.int n u, .str own t, .ref rl] nt), (rl, listO [] nr)]) (fun p hp => .tail _ (.tail _ (.tail _ hp)))
          exact ret _ _ _ _ _ _ hU7 hE7 hH2 hE2 (Has.older (Has.of_news (Mine.News.subs N10 (fun p hp => List.mem_append_left [(T, tupO [.int n u, .str own t, .ref rl] nt), (rl, listO [] nr)] hp))) kg)
            (off_drop2 (fin _ _ _ F9 N10).1 (hh (T, _) (by k_mem)).1 (N10 (T, _) (by k_mem)).1 (hh (rl, _) (by k_mem)).1 (N10 (rl, _) (by k_mem)).1)
        · rw [List.concat_eq_append] at hre
          subst hre
          have hne : pre ++ [z] ≠ [] := by simp
          obtain ⟨vp, tz, rfl, hSp⟩ := strs_concat hr
          have C3 := C2.putA (mineOf held n own) (Str.ofString "") (.inl rfl)
          have hz3 : (asc (putA up2 (mineOf held n own) (Str.ofString "")) z).isSome = true := has_putA (M2' z (by simp))
          repeat' (first
            | (k_here; (with_reducible show wpAny _ _ (compareOp _ (Value.ref _) (Value.ref _)) _ _ _); k_dflt (refine' ne_nilN ?Nw7 ?h1w7 ?h2w7 ?hiw7 ?hnw7 ?o1w7 ?huw7 ?_; (case Nw7 => k_asm); (case h1w7 => k_mem); (case h2w7 => k_mem); (case hiw7 => with_reducible assumption); (case hnw7 => with_reducible assumption); (case o1w7 => with_reducible assumption); (case huw7 => (simp only [Around.deeper_units]; omega)); k_whole))
            | walk1)
          rename FlatPairs _ (stored _ _ _) _ => hE7
          rename Obj.IsDictOf _ _ (stored _ _ _) => hU7
          rename Fr _ _ _ _ => F9
          rename News _ _ _ _ => N9
          rw [putD_encS] at hE7
          have z3 : (encS (putA up2 (mineOf held n own) (Str.ofString ""))).length ≤ sizeLine := by
            have := putA_len up2 (mineOf held n own) (Str.ofString "")
            rw [encS_length, sizeLine_eq]; omega
          refine wpAny_call (way_c ⟨X, _, _, _, T'⟩ F9.keep ((Has.of_news N9).sub (fun p hp => by rw [List.mem_singleton.mp hp]; exact .tail _ (.tail _ (.tail _ (.head _))))) hU7 hE7 low C3 hz3 (by first | omega | (simp only [depth_deeper]; omega) | (dsimp only; omega)) ?_)
          intro h2 tk2 fl vw nw hSw hhw hfl off
          obtain ⟨F8, N8, ne8⟩ := after_new F9 N9 off (hhw (fl, _) (.tail _ (.head _))) hfl
          have f1 := ne8 U (by k_mem)
          clear F9 N9
          dsimp only at N8 ⊢
          have hgl : (pre ++ [z]).getLast? = some z := by simp
          unfold lastStep at ret
          rw [hgl] at ret
          dsimp only at ret
          repeat' (walk1)
          · rename (List.any _ _) = true => w2
            rw [any_contains] at w2
            rw [if_pos w2] at ret
            rename Fr _ _ _ _ => F11
            rename News _ _ _ _ => N11
            have N10 := Mine.News.subs N11 (l' := [(U, _), (H, oH2), (T, tupO [.int n u, .str own t, .ref rl] nt), (rl, listO (vp ++ [Value.str z tz]) nr)]) (fun p hp => .tail _ (.tail _ (.tail _ (.tail _ hp))))
            have O12 := (off_drop2 (fin _ _ _ F11 N10).1 (hh (T, _) (by k_mem)).1 (N10 (T, _) (by k_mem)).1 (hh (rl, _) (by k_mem)).1 (N10 (rl, _) (by k_mem)).1)
            exact ret _ _ _ _ _ _ hU7 hE7 hH2 hE2 (Has.older (Has.of_news (Mine.News.subs N10 (fun p hp => List.mem_append_left [(T, tupO [.int n u, .str own t, .ref rl] nt), (rl, listO (vp ++ [Value.str z tz]) nr)] hp))) kg) O12
          · rename (List.any _ _) = false => w2
            rw [any_contains] at w2
            rw [if_neg (by rw [w2]; exact Bool.false_ne_true)] at ret
            rename FlatPairs _ (stored _ _ _) _ => hE8
            rename Obj.IsDictOf _ _ (stored _ _ _) => hU8
            rw [putD_encS] at hE8
            rename Fr _ _ _ _ => F11
            rename News _ _ _ _ => N11
            have N10 := Mine.News.subs N11 (l' := [(U, _), (H, oH2), (T, tupO [.int n u, .str own t, .ref rl] nt), (rl, listO (vp ++ [Value.str z tz]) nr)]) (fun p hp => .tail _ (.tail _ (.tail _ (.tail _ hp))))
            have O12 := (off_drop2 (fin _ _ _ F11 N10).1 (hh (T, _) (by k_mem)).1 (N10 (T, _) (by k_mem)).1 (hh (rl, _) (by k_mem)).1 (N10 (rl, _) (by k_mem)).1)
            exact ret _ _ _ _ _ _ hU8 hE8 hH2 hE2 (Has.older (Has.of_news (Mine.News.subs N10 (fun p hp => List.mem_append_left [(T, tupO [.int n u, .str own t, .ref rl] nt), (rl, listO (vp ++ [Value.str z tz]) nr)] hp))) kg) O12

theorem fill8 : (fun (_ : OpenLaw) (_ : Params → Frag) => True) PySem.Challenge.rw_nz0269_01 hd.heap_39 := by
  w_top off
  k_fill
  trivial
set_option maxHeartbeats 4000000
def nearF (ns ps : List Int) : Nat → Int → Int → Int × Int
  | 0, last, _ => (0, last)
  | f + 1, last, above => if 0 ≤ above ∧ ns.getD above.toNat 0 = 0 then nearF ns ps f above (ps.getD above.toNat 0) else (if 0 ≤ above then ns.getD above.toNat 0 else 0, last)
theorem nearest_c {w : World} {dp un : Nat} {fr : Option (List Env)} {gd : Option (List Code)} {s : Shared} {base : Heap} {R : Result → Shared → Prop} {fa : FA} {st : Fam} {l : List (Addr × Obj)} {pl0 : Int} {k : Nat} {t : Tok}
    (G : Gr w base) (kp : ∀ b o, base.get? b = some o → s.heap.get? b = some o) (hl : FamIn w st fa l) (hh : Has base s.heap l)
    (e1 : st.ns.length = st.ps.length) (hz : st.ps.length ≤ 1000) (h0 : 0 ≤ pl0) (h1 : pl0 < st.ps.length) (D : Ends st.ps (st.ps.getD pl0.toNat 0) k)
    (hd : dp + 1 < recursionLimit)
    (ret : ∀ h' tk tl n t1 t2, Has base h' ((tl, tupO [.int (nearF st.ns st.ps k pl0 (st.ps.getD pl0.toNat 0)).1 t1, .int (nearF st.ns st.ps k pl0 (st.ps.getD pl0.toNat 0)).2 t2] n) :: l) → s.heap.get? tl = none → Off [] s.heap h' → R (.ok (.ret (.ref tl))) { s with heap := h', toks := tk }) :
    codeAny (model PR w) (AR dp un fr gd) (.call (.ref 70) ⟨[.ref fa.fam, .int pl0 t], []⟩) R s := by
  have hl0 := hl
  refine FamIn.elim hl fun t1 t2 t3 nd oP n1 n2 vn vp kvs el hP hD hN hA hnd low => ?_
  subst el
  clear hl
  obtain ⟨fam, dx, pl, nu, pa⟩ := fa
  dsimp only at low ret hh kp ⊢
  refine' enterF _ ?hG ?hkp ?hhh ?hroom ?ho ?hcd ?hbind ?hloc ?hmain ?c1 ?c2 ?c3 ?c4
  (case hG => assumption)
  (case hkp => assumption)
  (case hhh => assumption)
  (case hroom => (show _ < recursionLimit; dsimp only; omega))
  (case ho => k_is)
  (case hcd => k_is)
  (case hbind => exact BindsTo.of_eq rfl)
  (case hloc => exact locs rfl)
  (case c1 => exact rfl)
  (case c2 => exact rfl)
  (case c3 => exact rfl)
  (case c4 => decide)
  k_whole
  intro g L h₁ mean mg mb F N X T fin fresh kg
  try dsimp only
  repeat' (walk1)
  refine Hold.out ?_
  rename Fr _ _ _ _ => F1
  rename News _ _ _ _ => N1
  refine while_rule (fun n s' => ∃ h' tk last above ta tb m, s' = { s with heap := h', toks := tk } ∧ Fr g L h' m ∧ News g L h' [(fam, instObj 73 dx), (dx, dictOf (famD w t1 t2 t3 pl nu pa) nd), (pl, oP), (nu, listO vn n1), (pa, listO vp n2)] ∧
    m (Str.ofString "self") = some (.ref fam) ∧ m (Str.ofString "last") = some (.int last ta) ∧ m (Str.ofString "above") = some (.int above tb) ∧ Ends st.ps above n ∧ nearF st.ns st.ps n last above = nearF st.ns st.ps k pl0 (st.ps.getD pl0.toNat 0)) ?_ k ?_
  rotate_left
  · exact ⟨_, _, pl0, _, _, _, _, rfl, F1, Mine.News.subs N1 (fun p hp => .tail _ hp), rfl, rfl, rfl, D, rfl⟩
  · rintro n s' ⟨h', tk, last, above, ta, tb, m, rfl, F', N', m1, m2, m3, D', hw⟩
    clear F1 N1
    cases D' with
    | stop hs =>
      have hw' : nearF st.ns st.ps 0 last (-1) = (0, last) := rfl
      rw [← hw, hw'] at ret
      repeat' (walk1)
      rename Fr _ _ _ _ => F9
      rename News _ _ _ _ => N9
      rename @LT.lt Nat _ _ _ ∧ _ => l5
      have hfr : s.heap.get? _ = none := fresh _ (fun q => by
        simp only [List.map_cons, List.map_nil, List.mem_cons, List.not_mem_nil, or_false] at q
        obtain ⟨z1, z2, z3, z4, z5⟩ := l5
        rcases q with e | e | e | e | e <;> exact absurd e (Nat.ne_of_gt (by assumption))) (N9 _ (.head _)).2.2
      have N10 := Mine.News.subs N9 (l' := [(fam, instObj 73 dx), (dx, dictOf (famD w t1 t2 t3 pl nu pa) nd), (pl, oP), (nu, listO vn n1), (pa, listO vp n2)]) (fun p hp => .tail _ hp)
      exact ret _ _ _ 0 _ _ (Has.older (Has.of_news N9) kg) hfr (off_nil (fin _ _ _ F9 N10).1 (fun p hp => (hh p hp).1) (fun p hp => (N10 p hp).1))
    | step q1 q2 q3 D' =>
      rename_i k'
      repeat' (walk1)
      · rename List.getD _ _ _ = 0 => w1
        rename Fr _ _ _ _ => F9
        rename News _ _ _ _ => N9
        have hw' : nearF st.ns st.ps (k' + 1) last above = nearF st.ns st.ps k' above (st.ps.getD above.toNat 0) := by
          show (if _ then _ else _) = _
          rw [if_pos ⟨q1, w1⟩]
        exact Hold.out ⟨k', Nat.lt_succ_self _, _, _, _, _, _, _, _, rfl, F9, Mine.News.subs N9 (fun p hp => .tail _ hp), m1, rfl, rfl, D', by rw [← hw, hw']⟩
      · rename List.getD _ _ _ ≠ 0 => w1
        have hw' : nearF st.ns st.ps (k' + 1) last above = (st.ns.getD above.toNat 0, last) := by
          show (if _ then _ else _) = _
          rw [if_neg (fun e => w1 e.2), if_pos q1]
        rw [← hw, hw'] at ret
        rename Fr _ _ _ _ => F9
        rename News _ _ _ _ => N9
        rename @LT.lt Nat _ _ _ ∧ _ => l5
        have hfr : s.heap.get? _ = none := fresh _ (fun q => by
          simp only [List.map_cons, List.map_nil, List.mem_cons, List.not_mem_nil, or_false] at q
          obtain ⟨z1, z2, z3, z4, z5⟩ := l5
          rcases q with e | e | e | e | e <;> exact absurd e (Nat.ne_of_gt (by assumption))) (N9 _ (.head _)).2.2
        have N10 := Mine.News.subs N9 (l' := [(fam, instObj 73 dx), (dx, dictOf (famD w t1 t2 t3 pl nu pa) nd), (pl, oP), (nu, listO vn n1), (pa, listO vp n2)]) (fun p hp => .tail _ hp)
        exact ret _ _ _ 0 _ _ (Has.older (Has.of_news N9) kg) hfr (off_nil (fin _ _ _ F9 N10).1 (fun p hp => (hh p hp).1) (fun p hp => (N10 p hp).1))

section
variable {prog : Program} {w : World} {A : Around} {E : Value → Shared → Prop} {s : Shared} {env : Env} {body : List Stmt} {Q : Flow → Shared → Prop} {x : Str} {px : Pos}
theorem for_range {r : Addr} {a b : Int} {t u v : Tok} {n : Nat} (hh : A.handled = none) (hr : IsRange s.heap r a b 1 t u v) (hsmall : Builtin.Range.small a b 1 = true) (hn : Builtin.Range.rangeSize a b 1 = (n : Int)) (J : Nat → Heap → Prop)
    (start : ∀ it, it.cls = .type "range_iterator" → J 0 (s.heap.push it))
    (stable : ∀ i h h', J i h → Off [s.heap.objs.size] h h' → J i h')
    (step : ∀ i tv h tk it, i < n → it.cls = .type "range_iterator" → h.get? s.heap.objs.size = some it → J i h →
      wpAny (model prog w) A (assign (.Name x px) env (.int (a + (i : Nat)) tv)) (fun _ s₃ => wpAny (model prog w) A (execs body env) (fun f s₄ => match f with
        | .next | .cont => Hold (∃ h' tk', s₄ = { s with heap := h', toks := tk' } ∧ h'.get? s.heap.objs.size = some it ∧ J (i + 1) h')
        | .brk => Q .next s₄
        | .ret v => Q (.ret v) s₄) (fun _ _ => False) s₃) (fun _ _ => False) { s with heap := h, toks := tk })
    (done : ∀ h tk, J n h → Q .next { s with heap := h, toks := tk }) :
    wpAny (model prog w) A (pyIter (.ref r)) (fun it s₂ => codeAny (model prog w) A (.forLoop (.Name x px) it body [] env) (fun r s' => match r with | .ok f => Q f s' | .error e => cameBackBy (model prog w) A env E e s') s₂) E s := by
  refine wpAny_pyIter_range hr hsmall ?_
  have W := KTurns.ofWalks (target := .Name x px) (Walks.range (prog := prog) (w := w) hh s.heap.objs.size a 1 n) fun i v s Q E st q => by
    show wpAny _ _ (pure ()) _ _ _
    exact wpAny_pure q
  refine for_turns' W J ?st (start _ rfl) stable (fun i v h tk hi hP hst hJ => ?_) done
  case st =>
    show IsRangeIter _ _ _ _ _
    rw [hn]
    simpa using Heap.get?_push_size _ rfl
  obtain ⟨t', rfl⟩ := hP
  obtain ⟨it, hit, hic⟩ : ∃ it : Obj, h.get? s.heap.objs.size = some it ∧ it.cls = .type "range_iterator" := ⟨_, hst, rfl⟩
  rw [Int.mul_one]
  refine wpAny_mono (step i t' h tk it hi hic hit hJ) (fun _ s₂ h₂ => wpAny_mono h₂ (fun f s₃ h₃ => ?_) fun _ _ e => e) fun _ _ e => e
  have key : Hold (∃ h' tk', s₃ = { s with heap := h', toks := tk' } ∧ h'.get? s.heap.objs.size = some it ∧ J (i + 1) h') →
      Hold (∃ h'' tk', s₃ = { s with heap := h'', toks := tk' } ∧ (∀ b' ∈ [s.heap.objs.size], ∀ o, h.get? b' = some o → h''.get? b' = some o) ∧ J (i + 1) h'') := by
    rintro ⟨h', tk', e, a, b⟩
    refine ⟨h', tk', e, fun b' hb o ho => ?_, b⟩
    rw [List.mem_singleton.mp hb] at ho ⊢
    rw [hit] at ho; rw [a]; exact ho
  cases f with
  | next => exact key h₃
  | cont => exact key h₃
  | brk => exact h₃
  | ret v => exact h₃
end
theorem wayF_len (up : Up) : ∀ (f : Nat) (x : Str), (wayF up f x).length ≤ f + 1 ∧ 1 ≤ (wayF up f x).length := by
  intro f
  induction f with
  | zero => intro x; exact ⟨Nat.le_refl _, Nat.le_refl _⟩
  | succ f ih =>
    intro x
    unfold wayF
    split
    · split
      · exact ⟨by simp, by simp⟩
      · rename_i p _ _
        have := ih p
        simp only [List.length_cons]; omega
    · exact ⟨by simp, by simp⟩
theorem way_len (up : Up) (x : Str) : (way up x).length ≤ 20 ∧ 1 ≤ (way up x).length := wayF_len up 19 x

theorem fill9 : (fun (_ : OpenLaw) (_ : Params → Frag) => True) PySem.Challenge.rw_nz0269_01 hd.heap_39 := by
  w_top off
  k_fill
  trivial
set_option maxHeartbeats 4000000
local macro_rules | `(tactic| walk_at "exec For Name Call cons nil") => `(tactic| refine Hold.mk ?_)
def lnearF (held : List (Str × Int)) : Str → List Str → Int × Str
  | prev, [] => (0, prev)
  | prev, x :: r => match asc held x with | some v => (v, prev) | none => lnearF held x r
def lnear (up : Up) (held : List (Str × Int)) (name : Str) : Int × Str := match way up name with
  | [] => (0, name)
  | x :: r => lnearF held x r
theorem sub_at {prog : Program} {w : World} {A : Around} {E : Value → Shared → Prop} {s : Shared} {g : Heap} {L fl : Addr} {news : List (Addr × Obj)} {vs : List Value} {k : Int} {v : Value} {n : Nat} {t : Tok} {value slice : Expr} {Q : Value → Shared → Prop}
    (N : News g L s.heap news) (hm : (fl, listO vs n) ∈ news) (h0 : 0 ≤ k) (hf : k < 2 ^ 63) (hx : vs[k.toNat]? = some v) (h : Q v s)
    (hs : subscripted slice false (.ref fl) (.int k t) = operate [.ref fl, .int k t] (getItem (.ref fl) (.int k t)) := by with_unfolding_all rfl) :
    wpAny (model prog w) A (subscriptTail value slice (.ref fl) (.int k t)) Q E s := by
  have hl : s.heap.IsList fl vs.toArray := ⟨_, (N _ hm).1, rfl, n, rfl⟩
  exact tail_any hl.typeIs slot_list_getitem.lookup (wpAny_getItem_list hl h0 hf (by simpa using hx) h) hs
theorem get_strs {vs : List Value} {ys : List Str} (h : StrsAre vs ys) {i : Nat} (hi : i < ys.length) : ∃ t, vs[i]? = some (.str (ys.getD i (Str.ofString "")) t) := by
  obtain ⟨t, ht⟩ := StrsAre.at h (j := i) (y := ys[i]) (List.getElem?_eq_getElem hi)
  exact ⟨t, by rw [ht]; simp [List.getD, List.getElem?_eq_getElem hi]⟩
theorem lnearest_c {w : World} {dp un : Nat} {fr : Option (List Env)} {gd : Option (List Code)} {s : Shared} {base : Heap} {R : Result → Shared → Prop} {U H : Addr} {oU oH : Obj} {up : Up} {held : List (Str × Int)} {kvs kvh : List (Str × Value)} {x : Str} {t : Tok}
    (G : Gr w base) (kp : ∀ b o, base.get? b = some o → s.heap.get? b = some o) (hh : Has base s.heap [(U, oU), (H, oH)])
    (hU : oU.IsDictOf (strKind PR w) kvs) (hD : FlatPairs PyData.str kvs (encS up)) (hH : oH.IsDictOf (strKind PR w) kvh) (hE : FlatPairs PyData.str kvh (encI held))
    (low : (U == sysModules) = false) (low2 : (H == sysModules) = false) (hc : Closed up) (hx : (asc up x).isSome = true)
    (hd : dp + 2 < recursionLimit)
    (ret : ∀ h' tk tl n t1 t2, Has base h' [(tl, tupO [.int (lnear up held x).1 t1, .str (lnear up held x).2 t2] n), (U, oU), (H, oH)] → s.heap.get? tl = none → Off [] s.heap h' → R (.ok (.ret (.ref tl))) { s with heap := h', toks := tk }) :
    codeAny (model PR w) (AR dp un fr gd) (.call (.ref 117) ⟨[.ref U, .ref H, .str x t], []⟩) R s := by
  refine' enterF _ ?hG ?hkp ?hhh ?hroom ?ho ?hcd ?hbind ?hloc ?hmain ?c1 ?c2 ?c3 ?c4
  (case hG => assumption)
  (case hkp => assumption)
  (case hhh => assumption)
  (case hroom => (show _ < recursionLimit; dsimp only; omega))
  (case ho => k_is)
  (case hcd => k_is)
  (case hbind => exact BindsTo.of_eq rfl)
  (case hloc => exact locs rfl)
  (case c1 => exact rfl)
  (case c2 => exact rfl)
  (case c3 => exact rfl)
  (case c4 => decide)
  k_whole
  intro g L h₁ mean mg mb F N X T fin fresh kg
  try dsimp only
  repeat' (walk1)
  rename Fr _ _ _ _ => F7
  rename News _ _ _ _ => N7
  refine wpAny_call (way_c ⟨X, _, _, _, T⟩ F7.keep ((Has.of_news N7).sub (fun p hp => by rw [List.mem_singleton.mp hp]; exact .head _)) hU hD low hc hx (by first | omega | (simp only [depth_deeper]; omega) | (dsimp only; omega)) ?_)
  intro h2 tk2 fl vw nw hSw hhw hfl off
  obtain ⟨F8, N8, ne8⟩ := after_new F7 N7 off (hhw (fl, _) (.tail _ (.head _))) hfl
  have f1 := ne8 U (by k_mem)
  have f2 := ne8 H (by k_mem)
  clear F7 N7
  dsimp only at N8 ⊢
  have hvl := strs_len hSw
  obtain ⟨wl1, wl2⟩ := way_len up x
  dsimp only at f1 f2
  repeat' (first
    | (k_here; (with_reducible show wpAny _ _ (subscriptTail _ _ (Value.ref _) (Value.int _ _)) _ _ _); k_dflt (refine' sub_at (by k_asm) (by k_mem) (by omega) (by omega) (by with_reducible assumption) ?_ (by with_unfolding_all rfl); k_whole))
    | walk1)
  refine Hold.out ?_
  refine wpAny_For ?_
  repeat' (first
    | (k_here; (with_reducible show wpAny _ _ (subscriptTail _ _ (Value.ref _) (Value.int _ _)) _ _ _); k_dflt (refine' sub_at (by k_asm) (by k_mem) (by omega) (by omega) (by with_reducible assumption) ?_ (by with_unfolding_all rfl); k_whole))
    | walk1)
  rename IsRange _ _ _ _ _ _ _ _ => hRg
  have hSw : StrsAre vw (way up x) := by assumption
  rename Fr _ _ _ _ => F3
  rename News _ _ _ _ => N3
  have hsm : Builtin.Range.small 1 ((way up x).length : Int) 1 = true := small_one (by omega) (by omega) (by omega) (by omega)
  have hrs : Builtin.Range.rangeSize 1 ((way up x).length : Int) 1 = (((way up x).length - 1 : Nat) : Int) := by rw [rangeSize_one]; split <;> omega
  have hst0 : lnearF held ((way up x).getD 0 (Str.ofString "")) ((way up x).drop 1) = lnear up held x := by
    unfold lnear
    cases hq : way up x with
    | nil => rw [hq] at wl2; simp at wl2
    | cons a r => rfl
  refine for_range rfl hRg hsm hrs (fun i h => ∃ m, Fr g L h m ∧ News g L h [(fl, listO vw nw), (U, oU), (H, oH)] ∧ m (Str.ofString "held") = some (.ref H) ∧ m (Str.ofString "way") = some (.ref fl) ∧
    lnearF held ((way up x).getD i (Str.ofString "")) ((way up x).drop (i + 1)) = lnear up held x) ?_ ?_ ?_ ?_
  · intro it _
    exact ⟨_, F3.push it, News.pushed N3 it, rfl, rfl, hst0⟩
  · intro i h h' hInv off
    refine Exists.elim hInv fun m hQ => an5 hQ fun F N q1 q2 q3 => ?_
    clear hQ hInv
    obtain ⟨F', N'⟩ := stable_up F N off F3 (fun a ha => by rw [List.mem_singleton.mp ha]; exact Nat.le_refl _) (fun a ha => News.lt_top N3 a ha)
    exact ⟨m, F', N', q1, q2, q3⟩
  · intro i tv h tk it hi hic hit hInv
    refine Exists.elim hInv fun m hQ => an5 hQ fun F N q1 q2 q3 => ?_
    clear hQ hInv
    obtain ⟨tp, hxp⟩ := get_strs hSw (i := i) (by omega)
    obtain ⟨ty, hxi⟩ := get_strs hSw (i := i + 1) (by omega)
    have e1 : ((1 : Int) + (i : Nat)).toNat = i + 1 := by omega
    have e2 : ((1 : Int) + (i : Nat) - 1).toNat = i := by omega
    rw [← e1] at hxi
    rw [← e2] at hxp
    have hIL := F3.ns.lt
    have hIg := none_above F3 (Nat.le_refl _)
    have hdr : (way up x).drop (i + 1) = (way up x).getD (i + 1) (Str.ofString "") :: (way up x).drop (i + 2) := by
      rw [List.drop_eq_getElem_cons (by omega)]
      simp [List.getD, List.getElem?_eq_getElem (show i + 1 < (way up x).length by omega)]
    rw [hdr] at q3
    rw [e1] at hxi
    rw [e2] at hxp
    generalize (way up x).getD i (Str.ofString "") = p at *
    generalize (way up x).getD (i + 1) (Str.ofString "") = y at *
    rw [← e1] at hxi
    rw [← e2] at hxp
    have N6 : News g L h [(fl, listO vw nw), (U, oU), (H, oH), (_, it)] := fun p hp => by
      rcases List.mem_append.mp (show p ∈ [(fl, listO vw nw), (U, oU), (H, oH)] ++ [(_, it)] from hp) with hp | hp
      · exact N p hp
      · rw [List.mem_singleton.mp hp]; exact ⟨hit, Nat.ne_of_gt hIL, hIg⟩
    clear N
    cases hya : asc held y with
    | some v =>
      have hya' : Spec.lookup (PyData.str y) (encI held) = some (.int v) := by rw [lookup_encI, hya]; rfl
      have hw' : lnearF held p (y :: (way up x).drop (i + 2)) = (v, p) := by
        show (match asc held y with | some v => (v, p) | none => _) = _
        rw [hya]
      rw [← q3, hw'] at ret
      repeat' (first
        | (k_here; (with_reducible show wpAny _ _ (subscriptTail _ _ (Value.ref _) (Value.int _ _)) _ _ _); k_dflt (refine' sub_at (by k_asm) (by k_mem) (by omega) (by omega) (by with_reducible assumption) ?_ (by with_unfolding_all rfl); k_whole))
        | walk1)
      rotate_left
      · exfalso; rename (Option.isSome _) = false => w1; rw [hya'] at w1; cases w1
      rename Fr _ _ _ _ => F9
      rename News _ _ _ _ => N9
      rename @LT.lt Nat _ _ _ ∧ _ => l5
      have hfr : s.heap.get? _ = none := fresh _ (fun q => by
        simp only [List.map_cons, List.map_nil, List.mem_cons, List.not_mem_nil, or_false] at q
        rcases q with e | e <;> exact absurd e (Nat.ne_of_gt (by first | exact l5.2.1 | exact l5.2.2.1 | exact l5.2.2))) (N9 _ (.head _)).2.2
      have N10 := Mine.News.subs N9 (l' := [(U, oU), (H, oH)]) (fun p hp => by
        rcases List.mem_cons.mp hp with rfl | hp
        · exact .tail _ (.tail _ (.head _))
        · rw [List.mem_singleton.mp hp]; exact .tail _ (.tail _ (.tail _ (.head _))))
      exact ret _ _ _ 0 _ _ (fun p hp => (List.mem_cons.mp hp).elim (fun e => e ▸ ⟨(N9 _ (.head _)).1, (Has.older (Has.of_news N9) kg _ (.head _)).2⟩) (fun hp => Has.older (Has.of_news N10) kg p hp)) hfr (off_nil (fin _ _ _ F9 N10).1 (fun p hp => (hh p hp).1) (fun p hp => (N10 p hp).1))
    | none =>
      have hya' : Spec.lookup (PyData.str y) (encI held) = none := by rw [lookup_encI, hya]; rfl
      have hw' : lnearF held p (y :: (way up x).drop (i + 2)) = lnearF held y ((way up x).drop (i + 2)) := by
        show (match asc held y with | some v => (v, p) | none => _) = _
        rw [hya]
      rw [hw'] at q3
      repeat' (first
        | (k_here; (with_reducible show wpAny _ _ (subscriptTail _ _ (Value.ref _) (Value.int _ _)) _ _ _); k_dflt (refine' sub_at (by k_asm) (by k_mem) (by omega) (by omega) (by with_reducible assumption) ?_ (by with_unfolding_all rfl); k_whole))
        | walk1)
      · exfalso; rename (Option.isSome _) = true => w1; rw [hya'] at w1; cases w1
      · rename Fr _ _ _ _ => F9
        rename News _ _ _ _ => N9
        exact Hold.out ⟨_, _, rfl, (N9 (_, it) (by k_mem)).1, _, F9, Mine.News.subs N9 (fun p hp => List.mem_append_left [(_, it)] hp), q1, q2, q3⟩
  · intro h tk hInv
    refine Exists.elim hInv fun m hQ => an5 hQ fun F N q1 q2 q3 => ?_
    clear hQ hInv
    rcases List.eq_nil_or_concat (way up x) with hre | ⟨pre, z, hre⟩
    · rw [hre] at wl2; simp at wl2
    · rw [List.concat_eq_append] at hre
      rw [hre] at hSw
      obtain ⟨vp, tz, rfl, hSp⟩ := strs_concat hSw
      have hw' : lnearF held ((way up x).getD ((way up x).length - 1) (Str.ofString "")) ((way up x).drop ((way up x).length - 1 + 1)) = (0, z) := by
        rw [hre]
        simp [List.getD, lnearF]
      rw [← q3, hw'] at ret
      repeat' (first
        | (k_here; (with_reducible show wpAny _ _ (subscriptTail _ _ (Value.ref _) (Value.int _ _)) _ _ _); k_dflt (refine' sub_at (by k_asm) (by k_mem) (by omega) (by omega) (by with_reducible assumption) ?_ (by with_unfolding_all rfl); k_whole))
        | walk1)
      rename Fr _ _ _ _ => F9
      rename News _ _ _ _ => N9
      rename @LT.lt Nat _ _ _ ∧ _ => l5
      have hfr : s.heap.get? _ = none := fresh _ (fun q => by
        simp only [List.map_cons, List.map_nil, List.mem_cons, List.not_mem_nil, or_false] at q
        rcases q with e | e <;> exact absurd e (Nat.ne_of_gt (by first | exact l5.2.1 | exact l5.2.2.1 | exact l5.2.2))) (N9 _ (.head _)).2.2
      have N10 := Mine.News.subs N9 (l' := [(U, oU), (H, oH)]) (fun p hp => by
        rcases List.mem_cons.mp hp with rfl | hp
        · exact .tail _ (.tail _ (.head _))
        · rw [List.mem_singleton.mp hp]; exact .tail _ (.tail _ (.tail _ (.head _))))
      exact ret _ _ _ 0 _ _ (fun p hp => (List.mem_cons.mp hp).elim (fun e => e ▸ ⟨(N9 _ (.head _)).1, (Has.older (Has.of_news N9) kg _ (.head _)).2⟩) (fun hp => Has.older (Has.of_news N10) kg p hp)) hfr (off_nil (fin _ _ _ F9 N10).1 (fun p hp => (hh p hp).1) (fun p hp => (N10 p hp).1))

theorem keys_not_list : typeLookup (.type "list") "keys" = pure none := by rw [typeLookup_type, builtinLookup_eq_fast]; kernel_rfl
theorem attr_keys_list {prog : Program} {w : World} {A : Around} {E : Value → Shared → Prop} {s : Shared} {a : Addr} {o : Obj} {xs : Array Value} {k : Nat} {Q : Option Value → Shared → Prop}
    (hx : s.heap.get? a = some o) (hc : o.cls = .type "list") (hdat : o.data = .seq xs k) (hd : o.dict = none) (hA : A.handled = none)
    (h : ∀ h' tk, (∀ b o, s.heap.get? b = some o → h'.get? b = some o) → Q none { s with heap := h', toks := tk }) :
    wpAny (model prog w) A (getAttr? (.ref a) "keys") Q E s := by
  obtain ⟨c, dct, dat, sl⟩ := o
  simp only at hc hdat hd
  subst hc hdat hd
  obtain ⟨hp, g, d, tk, os⟩ := s
  have hT : ∀ tk', (⟨hp, g, d, tk', os⟩ : Shared).TypeIs (.ref a) "list" := fun _ => ⟨_, hx, rfl⟩
  have f1 := sub_AttributeError
  have f3 := F.slot_list_getattribute.lookup
  have f4 := F.slot_list_getattribute.bind (.ref a)
  have f5 := am_list_getattr_none
  unfold getAttr? getAttrBy? getAttrBy
  repeat (any_goals (first | assumption | exact hT _ | ((with_reducible show wpAny _ _ (call (Value.builtin "list.__getattribute__") _ _) _ _ _); refine call_meets F.slot_list_getattribute (hT _) am_entry_list_getattribute (F.args_list_getattribute_2 _ _) (meets_getattribute_miss_list a xs k sl "keys" _ keys_not_list (by decide) (by rw [sizeLine_eq]; decide)) ⟨hx, hA, fun h' tk' e hx' => ?_⟩) | wp_step))
  obtain ⟨t', u', he⟩ := hx'.there
  show wpAny _ _ (getattributeRaised _ _ _ _ _ _ _) _ _ _
  unfold getattributeRaised
  repeat (any_goals (first | assumption | wp_step))
  exact h _ _ hx'.of.keeps

theorem plain_update_loop : plainId "dict.update.loop" = true := by decide +kernel
theorem entry_update_loop : entryFor table "dict.update.loop" = some Builtin.«dict.update.loop» := entryFor_of_tree (by kernel_rfl)
section
variable {prog : Program} {w : World} {K : Type} [DecidableEq K] {knd : KeyKind prog w K} {A : Around} {E : Value → Shared → Prop} {s : Shared}
/-- a pair as a tuple object -/
def TupAt (knd : KeyKind prog w K) (h : Heap) (v : Value) (p : K × Value) : Prop :=
  ∃ T key n, v = .ref T ∧ knd.is p.1 key = true ∧ h.get? T = some { cls := .type "tuple", data := .seq #[key, p.2] n }
theorem TupAt.keep {h h' : Heap} {v : Value} {p : K × Value} (x : TupAt knd h v p) (k : ∀ b o, h.get? b = some o → o.cls = .type "tuple" → h'.get? b = some o) : TupAt knd h' v p :=
  let ⟨T, key, n, e, a, b⟩ := x; ⟨T, key, n, e, a, k _ _ b rfl⟩

theorem cls_ne {h : Heap} {a b : Addr} {oa ob : Obj} {x y : String} (ea : h.get? a = some oa) (eb : h.get? b = some ob) (ca : oa.cls = .type x) (cb : ob.cls = .type y) (n : x ≠ y) : a ≠ b := by
  rintro rfl
  rw [ea] at eb
  cases eb
  rw [ca] at cb
  injection cb with q
  exact n q
theorem update_loop {R : Result → Shared → Prop} {l I d : Addr} {its : Array Value} {kvs : List (K × Value)} (res : Value) (hh : A.in1.handled = none) (hdI : d ≠ I) (hlI : l ≠ I) (hlen : its.size = kvs.length) (hsz : kvs.length ≤ sizeLine) :
    ∀ (k i : Nat) (s : Shared), kvs.length - i = k → i ≤ kvs.length → s.heap.IsListIter I l i → s.heap.IsList l its → s.heap.DictOf knd d (merged [] (kvs.take i)) →
    (∀ (j : Nat) v p, its[j]? = some v → kvs[j]? = some p → TupAt knd s.heap v p) →
    (∀ h' tk, (∀ b o, b ≠ d → b ≠ I → s.heap.get? b = some o → h'.get? b = some o) → h'.DictOf knd d (merged [] kvs) → R (.ok (.ret res)) { s with heap := h', toks := tk }) →
    codeAny (model prog w) A (.builtin "dict.update.loop" ⟨[.ref d, .ref I, rawInt (i : Int), res], []⟩) R s := by
  intro k
  induction k with
  | zero =>
    intro i s hk hi hit hl hd ht hR
    have hin : i = kvs.length := by omega
    subst hin
    refine codeAny_builtin entry_update_loop ?_
    rw [Around.under_plainId plain_update_loop _]
    show wpAny _ A.in1 (pyNext (.ref I) >>= _) _ _ s
    refine wpAny_bind (wpAny_pyNext_list_end hh hit hl (by simp [hlen]) fun h' hs' => ?_)
    show wpAny _ _ (Builtin.Dict.addKeywords d [] >>= _) _ _ _
    rw [List.take_length] at hd
    refine wpAny_bind (wpAny_pure (wpAny_pure (hR h' s.toks (fun b o _ hb e => hs' b o hb e) (hd.extBut hs' hdI))))
  | succ k ih =>
    intro i s hk hi hit hl hd ht hR
    have hlt : i < kvs.length := by omega
    obtain ⟨p, hp⟩ : ∃ p, kvs[i]? = some p := ⟨kvs[i], by simp [hlt]⟩
    obtain ⟨v, hv⟩ : ∃ v, its[i]? = some v := ⟨its[i], by simp [hlen, hlt]⟩
    refine codeAny_builtin entry_update_loop ?_
    rw [Around.under_plainId plain_update_loop _]
    show wpAny _ A.in1 (pyNext (.ref I) >>= _) _ _ s
    refine wpAny_bind (wpAny_pyNext_list_item hit hl hv fun h₁ hit₁ hs₁ => ?_)
    obtain ⟨T, key, n, rfl, hkey, hT⟩ := ht i v p hv hp
    have hTI : T ≠ I := by obtain ⟨o, ho, hc, _⟩ := hit; exact cls_ne hT ho rfl hc (by decide)
    have hT₁ : h₁.get? T = some { cls := .type "tuple", data := .seq #[key, p.2] n } := (hs₁.2 _ hTI).trans hT
    show wpAny _ _ (holding [Value.ref T] _ >>= _) _ _ _
    refine wpAny_bind (wpAny_holding (wpAny_bind (wpAny_tryCatch ?_)))
    have hty : Shared.TypeIs { s with heap := h₁ } (.ref T) "tuple" := ⟨_, hT₁, rfl⟩
    unfold Builtin.Dict.pairItems
    refine wpAny_bind (wpAny_typeOf hty ?_)
    rw [if_pos (by decide)]
    refine wpAny_bind (wpAny_seqItems hT₁ rfl (wpAny_pure ?_))
    show wpAny _ _ (holding [key, p.2] (dictSet d key p.2)) _ _ _
    have hd₁ : h₁.DictOf knd d (merged [] (kvs.take i)) := hd.sameBut hs₁ hdI
    refine wpAny_holding (wpAny_dictSet_pairs hkey hd₁ (fun h₂ hd₂ hs₂ => ?_) ?_)
    · rw [← merged_take_succ _ _ _ _ hp] at hd₂
      have keep : ∀ b o, b ≠ d → b ≠ I → s.heap.get? b = some o → h₂.get? b = some o := fun b o hbd hbI e => (hs₂.2 b hbd).trans ((hs₁.2 b hbI).trans e)
      have hdt : ∀ b o, s.heap.get? b = some o → o.cls = .type "tuple" → b ≠ d ∧ b ≠ I := fun b o e hc => by
        refine ⟨?_, ?_⟩
        · obtain ⟨o', _, _, ho, hc', _⟩ := hd
          exact cls_ne e ho hc hc'.1 (by decide)
        · obtain ⟨o', ho, hc', _⟩ := hit
          exact cls_ne e ho hc hc' (by decide)
      have hld : l ≠ d := by
        obtain ⟨o', _, _, ho, hc', _⟩ := hd
        obtain ⟨o'', e, hc, _⟩ := hl
        exact cls_ne e ho hc hc'.1 (by decide)
      refine wpAny_pure ⟨plainId_quiet plain_update_loop _, ?_⟩
      have e1 : rawInt ((i : Int) + 1) = rawInt (((i + 1 : Nat) : Int)) := by congr 1
      show codeAny _ _ (.builtin "dict.update.loop" ⟨[.ref d, .ref I, rawInt ((i : Int) + 1), res], []⟩) _ _
      rw [e1]
      refine ih (i + 1) _ (by omega) hlt (hit₁.extBut hs₂.extBut (Ne.symm hdI)) ?_ hd₂ ?_ ?_
      · exact hl.at fun o e => (hs₂.2 _ hld).trans ((hs₁.2 _ hlI).trans e)
      · intro j v p hv hp
        refine (ht j v p hv hp).keep fun b o e hc => ?_
        exact keep b o (hdt b o e hc).1 (hdt b o e hc).2 e
      · intro h' tk kp hd'
        exact hR h' tk (fun b o hbd hbI e => kp b o hbd hbI (keep b o hbd hbI e)) hd'
    · have := merged_length_le (K := K) [] (kvs.take i)
      have e2 : (kvs.take i).length ≤ kvs.length := by rw [List.length_take]; omega
      simp only [List.length_nil, Nat.zero_add] at this
      exact Nat.le_trans this (Nat.le_trans e2 hsz)

theorem dict_of_pairs {l : Addr} {lo : Obj} {its : Array Value} {kvs : List (K × Value)} {n : Nat} {Q : Value → Shared → Prop} (hh : A.in1.in1.handled = none) (hl : s.heap.get? l = some lo) (hc : lo.cls = .type "list") (hdd : lo.dict = none) (hd : lo.data = .seq its n) (hlen : its.size = kvs.length) (hsz : kvs.length ≤ sizeLine)
    (ht : ∀ (j : Nat) v p, its[j]? = some v → kvs[j]? = some p → TupAt knd s.heap v p)
    (h : ∀ h' tk o, (∀ b o, s.heap.get? b = some o → h'.get? b = some o) → h'.get? s.heap.objs.size = some o → o.IsDictOf knd (merged [] kvs) → Q (.ref s.heap.objs.size) { s with heap := h', toks := tk }) :
    wpAny (model prog w) A (call (.type "dict") [.ref l]) Q E s := by
  refine callType_codes (Q₁ := fun obj s₁ => obj = .ref s.heap.objs.size ∧ s₁ = { s with heap := s.heap.push { cls := .type "dict", data := .dict #[] } }) PySem.F.kt_called_dict (PySem.F.kt_typeCall_dict_1 _) PySem.F.entry_dict_init (kt_code_dict_new _ ⟨rfl, rfl⟩) ?_
  rintro obj s₁ ⟨rfl, rfl⟩
  have hnew : (s.heap.push { cls := .type "dict", data := .dict #[] }).DictOf knd s.heap.objs.size [] := Heap.DictOf.new s.heap
  have hl₁ : (s.heap.push { cls := .type "dict", data := .dict #[] }).get? l = some lo := Heap.get?_push_of_some _ hl
  have hil : (s.heap.push { cls := .type "dict", data := .dict #[] }).IsList l its := ⟨lo, hl₁, hc, n, hd⟩
  have hdl : s.heap.objs.size ≠ l := fun e => absurd (Heap.lt_size hl) (by rw [e]; exact Nat.lt_irrefl _)
  refine ⟨hnew.typeIs, F.args_dict_init_2 _ _, ?_⟩
  unfold Builtin.«dict.__init__»
  refine wpAny_bind ?_
  unfold Builtin.Dict.selfAndRest
  refine wpAny_bind (wpAny_notOrdered_dict hnew.typeIs ?_)
  show wpAny _ _ (pure (s.heap.objs.size, [Value.ref l])) _ _ _
  refine wpAny_pure ?_
  show wpAny _ _ (Builtin.Dict.updateFrom "dict.__init__" s.heap.objs.size (.ref l) [] .none) _ _ _
  unfold Builtin.Dict.updateFrom
  refine wpAny_bind (wpAny_typeOf hil.typeIs ?_)
  rw [if_pos (by decide)]
  refine wpAny_bind (attr_keys_list hl₁ hc hd hdd hh fun h₂ tk₂ k₂ => ?_)
  rw [if_pos (by rfl)]
  refine wpAny_bind (wpAny_rule ?_)
  have hil₂ : h₂.IsList l its := hil.at fun o e => k₂ _ o e
  refine wpAny_bind (wpAny_pyIter_list hil₂ ?_)
  have hd₂ : h₂.DictOf knd s.heap.objs.size [] := by obtain ⟨o, es, ep, ho, r⟩ := hnew; exact ⟨o, es, ep, k₂ _ _ ho, r⟩
  have hlt : s.heap.objs.size < h₂.objs.size := by obtain ⟨o, _, _, ho, _⟩ := hd₂; exact Heap.lt_size ho
  have hll : l < h₂.objs.size := by obtain ⟨o, ho, _⟩ := hil₂; exact Heap.lt_size ho
  refine wpAny_pure ⟨plainId_quiet plain_update_loop _, ?_⟩
  refine update_loop (knd := knd) (kvs := kvs) _ hh (Nat.ne_of_lt hlt) (Nat.ne_of_lt hll) hlen hsz _ 0 _ rfl (Nat.zero_le _) ⟨_, Heap.get?_push_size _ rfl, rfl, rfl⟩ (hil₂.push _) (hd₂.push _) (fun j v p hv hp => (ht j v p hv hp).keep fun b o e _ => Heap.get?_push_of_some _ (k₂ _ _ (Heap.get?_push_of_some _ e))) fun h' tk kp hd' => ?_
  refine ⟨rfl, ?_⟩
  obtain ⟨o, ho, hdo⟩ := Heap.dictOf_iff.mp hd'
  refine h h' tk o (fun b o e => ?_) ho hdo
  have hb := Heap.lt_size e
  exact kp b o (Nat.ne_of_lt hb) (Nat.ne_of_lt (Nat.lt_trans hb hlt)) (Heap.get?_push_of_some _ (k₂ _ _ (Heap.get?_push_of_some _ e)))
end

section
variable {w : World} {A : Around} {s : Shared} {base : Heap}
  {R : Result → Shared → Prop} {name qual : Str} {params : Arguments} {body : List Stmt} {scope : Scope} {dV kV doc pm cdv ct oc : Value} {an od : Option Addr} {osl : Array (Option Value)} {f : Addr} {args : Args} {binds : List (Str × Value)}
/-- entering a def with cells -/
theorem enterC (hid : List (Addr × Obj)) (G : Gr w base) (kp : ∀ b o, base.get? b = some o → s.heap.get? b = some o)
    (hh : ∀ p ∈ hid, s.heap.get? p.1 = some p.2 ∧ base.get? p.1 = none)
    (hroom : A.depth < recursionLimit)
    (ho : (hd.heap_39 w.params).lookup f = some ⟨oc, od, .func (fnOf name qual params body scope dV kV doc pm an cdv ct), osl⟩) (hcd : codeIn (hd.heap_39 w.params) cdv qual = true)
    (hbind : BindsTo s (fnOf name qual params body scope dV kV doc pm an cdv ct) args binds)
    (hkind : ∀ n, ∀ x ∈ binds, scope.names.lookup x.1 = some .local ∨ (scope.names.lookup x.1 = some .cell ∧ ((cellsFrom n scope.names []).lookup x.1).isSome = true))
    (hnd : ((cellsFrom 0 scope.names []).map (·.1)).Nodup)
    (h : ∀ g L' h₁ tk mean mg mb cells, Fr g L' h₁ (bindL (envOfC qual scope L' f cdv).kindOf binds fun _ => none) → News g L' h₁ (cells ++ hid) →
      CellsAre (bindC (envOfC qual scope L' f cdv).kindOf binds fun _ => none) (cellsFrom (L' + 1) scope.names []) cells → (hd.heap_39 w.params).In g → Top VP (looseW VP []) mean mg mb g →
      (∀ h' m' hid', Fr g L' h' m' → News g L' h' hid' → Off (hid.map (·.1)) s.heap h' ∧ (∀ p ∈ hid', h'.get? p.1 = some p.2)) → (∀ b, b ∉ hid.map (·.1) → g.get? b = none → s.heap.get? b = none) → (∀ b o, base.get? b = some o → g.get? b = some o) → (∀ p ∈ hid, p.1 < L') →
      wpAny (model PR w) (A.deeper (envOfC qual scope L' f cdv)) (execs body (envOfC qual scope L' f cdv))
        (fun fl s' => R (.ok (.ret (match fl with | .ret v => v | _ => .none))) s') (fun _ _ => False)
        { s with heap := h₁, toks := tk })
    (hco : scope.isCoroutine = false := by rfl) (hgen : scope.isGenerator = false := by rfl) (hk : scope.kind = .function := by rfl) : codeAny (model PR w) A (.call (.ref f) args) R s := by
  have G' := G.keeps kp
  obtain ⟨mean, mg, mb, T⟩ := G.T
  have st : ∀ b o, base.get? b = some o → (hideAll s.heap (hid.map (·.1))).get? b = some o := fun b o e =>
    hideAll_get _ (kp b o e) fun q => by
      obtain ⟨p, hp, rfl⟩ := List.mem_map.mp q
      rw [(hh p hp).2] at e; cases e
  refine codeAny_call_function hroom (G'.K _ _ ho) rfl hco hgen rfl (codeRec_of G'.K hcd) (hbind _ _ _ _ ?_)
  refine wpAny_newFunctionEnv_cells hk (hkind _) fun env' he s' x => ?_
  subst he
  refine ⟨(T.nolimit.keeps kp).keeps x.toInCall.keep, codeAny_func ?_⟩
  obtain ⟨h₁, tk, rfl, _⟩ := x.done
  have hk₁ := x.toInCall.keep
  obtain ⟨cells, NC, Y⟩ := Cl.news (h₀ := s.heap) (Nat.le_refl _) fun n c hm => ⟨x.cell n c (lookup_of_mem_nodup (cellsFrom_names scope.names 0 (s.heap.objs.size + 1) [] [] rfl ▸ hnd) hm), x.above n c hm⟩
  refine wpAny_mono (h (hideAll s.heap (hid.map (·.1))) s.heap.objs.size h₁ tk mean mg mb cells
    ⟨x.toInCall.ns, fun b o e => hk₁ b o (of_hideAll _ e), Nat.le_of_eq (hideAll_size _ _)⟩
    (fun p hp => ?_) Y (G.K.keeps st) (T.keeps st) ?_ ?_ st (fun p hp => Heap.lt_size (hh p hp).1)) (fun fl s' hl => hl) (fun _ _ y => y.elim)
  · rcases List.mem_append.mp hp with hp | hp
    · refine ⟨(NC p hp).1, (NC p hp).2.1, ?_⟩
      cases q : (hideAll s.heap (hid.map (·.1))).get? p.1 with
      | none => rfl
      | some o => have := of_hideAll _ q; rw [(NC p hp).2.2] at this; cases this
    · exact ⟨hk₁ _ _ (hh p hp).1, Nat.ne_of_lt (Heap.lt_size (hh p hp).1), hideAll_none _ (List.mem_map_of_mem hp)⟩
  · intro h' m' hid' F' N'
    exact ⟨fun b o e n => F'.keep b o (hideAll_get _ e n), fun p hp => (N' p hp).1⟩
  · intro b hb hg
    cases q : s.heap.get? b with
    | none => rfl
    | some o => rw [hideAll_get _ q hb] at hg; cases hg
end

section
variable {prog : Program} {w : World} {A : Around} {E : Value → Shared → Prop} {s : Shared} {h₀ : Heap} {L : Addr} {m : Str → Option Value} {env : Env}
/-- one turn of a comprehension -/
def CompTurn (prog : Program) (w : World) (A : Around) (h₀ : Heap) (L : Addr) (m : Str → Option Value) (env : Env) (elt : Expr) (x : Str) (scope : Scope) (cl : List (Str × Addr)) (s : Shared) (l : List (Addr × Obj)) (P : Nat → Value → Prop)
    (J : Nat → List Value → List (Addr × Obj) → Prop) : Prop :=
  ∀ i v I oI C oC D m₂ h tk ys tups (E' : Value → Shared → Prop), P i v → J i ys tups → LCg.NsObj oC m₂ → m₂ x = some v → Fr h₀ L h m → News h₀ L h ((I, oI) :: (C, oC) :: (D, LCg.lst ys) :: (l ++ tups)) →
    LCg.Off3 I C D (l ++ tups) → ((@Ne Nat I C) ∧ (@Ne Nat I D) ∧ (@Ne Nat C D)) →
    wpAny (model prog w) A (eval elt (compEnvC scope cl C env)) (fun y s₂ => Hold (∃ h' tk' tups', s₂ = { s with heap := h', toks := tk' } ∧ Fr h₀ L h' m ∧ News h₀ L h' ((I, oI) :: (C, oC) :: (D, LCg.lst ys) :: (l ++ tups')) ∧
      LCg.Off3 I C D (l ++ tups') ∧ J (i + 1) (ys ++ [y]) tups')) E' { s with heap := h, toks := tk }

theorem comp_rest {elt : Expr} {x : Str} {scope : Scope} {cl : List (Str × Addr)} {S : List (Addr × Obj) → Prop} {P : Nat → Value → Prop} {Fin : List Value → List (Addr × Obj) → Prop} {l : List (Addr × Obj)} {J : Nat → List Value → List (Addr × Obj) → Prop} {n : Nat}
    (hS : ∀ tups, S (l ++ tups)) (step : CompTurn prog w A h₀ L m env elt x scope cl s l P J) (fin : ∀ ys tups, J n ys tups → Fin ys (l ++ tups)) :
    ∀ (k i : Nat) ys tups, k + i = n → J i ys tups → LCg.CompRest prog w A h₀ L m env elt x scope cl s S P Fin k i ys (l ++ tups) := by
  intro k
  induction k with
  | zero =>
    intro i ys tups e j
    have : i = n := by omega
    subst this
    exact LCg.CompRest.zero (fin _ _ j)
  | succ k ih =>
    intro i ys tups e j
    refine LCg.CompRest.succ fun v I oI C oC D m₂ h tk E' hv hC hx F N off ne => ?_
    refine wpAny_mono (step i v I oI C oC D m₂ h tk ys tups E' hv j hC hx F N off ne) (fun y s₂ h₂ => ?_) (fun _ _ e => e)
    obtain ⟨h', tk', tups', rfl, F', N', off', j'⟩ := h₂
    exact ⟨h', tk', _, rfl, F', N', off', hS _, ih (i + 1) _ _ (by omega) j'⟩

theorem Walks.addKeep {I : Addr} {fp wr : List Addr} {n : Nat} {P : Nat → Value → Prop} {St : Nat → Heap → Prop} (W : Walks prog w A I fp wr n P St) {d : Addr} {od : Obj} (hdf : d ∈ fp) (hdw : d ∉ wr) :
    Walks prog w A I fp wr n P (fun i h => St i h ∧ h.get? d = some od) where
  sub := W.sub
  frame := fun i h h' st k => ⟨W.frame i h h' st.1 k, k d hdf _ st.2⟩
  item := fun i s Q E hi st hQ => W.item i s Q E hi st.1 fun v h' tk hP st' k => hQ v h' tk hP ⟨st', k _ _ hdw st.2⟩ k
  done := fun s Q E st hQ => W.done s Q E st.1 hQ
  self := fun i s Q E st hQ => W.self i s Q E st.1 hQ

theorem comp_dict {elt iter : Expr} {x : Str} {px : Pos} {scope : Scope} {cl : List (Str × Addr)} {pos : Pos} {Q : Value → Shared → Prop} {K : Type} [DecidableEq K] {knd : KeyKind prog w K} {kvs : List (K × Value)} {d : Addr} {od : Obj} (F₀ : Fr h₀ L s.heap m) (l : List (Addr × Obj))
    (J : Nat → List Value → List (Addr × Obj) → Prop) (hh : A.handled = none)
    (hlo : (d == sysModules) = false) (hdm : (d, od) ∈ l) (hdo : od.IsDictOf knd kvs) (hsz : kvs.length ≤ sizeLine) (j0 : J 0 [] [])
    (h : wpAny (model prog w) A (eval iter env) (fun xv s₁ => xv = .ref d ∧ Fr h₀ L s₁.heap m ∧ News h₀ L s₁.heap l ∧
      (∀ g, CompTurn prog w A h₀ L m env elt x scope cl { s₁ with heap := g } l (fun i v => ∃ k y, kvs[i]? = some (k, y) ∧ knd.is k v = true) J) ∧
      (∀ D h tk ys tups, Fr h₀ L h m → News h₀ L h ((D, LCg.lst ys) :: (l ++ tups)) → LCg.Off1 D (l ++ tups) → J kvs.length ys tups → Q (.ref D) { s₁ with heap := h, toks := tk })) E s)
    (hclos : closureFor scope env = pure cl) (hcell : ∀ y ∈ scope.names, y.2 ≠ .cell) (hkind : scope.kind = .function)
    (hnames : ∀ y ∈ scope.names, y.2 = .local → scope.names.lookup y.1 = some .local) (hx : scope.names.lookup x = some .local)
    (hs : ∀ x, foldedSetIterable iter env x = pure x := by intro _; rfl) :
    wpAny (model prog w) A (eval (.ListComp elt [⟨.Name x px, iter, [], 0⟩] scope pos) env) Q E s := by
  rw [eval_ListComp]
  refine wpAny_comprehension_free (use := none) rfl hs hclos hkind hnames (wpAny_mono h (fun xv s₁ h₁ => ?_) fun _ _ e => e)
  obtain ⟨rfl, F, N, step, fin⟩ := h₁
  have hd := (N _ hdm).1
  obtain ⟨ep, hat⟩ : ∃ ep, s₁.heap.DictAt knd d kvs ep := by
    obtain ⟨o, es, ep, ho, r⟩ := Heap.dictOf_iff.mpr ⟨od, hd, hdo⟩
    exact ⟨ep, o, es, ho, r⟩
  have hlt : d < s₁.heap.objs.size := Heap.lt_size hd
  refine wpAny_pyIter_dict hlo hat ?_
  have up : ∀ b o (x : Obj), s₁.heap.get? b = some o → (s₁.heap.push x).get? b = some o := fun b o _ e => Heap.get?_push_of_some _ e
  refine LCg.block_U (S := fun nw => ∃ tups, nw = l ++ tups) (Fin := fun ys news => ∃ tups, news = l ++ tups ∧ J kvs.length ys tups) (Walks.addKeep (Walks.dictKeys (knd := knd) hh s₁.heap.objs.size d (Nat.ne_of_lt hlt) kvs ep) (od := od) (by simp) (by simp; exact Nat.ne_of_lt hlt)) hsz (fun i h st => by obtain ⟨o, e, _⟩ := st.1.1; exact ⟨o, e⟩) ?_ hcell hkind hx
    ⟨⟨⟨_, Heap.get?_push_size _ rfl, rfl, rfl⟩, hat.push _⟩, up _ _ _ hd⟩ (fun b hb => ?_)
    (F.keeps (up · · _)) (N.grown (up · · _)) (Nat.ne_of_lt F.ns.lt) (next_is_new F) (fun p hp => Nat.ne_of_lt (Heap.lt_size (N p hp).1)) ⟨[], by simp⟩ ?_ ?_
  · intro i h h' o nw st e e' k N' hS
    obtain ⟨tups, rfl⟩ := hS
    have hd' := (N' _ (List.mem_append_left _ hdm)).1
    refine ⟨⟨?_, ?_⟩, hd'⟩
    · obtain ⟨o', q, r⟩ := st.1.1; rw [e] at q; cases q; exact ⟨o, e', r⟩
    · exact st.1.2.at' fun o'' e'' => by rw [st.2] at e''; cases e''; exact hd'
  · show b < (s₁.heap.push _).objs.size
    rw [Heap.size_push]
    rcases List.mem_cons.mp hb with rfl | hb
    · exact Nat.lt_succ_self _
    · rw [List.mem_singleton.mp hb]; exact Nat.lt_succ_of_lt hlt
  · have := comp_rest (S := fun nw => ∃ tups, nw = l ++ tups) (Fin := fun ys news => ∃ tups, news = l ++ tups ∧ J kvs.length ys tups) (n := kvs.length) (fun tups => ⟨tups, rfl⟩) (step (s₁.heap.push { cls := .type "dict_keyiterator", data := .fields #[.ref d, .int 0 0, .int kvs.length 0, .int ep 0] })) (fun ys tups j => ⟨tups, rfl, j⟩) kvs.length 0 [] [] rfl j0
    rw [List.append_nil] at this
    exact this
  · intro D C h' tk m' ys news' F' N' o1 hn hC₀ hD₀ hCL hDL hCD offC hfin
    obtain ⟨tups, rfl, j⟩ := hfin
    refine ⟨m', hn, fun h'' hs'' => fin D h'' tk ys tups (F'.change hs'' hCL hC₀) (fun p hp => ?_) o1 j⟩
    refine ⟨hs''.extBut _ _ ?_ (N' p hp).1, (N' p hp).2⟩
    rcases List.mem_cons.mp hp with rfl | hp
    · exact Ne.symm hCD
    · exact offC p hp
end

/-- the name at a place, the empty one at none -/
def Fam.nameAt (st : Fam) (p : Int) : Str := if p < 0 then Str.ofString "" else st.nm.getD p.toNat (Str.ofString "")
/-- the parents' table -/
def Fam.par (st : Fam) : Up := st.nm.zipIdx.map fun p => (p.1, st.nameAt (st.ps.getD p.2 0))
/-- names by place -/
def byPlace (nm : List Str) : List (PyData × PyData) := nm.zipIdx.map fun p => (.int (p.2 : Int), .str p.1)
theorem Fam.par_length (st : Fam) : st.par.length = st.nm.length := by simp [Fam.par]
theorem byPlace_at (nm : List Str) (i : Nat) : (byPlace nm)[i]? = (nm[i]?).map fun x => (.int (i : Int), .str x) := by
  simp only [byPlace, List.getElem?_map, List.getElem?_zipIdx]
  cases nm[i]? <;> simp
theorem par_at (st : Fam) (i : Nat) : (encS st.par)[i]? = (st.nm[i]?).map fun x => (.str x, .str (st.nameAt (st.ps.getD i 0))) := by
  simp only [encS_map, Fam.par, List.map_map, List.getElem?_map, List.getElem?_zipIdx]
  cases st.nm[i]? <;> simp
theorem plc_at (nm : List Str) (i : Nat) : (encI (plc nm))[i]? = (nm[i]?).map fun x => (.str x, .int (i : Int)) := by
  simp only [encI_map, plc, List.map_map, List.getElem?_map, List.getElem?_zipIdx]
  cases nm[i]? <;> simp
theorem lookup_byPlace (nm : List Str) (more : List (PyData × PyData)) (p : Nat) (h : p < nm.length) : Spec.lookup (.int (p : Int)) (byPlace nm ++ more) = some (.str (nm.getD p (Str.ofString ""))) := by
  have key : ∀ (l : List Str) (k : Nat), p < k + l.length → k ≤ p → Spec.lookup (.int (p : Int)) ((l.zipIdx k).map (fun q => (PyData.int (q.2 : Int), PyData.str q.1)) ++ more) = some (.str (l.getD (p - k) (Str.ofString ""))) := by
    intro l
    induction l with
    | nil => intro k h1 h2; simp at h1; omega
    | cons x r ih =>
      intro k h1 h2
      simp only [List.zipIdx_cons, List.map_cons, List.cons_append, Spec.lookup, PyProof.V.same_int]
      by_cases e : k = p
      · subst e; simp
      · have e' : ¬ ((k : Nat) : Int) = (p : Int) := by omega
        simp only [e', decide_false, Bool.false_eq_true, if_false]
        rw [ih (k + 1) (by simp only [List.length_cons] at h1; omega) (by omega)]
        have : p - k = (p - (k + 1)) + 1 := by omega
        rw [this]; simp
  have := key nm 0 (by omega) (by omega)
  simpa [byPlace] using this
theorem lookup_none (nm : List Str) (v : PyData) : Spec.lookup (.int (-1)) (byPlace nm ++ [(.int (-1), v)]) = some v := by
  have key : ∀ (l : List Str) (k : Nat), Spec.lookup (.int (-1)) ((l.zipIdx k).map (fun q => (PyData.int (q.2 : Int), PyData.str q.1)) ++ [(.int (-1), v)]) = some v := by
    intro l
    induction l with
    | nil => intro k; simp [Spec.lookup, PyProof.V.same_int]
    | cons x r ih =>
      intro k
      simp only [List.zipIdx_cons, List.map_cons, List.cons_append, Spec.lookup, PyProof.V.same_int]
      have e' : ¬ ((k : Nat) : Int) = -1 := by omega
      simp only [e', decide_false, Bool.false_eq_true, if_false]
      exact ih (k + 1)
  exact key nm 0
theorem put_byPlace (nm : List Str) (v : PyData) : putD (.int (-1)) v (byPlace nm) = byPlace nm ++ [(.int (-1), v)] := by
  unfold putD
  have : (byPlace nm).any (fun p => same p.1 (.int (-1))) = false := by
    rw [List.any_eq_false]
    intro p hp
    simp only [byPlace, List.mem_map] at hp
    obtain ⟨q, _, rfl⟩ := hp
    simp only [PyProof.V.same_int]
    have e' : ¬ ((q.2 : Nat) : Int) = -1 := by omega
    simp [e']
  rw [this]; rfl

section
variable {w : World} {K : Type} [DecidableEq K] {knd : KeyKind PR w K} {enc : K → PyData}
/-- the pairs made so far -/
def PairsJ (knd : KeyKind PR w K) (enc : K → PyData) (D : List (PyData × PyData)) (i : Nat) (ys : List Value) (tups : List (Addr × Obj)) : Prop :=
  ∃ kvs : List (K × Value), kvs.length = i ∧ ys.length = i ∧ FlatPairs enc kvs (D.take i) ∧
    ∀ (j : Nat) v p, ys[j]? = some v → kvs[j]? = some p → ∃ T key n, v = .ref T ∧ knd.is p.1 key = true ∧ (T, ({ cls := .type "tuple", data := .seq #[key, p.2] n } : Obj)) ∈ tups
theorem PairsJ.nil (D : List (PyData × PyData)) : PairsJ knd enc D 0 [] [] := ⟨[], rfl, rfl, .nil, fun j v p h => by simp at h⟩
theorem PairsJ.snoc {D : List (PyData × PyData)} {i : Nat} {ys : List Value} {tups : List (Addr × Obj)} (x : PairsJ knd enc D i ys tups) {k : K} {key v : Value} {dv : PyData} {T : Addr} {n : Nat} (hD : D[i]? = some (enc k, dv)) (hv : Flat v dv) (hk : knd.is k key = true) :
    PairsJ knd enc D (i + 1) (ys ++ [.ref T]) ((T, { cls := .type "tuple", data := .seq #[key, v] n }) :: tups) := by
  obtain ⟨kvs, h1, h2, hf, ht⟩ := x
  refine ⟨kvs ++ [(k, v)], by simp [h1], by simp [h2], ?_, ?_⟩
  · rw [List.take_add_one, hD]
    exact hf.snoc k hv
  · intro j v' p hj hp
    by_cases e : j < i
    · rw [List.getElem?_append_left (by omega)] at hj hp
      obtain ⟨T', key', n', a, b, c⟩ := ht j v' p hj hp
      exact ⟨T', key', n', a, b, List.mem_cons_of_mem _ c⟩
    · have hjl : j < (ys ++ [Value.ref T]).length := by
        rcases Nat.lt_or_ge j (ys ++ [Value.ref T]).length with q | q
        · exact q
        · rw [List.getElem?_eq_none q] at hj; cases hj
      simp at hjl
      have : j = i := by omega
      subst this
      rw [List.getElem?_append_right (by omega)] at hj hp
      simp [h1, h2] at hj hp
      subst hj hp
      exact ⟨T, key, n, rfl, hk, .head _⟩
theorem PairsJ.tups {h : Heap} {D : List (PyData × PyData)} {i : Nat} {ys : List Value} {tups : List (Addr × Obj)} (x : PairsJ knd enc D i ys tups) (ht : ∀ p ∈ tups, h.get? p.1 = some p.2) (hi : D.length = i) :
    ∃ kvs : List (K × Value), kvs.length = i ∧ ys.length = i ∧ FlatPairs enc kvs D ∧ ∀ (j : Nat) v p, (ys.toArray)[j]? = some v → kvs[j]? = some p → TupAt knd h v p := by
  obtain ⟨kvs, h1, h2, hf, hx⟩ := x
  refine ⟨kvs, h1, h2, by rw [← hi, List.take_length] at hf; exact hf, fun j v p hj hp => ?_⟩
  obtain ⟨T, key, n, rfl, a, b⟩ := hx j v p (by simpa using hj) hp
  exact ⟨T, key, n, rfl, a, ht _ b⟩
theorem FlatPairs.nodup {kvs : List (K × Value)} {D : List (PyData × PyData)} (hf : FlatPairs enc kvs D) (inj : ∀ a b, enc a = enc b → a = b) (hn : (D.map (·.1)).Nodup) : (kvs.map (·.1)).Nodup := by
  have : (kvs.map (·.1)).map enc = D.map (·.1) := by
    induction hf with
    | nil => rfl
    | cons _ _ ih =>
      simp only [List.map_cons, List.nodup_cons] at hn ⊢
      rw [ih hn.2]
  rw [← this] at hn
  exact (List.pairwise_map.mp hn).imp fun h e => h (by rw [e])
end
theorem byPlace_nodup (nm : List Str) : ((byPlace nm).map (·.1)).Nodup := by
  simp only [byPlace, List.map_map]
  have : ((fun x => x.fst) ∘ fun p : Str × Nat => (PyData.int (p.2 : Int), PyData.str p.1)) = (fun n : Nat => PyData.int (n : Int)) ∘ (fun p : Str × Nat => p.2) := rfl
  rw [this, ← List.map_map, show (nm.zipIdx.map fun p => p.2) = List.range' 0 nm.length from by simp]
  refine List.Pairwise.map _ (fun a b h e => ?_) (List.nodup_range')
  injection e with e
  exact h (by omega)
theorem par_nodup (st : Fam) (h : st.nm.Nodup) : ((encS st.par).map (·.1)).Nodup := by
  simp only [encS_map, Fam.par, List.map_map]
  have : ((fun x => x.fst) ∘ (fun p : Str × Str => (PyData.str p.1, PyData.str p.2)) ∘ fun p : Str × Nat => (p.1, st.nameAt (st.ps.getD p.2 0))) = PyData.str ∘ (fun p : Str × Nat => p.1) := rfl
  rw [this, ← List.map_map, show (st.nm.zipIdx.map fun p => p.1) = st.nm from by simp]
  refine List.Pairwise.map _ (fun a b h e => ?_) h
  injection e with e
  exact h e
theorem key_at {w : World} {kvs : List (Str × Value)} {D : List (PyData × PyData)} {i : Nat} {v : Value} (hf : FlatPairs PyData.str kvs D) (h : ∃ k y, kvs[i]? = some (k, y) ∧ (strKind PR w).is k v = true) : ∃ x dv t, D[i]? = some (.str x, dv) ∧ v = .str x t := by
  obtain ⟨k, y, hx, hkey⟩ := h
  obtain ⟨dv, hD, _⟩ := hf.at hx
  obtain ⟨t, rfl⟩ := Value.isStrOf_shape hkey
  exact ⟨k, dv, t, hD, rfl⟩
theorem idx_nodup {nm : List Str} (h : nm.Nodup) {i : Nat} {x : Str} (hx : nm[i]? = some x) : nm.idxOf x = i ∧ nm.contains x = true := by
  obtain ⟨hi, rfl⟩ := List.getElem?_eq_some_iff.mp hx
  exact ⟨h.idxOf_getElem i hi, by simp⟩
theorem lookup_plc_at {nm : List Str} (h : nm.Nodup) {i : Nat} {x : Str} (hx : nm[i]? = some x) : Spec.lookup (.str x) (encI (plc nm)) = some (.int (i : Int)) := by
  obtain ⟨a, b⟩ := idx_nodup h hx
  rw [lookup_encI, asc_plc, if_pos b, a]; rfl
theorem turn_tup {h₀ h' : Heap} {L I C D T : Addr} {m : Str → Option Value} {oI oC oD o : Obj} {l tups : List (Addr × Obj)} {i : Nat} {ys : List Value} {y : Value} {J : Nat → List Value → List (Addr × Obj) → Prop} {s : Shared} {tk : Nat}
    (F : Fr h₀ L h' m) (N : News h₀ L h' ((T, o) :: (I, oI) :: (C, oC) :: (D, oD) :: (l ++ tups))) (off : LCg.Off3 I C D (l ++ tups)) (n1 : I < T) (n2 : C < T) (n3 : D < T) (j : J (i + 1) (ys ++ [y]) ((T, o) :: tups)) :
    Hold (∃ h'' tk' tups', ({ s with heap := h', toks := tk } : Shared) = { s with heap := h'', toks := tk' } ∧ Fr h₀ L h'' m ∧ News h₀ L h'' ((I, oI) :: (C, oC) :: (D, oD) :: (l ++ tups')) ∧
      LCg.Off3 I C D (l ++ tups') ∧ J (i + 1) (ys ++ [y]) tups') := by
  refine ⟨h', tk, (T, o) :: tups, rfl, F, fun p hp => N p ?_, LCg.Off3.of fun p hp => ?_, j⟩
  · simp only [List.mem_cons, List.mem_append] at hp ⊢
    rcases hp with h | h | h | h | h | h <;> simp [h]
  · rcases List.mem_append.mp hp with h | h
    · exact off.mem p (List.mem_append_left _ h)
    · rcases List.mem_cons.mp h with rfl | h
      · exact ⟨Nat.ne_of_gt n1, Nat.ne_of_gt n2, Nat.ne_of_gt n3⟩
      · exact off.mem p (List.mem_append_right _ h)
theorem turn_val {h₀ h' : Heap} {L I C D : Addr} {m : Str → Option Value} {oI oC oD : Obj} {l tups : List (Addr × Obj)} {i : Nat} {ys : List Value} {y : Value} {J : Nat → List Value → List (Addr × Obj) → Prop} {s : Shared} {tk : Nat}
    (F : Fr h₀ L h' m) (N : News h₀ L h' ((I, oI) :: (C, oC) :: (D, oD) :: (l ++ tups))) (off : LCg.Off3 I C D (l ++ tups)) (j : J (i + 1) (ys ++ [y]) tups) :
    Hold (∃ h'' tk' tups', ({ s with heap := h', toks := tk } : Shared) = { s with heap := h'', toks := tk' } ∧ Fr h₀ L h'' m ∧ News h₀ L h'' ((I, oI) :: (C, oC) :: (D, oD) :: (l ++ tups')) ∧
      LCg.Off3 I C D (l ++ tups') ∧ J (i + 1) (ys ++ [y]) tups') := ⟨h', tk, tups, rfl, F, N, off, j⟩
theorem after_push {g h h' : Heap} {L : Addr} {m : Str → Option Value} {led : List (Addr × Obj)} {o : Obj} (F : Fr g L h m) (N : News g L h led) (low : sysModules < g.objs.size) (k : ∀ b o, h.get? b = some o → h'.get? b = some o) (ho : h'.get? h.objs.size = some o) :
    Fr g L h' m ∧ News g L h' ((h.objs.size, o) :: led) ∧ (∀ p ∈ led, p.1 < h.objs.size) ∧ (h.objs.size == sysModules) = false := by
  refine ⟨F.keeps k, fun p hp => ?_, fun p hp => Heap.lt_size (N p hp).1, F.notModules low⟩
  rcases List.mem_cons.mp hp with rfl | hp
  · exact ⟨ho, Ne.symm (Nat.ne_of_lt F.ns.lt), next_is_new F⟩
  · exact ⟨k _ _ (N p hp).1, (N p hp).2⟩
theorem dict_of_pairsN {w : World} {K : Type} [DecidableEq K] {knd : KeyKind PR w K} {enc : K → PyData} {A : Around} {E : Value → Shared → Prop} {s : Shared} {g : Heap} {L l : Addr} {m : Str → Option Value} {led tups : List (Addr × Obj)} {ys : List Value} {D : List (PyData × PyData)} {n : Nat} {Q : Value → Shared → Prop}
    (hh : A.in1.in1.handled = none) (F : Fr g L s.heap m) (N : News g L s.heap ((l, LCg.lst ys) :: (led ++ tups))) (low : sysModules < g.objs.size) (hj : PairsJ knd enc D n ys tups) (hn : D.length = n) (hz : n ≤ sizeLine) (hnd : (D.map (·.1)).Nodup) (inj : ∀ a b, enc a = enc b → a = b)
    (h : ∀ d h' tk o kvs, Fr g L h' m → News g L h' ((d, o) :: led) → (∀ p ∈ led, p.1 < d) → (d == sysModules) = false → o.IsDictOf knd kvs → FlatPairs enc kvs D → Q (.ref d) { s with heap := h', toks := tk }) :
    wpAny (model PR w) A (call (.type "dict") [.ref l]) Q E s := by
  obtain ⟨kvs2, k1, k2, hf2, ht2⟩ := hj.tups (fun p hp => (N p (List.mem_cons_of_mem _ (List.mem_append_right _ hp))).1) hn
  have hm2 : merged [] kvs2 = kvs2 := merged_nil_of_nodup _ (FlatPairs.nodup hf2 inj hnd)
  refine dict_of_pairs (knd := knd) (kvs := kvs2) hh (N _ (.head _)).1 rfl rfl rfl (by rw [k1]; simpa using k2) (by rw [k1]; exact hz) ht2 fun h2 tk2 o2 keep2 ho2 hdo2 => ?_
  rw [hm2] at hdo2
  obtain ⟨F4, N4, lt4, low4⟩ := after_push F (News.subs N (l' := led) (fun p hp => List.mem_cons_of_mem _ (List.mem_append_left _ hp))) low keep2 ho2
  exact h _ _ _ _ _ F4 N4 lt4 low4 hdo2 hf2
theorem lookup_nameAt (st : Fam) {p : Int} (h : -1 ≤ p ∧ p < st.nm.length) : Spec.lookup (.int p) (byPlace st.nm ++ [(.int (-1), .str (Str.ofString ""))]) = some (.str (st.nameAt p)) := by
  unfold Fam.nameAt
  by_cases q : p < 0
  · have : p = -1 := by omega
    subst this
    rw [if_pos q]; exact lookup_none _ _
  · rw [if_neg q]
    have := lookup_byPlace st.nm [(.int (-1), .str (Str.ofString ""))] p.toNat (by omega)
    rw [Int.toNat_of_nonneg (by omega)] at this
    exact this

theorem fillX : (fun (_ : OpenLaw) (_ : Params → Frag) => True) PySem.Challenge.rw_nz0269_01 hd.heap_39 := by
  w_top off
  k_fill
  trivial
set_option maxHeartbeats 4000000
theorem re5 {g h : Heap} {L : Addr} {a b c d e : Addr × Obj} (N : News g L h [a, b, c, d, e]) : News g L h [d, e, c, b, a] := fun p hp => N p (by simp only [List.mem_cons, List.not_mem_nil, or_false] at hp ⊢; rcases hp with h | h | h | h | h <;> simp [h])
theorem init_c {w : World} {dp un : Nat} {fr : Option (List Env)} {gd : Option (List Code)} {s : Shared} {base : Heap} {R : Result → Shared → Prop} {x dx : Addr}
    (G : Gr w base) (kp : ∀ b o, base.get? b = some o → s.heap.get? b = some o) (hh : Has base s.heap [(x, instObj 73 dx), (dx, dictOf [] 0)]) (hne : @Ne Nat x dx)
    (hd : dp + 1 < recursionLimit)
    (ret : ∀ h' tk fa l', fa.fam = x → fa.dx = dx → FamIn w ⟨[], [], []⟩ fa l' → Has base h' l' → (∀ a ∈ fa.mut, s.heap.get? a = none) → Off [dx] s.heap h' → R (.ok (.ret .none)) { s with heap := h', toks := tk }) :
    codeAny (model PR w) (AR dp un fr gd) (.call (.ref 28) ⟨[.ref x], []⟩) R s := by
  refine' enterF _ ?hG ?hkp ?hhh ?hroom ?ho ?hcd ?hbind ?hloc ?hmain ?c1 ?c2 ?c3 ?c4
  (case hG => assumption)
  (case hkp => assumption)
  (case hhh => assumption)
  (case hroom => (show _ < recursionLimit; dsimp only; omega))
  (case ho => k_is)
  (case hcd => k_is)
  (case hbind => exact BindsTo.of_eq rfl)
  (case hloc => exact locs rfl)
  (case c1 => exact rfl)
  (case c2 => exact rfl)
  (case c3 => exact rfl)
  (case c4 => decide)
  k_whole
  intro g L h₁ mean mg mb F N X T fin fresh kg
  try dsimp only
  repeat' (walk1)
  rename_i tk0 d h5 o lo hs fs hi fi l1a h4 l h3 l1b h2 tk2 l' h1 l1c h0 F5 N5
  have hN := re5 N5
  refine ret h0 tk ⟨x, dx, d, l, l'⟩ _ rfl rfl ⟨⟨_, _, _, _, _, _, _, _, _, _, rfl, hs, ?_, .nil, .nil⟩, ?_, lo⟩ ((Has.of_news hN).older kg) ?_ ?_
  · exact fs
  · have := neN hne
    simp only [FA.all, List.nodup_cons, List.mem_cons, List.not_mem_nil, or_false, not_or, not_false_eq_true, List.nodup_nil, and_true]
    refine ⟨⟨hne, Nat.ne_of_lt l1a.1, Nat.ne_of_lt l1b.2.1, Nat.ne_of_lt l1c.2.2.1⟩, ⟨Nat.ne_of_lt l1a.2, Nat.ne_of_lt l1b.2.2, Nat.ne_of_lt l1c.2.2.2⟩, ⟨Nat.ne_of_lt l1b.1, Nat.ne_of_lt l1c.2.1⟩, Nat.ne_of_lt l1c.1⟩
  · intro a ha
    have hid : ∀ a, a ∈ [(x, instObj 73 dx), (dx, dictOf [] 0)].map (·.1) → a = x ∨ a = dx := fun a h => by simpa using h
    simp only [FA.mut, List.mem_cons, List.not_mem_nil, or_false] at ha
    rcases ha with rfl | rfl | rfl
    · exact fresh _ (fun q => (hid _ q).elim (Nat.ne_of_gt l1a.1) (Nat.ne_of_gt l1a.2)) (N5 _ (.tail _ (.tail _ (.head _)))).2.2
    · exact fresh _ (fun q => (hid _ q).elim (Nat.ne_of_gt l1b.2.1) (Nat.ne_of_gt l1b.2.2)) (N5 _ (.tail _ (.head _))).2.2
    · exact fresh _ (fun q => (hid _ q).elim (Nat.ne_of_gt l1c.2.2.1) (Nat.ne_of_gt l1c.2.2.2)) (N5 _ (.head _)).2.2
  · intro b ob e nb
    by_cases q : b = x
    · subst q
      rw [(hh _ (.head _)).1] at e
      cases e
      exact (hN _ (.head _)).1
    · exact (fin _ _ _ F5 hN).1 b ob e (by simp at nb ⊢; exact ⟨q, nb⟩)
theorem new_fam {w : World} {dp un : Nat} {fr : Option (List Env)} {gd : Option (List Code)} {E : Value → Shared → Prop} {s : Shared} {g : Heap} {L : Addr} {m mg mb : Str → Option Value} {mean : ExcName → Option Value} {led : List (Addr × Obj)} {Q : Value → Shared → Prop}
    (X : (hd.heap_39 w.params).In g) (T : Top VP (looseW VP []) mean mg mb g) (F : Fr g L s.heap m) (N : News g L s.heap led) (hd : dp + 2 < recursionLimit)
    (h : ∀ h' tk fa l', FamIn w ⟨[], [], []⟩ fa l' → Fr g L h' m → News g L h' (l' ++ led) → (∀ p ∈ led, ∀ a ∈ fa.all, @Ne Nat p.1 a) → Q (.ref fa.fam) { s with heap := h', toks := tk }) :
    wpAny (model PR w) (AR dp un fr gd) (call (.ref 73) [] []) Q E s := by
  refine' call_cls ?k1 ?k2 ?k3 ?k4 ?k5 ?k6 ?_
  case k1 => exact F
  case k2 => exact X
  case k3 => exact N
  case k4 => k_is
  case k5 => k_is
  case k6 => k_is
  k_whole
  intro x dx h1 F1 N1 lt1 lt2
  refine init_c (base := g) ⟨X, _, _, _, T⟩ F1.keep (fun p hp => ?_) (Nat.ne_of_gt lt2) ?hdep ?_
  case hdep =>
    have e := depth_under_make (A := AR dp un fr gd) (C := 73) (vals := [])
    show ((AR dp un fr gd).under (Code.builtin "type.__call__" { pos := [Value.ref 73] })).depth + 1 < recursionLimit
    rw [e]; exact hd
  · have : p ∈ (x, instObj 73 dx) :: (dx, dictOf [] 0) :: led := by
      simp only [List.mem_cons, List.not_mem_nil, or_false] at hp ⊢
      rcases hp with h | h <;> simp [h]
    exact ⟨(N1 p this).1, (N1 p this).2.2⟩
  intro h2 tk2 fa l' ex edx hf hh2 hm off
  obtain ⟨fam, dx', pl, nu, pa⟩ := fa
  dsimp only at ex edx
  subst ex edx
  have hL : L ≠ dx' := Ne.symm (N1 (dx', _) (.tail _ (.head _))).2.1
  have hx : fam ≠ L := (N1 (fam, _) (.head _)).2.1
  have hfr : ∀ a ∈ [pl, nu, pa], ∀ b o, h1.get? b = some o → b ≠ a := fun a ha b o e q => by
    rw [q, hm a ha] at e; cases e
  obtain ⟨oL, _, _, hLo, _⟩ := F1.ns
  have F2 : Fr g L h2 m := after_F F1 off (by simpa using hL) (fun a ha => by rw [List.mem_singleton.mp ha]; exact (N1 (dx', _) (.tail _ (.head _))).2.2)
  have hall : ∀ p ∈ l', p.1 = fam ∨ p.1 = dx' ∨ p.1 ∈ [pl, nu, pa] := by
    obtain ⟨⟨t1, t2, t3, nd, oP, n1, n2, vn, vp, kvs, rfl, _⟩, _, _⟩ := hf
    intro p hp
    simp only [List.mem_cons, List.not_mem_nil, or_false] at hp ⊢
    rcases hp with h | h | h | h | h <;> simp [h]
  refine ⟨rfl, h h2 tk2 ⟨fam, dx', pl, nu, pa⟩ l' hf F2 (News.both (news_of hh2 fun p hp => ?_) (after_N (News.subs N1 fun p hp => List.mem_cons_of_mem _ (List.mem_cons_of_mem _ hp)) off fun p hp => ?_)) fun p hp a ha => ?_⟩
  · rcases hall p hp with e | e | e
    · rw [e]; exact hx
    · rw [e]; exact Ne.symm hL
    · exact Ne.symm (hfr _ e L _ hLo)
  · simp only [List.mem_singleton]
    exact Nat.ne_of_lt (lt1 p hp)
  · have l1 := lt1 p hp
    have hp1 := (N1 p (List.mem_cons_of_mem _ (List.mem_cons_of_mem _ hp))).1
    simp only [FA.all, List.mem_cons, List.not_mem_nil, or_false] at ha
    rcases ha with rfl | rfl | h
    · exact Nat.ne_of_lt (Nat.lt_trans l1 lt2)
    · exact Nat.ne_of_lt l1
    · exact hfr a (by simpa using h) p.1 _ hp1

theorem fill11 : (fun (_ : OpenLaw) (_ : Params → Frag) => True) PySem.Challenge.rw_nz0269_01 hd.heap_39 := by
  w_top off
  k_fill
  trivial
set_option maxHeartbeats 4000000
/-- objects of the ground taken into the ledger -/
theorem lower {g h : Heap} {L : Addr} {m : Str → Option Value} {led : List (Addr × Obj)} (ex : List (Addr × Obj)) (F : Fr g L h m) (N : News g L h led) (hx : ∀ p ∈ ex, g.get? p.1 = some p.2) :
    Fr (hideAll g (ex.map (·.1))) L h m ∧ News (hideAll g (ex.map (·.1))) L h (led ++ ex) := by
  refine ⟨⟨F.ns, fun b o e => F.keep b o (of_hideAll _ e), by rw [hideAll_size]; exact F.above⟩, fun p hp => ?_⟩
  rcases List.mem_append.mp hp with hp | hp
  · refine ⟨(N p hp).1, (N p hp).2.1, ?_⟩
    cases q : (hideAll g (ex.map (·.1))).get? p.1 with
    | none => rfl
    | some o => have := of_hideAll _ q; rw [(N p hp).2.2] at this; cases this
  · refine ⟨F.keep _ _ (hx p hp), fun e => ?_, hideAll_none _ (List.mem_map_of_mem hp)⟩
    have := hx p hp
    rw [e, Heap.get?_none_of_le F.above] at this; cases this
theorem raise {g h : Heap} {L : Addr} {m : Str → Option Value} {ex led : List (Addr × Obj)} (F : Fr (hideAll g (ex.map (·.1))) L h m) (N : News (hideAll g (ex.map (·.1))) L h led) (hm : ∀ p ∈ ex, p ∈ led) (hx : ∀ p ∈ ex, g.get? p.1 = some p.2) : Fr g L h m := by
  refine ⟨F.ns, fun b o e => ?_, by have := F.above; rw [hideAll_size] at this; exact this⟩
  by_cases q : b ∈ ex.map (·.1)
  · obtain ⟨p, hp, rfl⟩ := List.mem_map.mp q
    rw [hx p hp] at e
    cases e
    exact (N p (hm p hp)).1
  · exact F.keep b o (hideAll_get _ e q)
theorem hideAll_base {base g : Heap} {ex : List (Addr × Obj)} (kg : ∀ b o, base.get? b = some o → g.get? b = some o) (hb : ∀ p ∈ ex, base.get? p.1 = none) : ∀ b o, base.get? b = some o → (hideAll g (ex.map (·.1))).get? b = some o := fun b o e =>
  hideAll_get _ (kg b o e) fun q => by
    obtain ⟨p, hp, rfl⟩ := List.mem_map.mp q
    rw [hb p hp] at e; cases e
theorem raiseN {g h : Heap} {L : Addr} {ex led : List (Addr × Obj)} (N : News (hideAll g (ex.map (·.1))) L h led) (hg : ∀ p ∈ led, g.get? p.1 = none) : News g L h led := fun p hp => ⟨(N p hp).1, (N p hp).2.1, hg p hp⟩
structure Letter where
  n : Int
  own : Str
  refs : List Str
def famOf (ls : List Letter) : Fam := ls.foldl (fun st a => st.add a.n a.own a.refs) ⟨[], [], []⟩
/-- letters in a heap, none of the ground's -/
structure LettersAt (h base : Heap) (rw : Addr) (vs : List Value) (nv : Nat) (ls : List Letter) : Prop where
  list : h.get? rw = some (listO vs nv)
  new : base.get? rw = none
  len : vs.length = ls.length
  each : ∀ (i : Nat) (lt : Letter), ls[i]? = some lt → ∃ (T rl : Addr) (t u : Tok) (n1 n2 : Nat) (vr : List Value), vs[i]? = some (Value.ref T) ∧ h.get? T = some (tupO [Value.int lt.n t, Value.str lt.own u, Value.ref rl] n1) ∧ h.get? rl = some (listO vr n2) ∧ StrsAre vr lt.refs ∧ base.get? T = none ∧ base.get? rl = none
structure LettersOk (ls : List Letter) : Prop where
  len : ls.length ≤ 9
  each : ∀ lt ∈ ls, 0 < lt.n ∧ lt.n < 100 ∧ lt.refs.length ≤ 4 ∧ Oks lt.refs
theorem famOf_succ {ls : List Letter} {i : Nat} {a : Letter} (h : ls[i]? = some a) : famOf (ls.take (i + 1)) = (famOf (ls.take i)).add a.n a.own a.refs := by
  unfold famOf
  rw [foldl_take _ _ _ _ h]
theorem good_nil : Good ⟨[], [], []⟩ := ⟨rfl, rfl, List.nodup_nil, fun p h => (nomatch h), fun i h => absurd h (Nat.not_lt_zero i)⟩
theorem famOf_good {ls : List Letter} (ok : LettersOk ls) : ∀ i, i ≤ ls.length → Good (famOf (ls.take i)) ∧ (famOf (ls.take i)).nm.length ≤ 5 * i := by
  intro i
  induction i with
  | zero => intro _; exact ⟨good_nil, Nat.le_refl _⟩
  | succ i ih =>
    intro hi
    obtain ⟨g, l⟩ := ih (by omega)
    have hx : ls[i]? = some ls[i] := List.getElem?_eq_getElem (by omega)
    have ho := ok.each ls[i] (List.getElem_mem _)
    rw [famOf_succ hx]
    refine ⟨g.add _ _ _, ?_⟩
    have := (refd_ok g ls[i].n ls[i].own ls[i].refs).2.2
    rw [add_nm]; omega
theorem family_of_c {w : World} {dp un : Nat} {fr : Option (List Env)} {gd : Option (List Code)} {s : Shared} {base : Heap} {R : Result → Shared → Prop} {rw : Addr} {vs : List Value} {nv : Nat} {ls : List Letter}
    (G : Gr w base) (kp : ∀ b o, base.get? b = some o → s.heap.get? b = some o) (hl : LettersAt s.heap base rw vs nv ls) (hok : LettersOk ls)
    (hd : dp + 6 < recursionLimit)
    (ret : ∀ h' tk fa l', FamIn w (famOf ls) fa l' → Has base h' l' → (∀ a ∈ fa.all, s.heap.get? a = none) → Off [] s.heap h' → R (.ok (.ret (.ref fa.fam))) { s with heap := h', toks := tk }) :
    codeAny (model PR w) (AR dp un fr gd) (.call (.ref 84) ⟨[.ref rw], []⟩) R s := by
  have hh : ∀ p ∈ ([] : List (Addr × Obj)), s.heap.get? p.1 = some p.2 ∧ base.get? p.1 = none := fun p hp => nomatch hp
  refine' enterF _ ?hG ?hkp ?hhh ?hroom ?ho ?hcd ?hbind ?hloc ?hmain ?c1 ?c2 ?c3 ?c4
  (case hG => assumption)
  (case hkp => assumption)
  (case hhh => assumption)
  (case hroom => (show _ < recursionLimit; dsimp only; omega))
  (case ho => k_is)
  (case hcd => k_is)
  (case hbind => exact BindsTo.of_eq rfl)
  (case hloc => exact locs rfl)
  (case c1 => exact rfl)
  (case c2 => exact rfl)
  (case c3 => exact rfl)
  (case c4 => decide)
  k_whole
  intro g L h₁ mean mg mb F N X T fin fresh kg
  try dsimp only
  have gk : ∀ b o, s.heap.get? b = some o → g.get? b = some o := fun b o e => by
    have e1 := (fin _ _ _ F N).1 b o e (fun q => nomatch q)
    cases q : g.get? b with
    | none => have := fresh b (fun q => nomatch q) q; rw [e] at this; cases this
    | some o' => rw [F.keep b o' q] at e1; exact e1
  repeat' (walk1)
  refine new_fam X T F N (by first | omega | (simp only [depth_deeper]; omega) | (dsimp only; omega)) ?_
  intro h2 tk2 fa l' hf F2 N2 _
  clear F N
  have hf0 := hf
  refine FamIn.elim hf fun t1 t2 t3 nd oP n1 n2 vn vp kvs el hP hD hN hA hnd low => ?_
  subst el
  clear hf
  obtain ⟨fam, dx, pl, nu, pa⟩ := fa
  dsimp only [List.append_nil] at N2 ⊢
  rw [List.append_nil] at N2
  repeat' (walk1)
  refine Hold.out ?_
  refine wpAny_For ?_
  repeat' (walk1)
  rename Fr _ _ _ _ => F4
  rename News _ _ _ _ => N5
  have hls := gk _ _ hl.list
  refine for_list (vs := vs) (lo := listO vs nv) rfl (F4.keep _ _ hls) rfl ⟨nv, rfl⟩ (fun i h => ∃ m l', Fr g L h m ∧ News g L h l' ∧ FamIn w (famOf (ls.take i)) ⟨fam, dx, pl, nu, pa⟩ l' ∧ m (Str.ofString "family") = some (.ref fam)) ?_ ?_ ?_ ?_ ?_
  · intro it _
    exact ⟨_, _, F4.push it, News.pushed N5 it, hf0, rfl⟩
  · intro i h h' hInv off
    refine ex2 hInv fun m l' hQ => an4 hQ fun F N H m1 => ?_
    clear hQ hInv
    have hled := led_ne (rest := []) H (I := _) (News.ne_top N5)
    rw [List.append_nil] at hled
    obtain ⟨F', N'⟩ := stable_led F N (Nat.ne_of_lt F4.ns.lt) (next_is_new F4) hled off
    exact ⟨m, l', F', N', H, m1⟩
  · intro i h hInv
    refine ex2 hInv fun m l' hQ => an4 hQ fun F N H m1 => ?_
    clear hQ hInv
    exact F.keep _ _ hls
  · intro i v h tk it hv hic hit hInv
    refine ex2 hInv fun m l' hQ => an4 hQ fun F N H m1 => ?_
    clear hQ hInv
    have hi : i < ls.length := by rw [← hl.len]; exact (List.getElem?_eq_some_iff.mp hv).1
    have hlt : ls[i]? = some ls[i] := List.getElem?_eq_getElem hi
    obtain ⟨ga, gb⟩ := famOf_good hok i (by omega)
    have hs := famOf_succ hlt
    have ho := hok.each ls[i] (List.getElem_mem _)
    obtain ⟨Ta, rl, tn, to, m1', m2', vr, ev, eT, erl, hr, bT, brl⟩ := hl.each i _ hlt
    rw [ev] at hv
    cases hv
    have hok9 := hok.len
    have hsz := News.ne_top N5
    have hIL := (Nat.ne_of_lt F4.ns.lt)
    have hIg := next_is_new F4
    generalize hI : Heap.objs _ = ob at hit hsz hIL hIg ⊢
    have hx : ∀ p ∈ [(rl, listO vr m2'), (Ta, tupO [.int ls[i].n tn, .str ls[i].own to, .ref rl] m1')], g.get? p.1 = some p.2 := fun p hp => by
      simp only [List.mem_cons, List.not_mem_nil, or_false] at hp
      rcases hp with rfl | rfl
      · exact gk _ _ erl
      · exact gk _ _ eT
    have Nit : News g L h (l' ++ [(ob.size, it)]) := fun p hp => by
      rcases List.mem_append.mp hp with hp | hp
      · exact N p hp
      · rw [List.mem_singleton.mp hp]; exact ⟨hit, fun e => hIL e.symm, hIg⟩
    obtain ⟨F6, N6⟩ := lower _ F Nit hx
    have kg' := hideAll_base (ex := [(rl, listO vr m2'), (Ta, tupO [.int ls[i].n tn, .str ls[i].own to, .ref rl] m1')]) kg (fun p hp => by
      simp only [List.mem_cons, List.not_mem_nil, or_false] at hp
      rcases hp with rfl | rfl
      · exact brl
      · exact bT)
    obtain ⟨X', mean', mg', mb', T'⟩ := G.keeps kg'
    have hgf : ∀ a ∈ (⟨fam, dx, pl, nu, pa⟩ : FA).all, g.get? a = none := fun a ha => by
      rw [← H.map] at ha
      obtain ⟨p, hp, rfl⟩ := List.mem_map.mp ha
      exact (N p hp).2.2
    have hne : ∀ b o, g.get? b = some o → b ∉ (⟨fam, dx, pl, nu, pa⟩ : FA).all := fun b o e q => by rw [hgf b q] at e; cases e
    have hrl := hne _ _ (gk _ _ erl)
    have hTa := hne _ _ (gk _ _ eT)
    have hob : ob.size ∉ (⟨fam, dx, pl, nu, pa⟩ : FA).all := fun q => hsz _ (by simpa using q) rfl
    have n1x : @Ne Nat rl Ta := cls_ne erl eT rfl rfl (by decide)
    refine FamIn.elimO H fun t1' t2' t3' nd' oQ n1' n2' vn' vp' kvs' el hPq hDq hNq hAq => ?_
    subst el
    clear X T F Nit N
    dsimp only [List.cons_append, List.nil_append] at N6 ⊢
    repeat' (walk1)
    rename Fr _ _ _ _ => F7
    rename News _ _ _ _ => N7
    generalize hgg : hideAll g _ = g' at F7 N7 X' T' kg'
    refine wpAny_call (add_c (nr := m2') (fa := ⟨fam, dx, pl, nu, pa⟩) ⟨X', _, _, _, T'⟩ F7.keep H ((Has.of_news N7).sub (fun p hp => ?_)) hr hrl ga (by omega) (by omega) (by omega) (by first | omega | (simp only [depth_deeper]; omega) | (dsimp only; omega)) ?_)
    · simp only [List.cons_append, List.nil_append, List.mem_cons, List.not_mem_nil, or_false] at hp ⊢
      rcases hp with h | h | h | h | h | h <;> simp [h]
    intro h3 tk3 l3 hl3 hh3 off3
    rw [← hs] at hl3
    obtain ⟨F9, N9⟩ := after_famR (rest := [(ob.size, it), (rl, listO vr m2'), (Ta, tupO [.int ls[i].n tn, .str ls[i].own to, .ref rl] m1')]) H hl3 F7 N7 (hh3.sub fun p hp => List.mem_append_left _ hp) off3 (fun p hp => by
      simp only [List.mem_cons, List.not_mem_nil, or_false] at hp
      rcases hp with rfl | rfl | rfl
      · exact hob
      · exact hrl
      · exact hTa)
    subst hgg
    have F10 := raise F9 N9 (fun p hp => List.mem_append_right _ (List.mem_cons_of_mem _ hp)) hx
    have N10 := raiseN (Mine.News.subs N9 (l' := l3) fun p hp => List.mem_append_left _ hp) (fun p hp => hgf p.1 (by rw [← hl3.map]; exact List.mem_map_of_mem hp))
    dsimp only
    refine wpAny_execs_nil ?_
    dsimp only
    exact Hold.out ⟨_, _, rfl, (N9 (ob.size, it) (List.mem_append_right _ (.head _))).1, _, _, F10, N10, hl3, set_ne m1⟩
  · intro h tk hInv
    refine ex2 hInv fun m l' hQ => an4 hQ fun F N H m1 => ?_
    clear hQ hInv
    rw [hl.len, List.take_length] at H
    have H0 := H
    refine FamIn.elimO H fun t1' t2' t3' nd' oQ n1' n2' vn' vp' kvs' el hPq hDq hNq hAq => ?_
    subst el
    clear F4 N5
    dsimp only
    repeat' (walk1)
    dsimp only
    refine ret _ _ ⟨fam, dx, pl, nu, pa⟩ _ H0 ((Has.of_news N).older kg) (fun a ha => fresh a (fun q => nomatch q) ?_) (fin _ _ _ F N).1
    rw [← H0.map] at ha
    obtain ⟨p, hp, rfl⟩ := List.mem_map.mp ha
    exact (N p hp).2.2

theorem fill12 : (fun (_ : OpenLaw) (_ : Params → Frag) => True) PySem.Challenge.rw_nz0269_01 hd.heap_39 := by
  w_top off
  k_fill
  trivial
set_option maxHeartbeats 4000000
local macro_rules | `(tactic| walk_at "call type:enumerate cons nil") => `(tactic| refine Hold.mk ?_)
/-- the letters made so far, in a ledger -/
def LetsIn (tups : List (Addr × Obj)) (vs : List Value) (ls : List Letter) : Prop :=
  vs.length = ls.length ∧ ∀ (i : Nat) (lt : Letter), ls[i]? = some lt → ∃ (T rl : Addr) (t u : Tok) (n1 n2 : Nat) (vr : List Value), vs[i]? = some (Value.ref T) ∧ (T, tupO [Value.int lt.n t, Value.str lt.own u, Value.ref rl] n1) ∈ tups ∧ (rl, listO vr n2) ∈ tups ∧ StrsAre vr lt.refs
def idOf (j : Int) : Str := Txt.item (Str.ofString "abcdef") j ++ Str.ofString "@x"
def refsF : Nat → Int → List Str
  | 0, _ => []
  | k + 1, r => idOf ((r.fdiv 5).fmod 6) :: refsF k (r.fdiv 5)
abbrev absI (c : Int) : Int := if c < 0 then -c else c
def letterOf (i : Nat) (c : Int) : Letter := ⟨(i : Int) + 1, if 0 < (absI c).fmod 7 then idOf ((absI c).fmod 6) else Str.ofString "", refsF (((absI c).fdiv 6).fmod 5).toNat ((absI c).fdiv 6)⟩
def lettersOf (cs : List Int) : List Letter := cs.zipIdx.map fun p => letterOf p.2 p.1
theorem AllLt.mem {d : Addr} : ∀ {l : List (Addr × Obj)}, AllLt d l → ∀ p ∈ l, p.1 < d
  | [], _, _, h => nomatch h
  | _ :: _, x, p, h => by
    rcases List.mem_cons.mp h with rfl | h
    · exact x.1
    · exact AllLt.mem x.2 p h
theorem lettersOf_at (cs : List Int) (i : Nat) : (lettersOf cs)[i]? = (cs[i]?).map (letterOf i) := by
  simp only [lettersOf, List.getElem?_map, List.getElem?_zipIdx]
  cases cs[i]? <;> simp
theorem lettersOf_len (cs : List Int) : (lettersOf cs).length = cs.length := by simp [lettersOf]
theorem LetsIn.snoc {tups : List (Addr × Obj)} {vs : List Value} {ls : List Letter} (x : LetsIn tups vs ls) {a : Letter} {T rl : Addr} {t u : Tok} {n1 n2 : Nat} {vr : List Value} (hr : StrsAre vr a.refs) :
    LetsIn ((T, tupO [Value.int a.n t, Value.str a.own u, Value.ref rl] n1) :: (rl, listO vr n2) :: tups) (vs ++ [Value.ref T]) (ls ++ [a]) := by
  refine ⟨by simp [x.1], fun i lt e => ?_⟩
  by_cases q : i < ls.length
  · rw [List.getElem?_append_left q] at e
    obtain ⟨T', rl', t', u', m1, m2, vr', a1, a2, a3, a4⟩ := x.2 i lt e
    exact ⟨T', rl', t', u', m1, m2, vr', by rw [List.getElem?_append_left (by rw [x.1]; exact q)]; exact a1, .tail _ (.tail _ a2), .tail _ (.tail _ a3), a4⟩
  · have hl : i < (ls ++ [a]).length := (List.getElem?_eq_some_iff.mp e).1
    simp at hl
    have : i = ls.length := by omega
    subst this
    rw [List.getElem?_append_right (Nat.le_refl _)] at e
    simp at e
    subst e
    exact ⟨T, rl, t, u, n1, n2, vr, by rw [List.getElem?_append_right (by rw [x.1]; exact Nat.le_refl _)]; simp [x.1], .head _, .tail _ (.head _), hr⟩
theorem re_letters {g h : Heap} {L : Addr} {a b c d e : Addr × Obj} {tups : List (Addr × Obj)} (N : News g L h (a :: b :: c :: d :: e :: tups)) : News g L h (c :: a :: b :: tups) := fun p hp => N p (by
  simp only [List.mem_cons] at hp ⊢
  rcases hp with h | h | h | h <;> simp [h])
theorem letters_c {w : World} {dp un : Nat} {fr : Option (List Env)} {gd : Option (List Code)} {s : Shared} {base : Heap} {R : Result → Shared → Prop} {cl : Addr} {vc : List Value} {nc : Nat} {cs : List Int}
    (G : Gr w base) (kp : ∀ b o, base.get? b = some o → s.heap.get? b = some o) (hcl : s.heap.get? cl = some (listO vc nc)) (hcs : IntsAre vc cs) (hz : cs.length ≤ 9)
    (hd : dp + 2 < recursionLimit)
    (ret : ∀ h' tk fd vs nv, LettersAt h' base fd vs nv (lettersOf cs) → Off [] s.heap h' → s.heap.get? fd = none → R (.ok (.ret (.ref fd))) { s with heap := h', toks := tk }) :
    codeAny (model PR w) (AR dp un fr gd) (.call (.ref 91) ⟨[.ref cl], []⟩) R s := by
  have hh : ∀ p ∈ ([] : List (Addr × Obj)), s.heap.get? p.1 = some p.2 ∧ base.get? p.1 = none := fun p hp => nomatch hp
  refine' enterF _ ?hG ?hkp ?hhh ?hroom ?ho ?hcd ?hbind ?hloc ?hmain ?c1 ?c2 ?c3 ?c4
  (case hG => assumption)
  (case hkp => assumption)
  (case hhh => assumption)
  (case hroom => (show _ < recursionLimit; dsimp only; omega))
  (case ho => k_is)
  (case hcd => k_is)
  (case hbind => exact BindsTo.of_eq rfl)
  (case hloc => exact locs rfl)
  (case c1 => exact rfl)
  (case c2 => exact rfl)
  (case c3 => exact rfl)
  (case c4 => decide)
  k_whole
  intro g L h₁ mean mg mb F N X T fin fresh kg
  try dsimp only
  have gk : ∀ b o, s.heap.get? b = some o → g.get? b = some o := fun b o e => by
    have e1 := (fin _ _ _ F N).1 b o e (fun q => nomatch q)
    cases q : g.get? b with
    | none => have := fresh b (fun q => nomatch q) q; rw [e] at this; cases this
    | some o' => rw [F.keep b o' q] at e1; exact e1
  repeat' (walk1)
  refine Hold.out ?_
  refine wpAny_For ?_
  repeat' (walk1)
  refine Hold.out ?_
  rename Fr _ _ _ _ => F4
  rename News _ _ _ _ => N5
  have hls := gk _ _ hcl
  have hvc : vc.length = cs.length := hcs.length
  rename_i fd hY l1x hX
  have hsz0 := ltN (News.lt_top N5 fd (by simp))
  have hIL0 := ltN F4.ns.lt
  try dsimp only at hIL0 hsz0
  refine for_enum (vs := vc) (lo := listO vc nc) rfl (F4.keep _ _ hls) rfl ⟨nc, rfl⟩ (fun i h => ∃ m vs nv tups, Fr g L h m ∧ News g L h ((fd, listO vs nv) :: tups) ∧ LetsIn tups vs ((lettersOf cs).take i) ∧ (∀ p ∈ tups, p.1 ≠ fd) ∧ (∀ p ∈ tups, hX.objs.size + 1 < p.1) ∧ m (Str.ofString "found") = some (.ref fd)) ?_ ?_ ?_ ?_ ?_
  · intro h' hk
    exact ⟨_, _, _, [], F4.keeps hk, N5.grown hk, ⟨rfl, fun i lt e => by simp at e⟩, fun p hp => (nomatch hp), fun p hp => (nomatch hp), rfl⟩
  · intro i h h' hInv off
    refine ex4 hInv fun m vs nv tups hQ => an6 hQ fun F N q1 q2 q3 q4 => ?_
    clear hQ hInv
    have e1 : L ∉ [hX.objs.size + 1, hX.objs.size] := fun q => by
      simp only [List.mem_cons, List.not_mem_nil, or_false] at q
      have : @Eq Nat L (hX.objs.size + 1) ∨ @Eq Nat L hX.objs.size := q
      omega
    refine ⟨m, vs, nv, tups, after_F F off e1 (fun a ha => none_above F4 ?_), after_N N off (fun p hp q => ?_), q1, q2, q3, q4⟩
    · simp only [List.mem_cons, List.not_mem_nil, or_false] at ha
      rcases ha with rfl | rfl
      · exact Nat.le_succ _
      · exact Nat.le_refl _
    · simp only [List.mem_cons, List.not_mem_nil, or_false] at q
      have q' : @Eq Nat p.1 (hX.objs.size + 1) ∨ @Eq Nat p.1 hX.objs.size := q
      rcases List.mem_cons.mp hp with rfl | hp
      · dsimp only at q'; omega
      · have := ltN (q3 p hp); omega
  · intro i h hInv
    refine ex4 hInv fun m vs nv tups hQ => an6 hQ fun F N q1 q2 q3 q4 => ?_
    clear hQ hInv
    exact F.keep _ _ hls
  · intro i x T1 t h tk oE oI hx hT kE kI gE gI hInv
    refine ex4 hInv fun m vs nv tups hQ => an6 hQ fun F N q1 q2 q3 q4 => ?_
    clear hQ hInv
    obtain ⟨c, tc, rfl, hci⟩ := hcs.at i x hx
    have hIg : ∀ k : Nat, g.get? (hX.objs.size + k) = none := fun k => none_above F4 (Nat.le_add_right _ _)
    dsimp only at gE gI hIg ⊢
    generalize hX.objs.size = sz at gE gI hsz0 hIL0 hIg q3 ⊢
    have N6 : News g L h ((fd, listO vs nv) :: (sz + 1, oE) :: (sz, oI) :: tups) := fun p hp => by
      rcases List.mem_cons.mp hp with rfl | hp
      · exact N _ (.head _)
      rcases List.mem_cons.mp hp with rfl | hp
      · exact ⟨gE, (by have : @Ne Nat (sz + 1) L := by omega
                       exact this), hIg 1⟩
      rcases List.mem_cons.mp hp with rfl | hp
      · exact ⟨gI, (by have : @Ne Nat sz L := by omega
                       exact this), hIg 0⟩
      · exact N _ (.tail _ hp)
    clear N N5 F4
    refine' once (P := fun σ => ∃ h tk m nl to tr ti, σ = { s with heap := h, toks := tk } ∧ Fr g L h m ∧ News g L h ((nl, listO [] 0) :: (fd, listO vs nv) :: (sz + 1, oE) :: (sz, oI) :: tups) ∧ (@LT.lt Nat _ fd nl ∧ @LT.lt Nat _ (sz + 1) nl) ∧ (∀ p ∈ tups, p.1 < nl) ∧
      m (Str.ofString "own") = some (.str (letterOf i c).own to) ∧ m (Str.ofString "rest") = some (.int ((absI c).fdiv 6) tr) ∧ m (Str.ofString "names") = some (.ref nl) ∧ m (Str.ofString "found") = some (.ref fd) ∧ m (Str.ofString "place") = some (.int (i : Int) ti)) (fun key => ?main) ?pf
    case main =>
      repeat' (walk1)
      · rename Fr _ _ _ _ => F1
        rename News _ _ _ _ => N1
        rename @LT.lt Nat _ _ _ ∧ @LT.lt Nat _ _ _ ∧ @LT.lt Nat _ _ _ ∧ AllLt _ _ => l1
        rename 0 < _ => w1
        have e : (letterOf i c).own = idOf ((absI c).fmod 6) := by unfold letterOf; dsimp only; rw [if_pos w1]
        exact Hold.out (key _ ⟨_, _, _, _, _, _, _, rfl, F1, Mine.News.subs N1 (fun p hp => .tail _ (.tail _ hp)), ⟨l1.1, l1.2.1⟩, Mine.AllLt.mem l1.2.2.2, by rw [e]; rfl, rfl, rfl, q4, rfl⟩)
      · rename Fr _ _ _ _ => F1
        rename News _ _ _ _ => N1
        rename @LT.lt Nat _ _ _ ∧ @LT.lt Nat _ _ _ ∧ @LT.lt Nat _ _ _ ∧ AllLt _ _ => l1
        rename ¬ (0 < _) => w1
        have e : (letterOf i c).own = Str.ofString "" := by unfold letterOf; dsimp only; rw [if_neg w1]
        exact Hold.out (key _ ⟨_, _, _, _, _, _, _, rfl, F1, Mine.News.subs N1 (fun p hp => .tail _ (.tail _ hp)), ⟨l1.1, l1.2.1⟩, Mine.AllLt.mem l1.2.2.2, by rw [e]; rfl, rfl, rfl, q4, rfl⟩)
    rintro σ ⟨h2, tk2, m2, nl, to, tr, ti, rfl, F2, N2, ⟨l2, l3⟩, l4, p1, p2, p3, p4, p5⟩
    clear N6 gE gI
    refine wpAny_For ?_
    repeat' (walk1)
    rename IsRange _ _ _ _ _ _ _ _ => hRg
    rename Fr _ _ _ _ => F3
    rename News _ _ _ _ => N3
    rename_i hZ tkZ tz uz vz kz
    have hk0 : 0 ≤ ((absI c).fdiv 6).fmod 5 := Int.fmod_nonneg_of_pos _ (by omega)
    have hk1 : ((absI c).fdiv 6).fmod 5 < 5 := Int.fmod_lt_of_pos _ (by omega)
    have hsm : Builtin.Range.small 0 (((absI c).fdiv 6).fmod 5) 1 = true := small_one (by omega) (by omega) (by omega) (by omega)
    have hrs : Builtin.Range.rangeSize 0 (((absI c).fdiv 6).fmod 5) 1 = (((((absI c).fdiv 6).fmod 5).toNat : Nat) : Int) := by rw [rangeSize_one]; split <;> omega
    have hrf : (letterOf i c).refs = refsF (((absI c).fdiv 6).fmod 5).toNat ((absI c).fdiv 6) := rfl
    have hkk : (((absI c).fdiv 6).fmod 5).toNat ≤ 4 := by omega
    generalize (((absI c).fdiv 6).fmod 5).toNat = kk at hrs hrf hkk
    have hgt : ∀ p ∈ tups, p.1 ≠ nl := fun p hp => Nat.ne_of_lt (l4 p hp)
    refine for_range (n := kk) rfl hRg hsm hrs (fun j h => ∃ m vr nr done rest tr, Fr g L h m ∧ News g L h ((nl, listO vr nr) :: (fd, listO vs nv) :: (sz + 1, oE) :: (sz, oI) :: tups) ∧ StrsAre vr done ∧ done.length = j ∧ (letterOf i c).refs = done ++ refsF (kk - j) rest ∧
      m (Str.ofString "own") = some (.str (letterOf i c).own to) ∧ m (Str.ofString "rest") = some (.int rest tr) ∧ m (Str.ofString "names") = some (.ref nl) ∧ m (Str.ofString "found") = some (.ref fd) ∧ m (Str.ofString "place") = some (.int (i : Int) ti)) ?_ ?_ ?_ ?_
    · intro it _
      exact ⟨_, _, _, [], _, _, F3.push it, News.pushed N3 it, .nil, rfl, by rw [hrf]; rfl, p1, p2, p3, p4, p5⟩
    · intro j h h' hInv off
      refine ex6 hInv fun m vr nr done rest tr hQ => an3 hQ fun F N q => ?_
      clear hQ hInv
      obtain ⟨F', N'⟩ := stable_up F N off F3 (fun a ha => by rw [List.mem_singleton.mp ha]; exact Nat.le_refl _) (fun a ha => News.lt_top N3 a ha)
      exact ⟨m, vr, nr, done, rest, tr, F', N', q⟩
    · intro j tv h tk it hj hic hit hInv
      refine ex6 hInv fun m vr nr done rest tr hQ => an10 hQ fun F N r1 r2 r3 s1 s2 s3 s4 s5 => ?_
      clear hQ hInv
      have hIL := ltN F3.ns.lt
      have hIg2 := none_above F3 (Nat.le_refl _)
      have hsz2 := News.lt_top N3
      dsimp only at hIL hit hIg2 hsz2 ⊢
      generalize hZ.objs.size = s2 at hIL hit hIg2 hsz2 ⊢
      have z1 := ltN (hsz2 nl (by k_mem)); have z2 := ltN (hsz2 fd (by k_mem)); have z3 := ltN (hsz2 (sz + 1) (by k_mem)); have z4 := ltN (hsz2 sz (by k_mem))
      have zt : ∀ p ∈ tups, p.1 ≠ s2 := fun p hp => Nat.ne_of_lt (hsz2 p.1 (by simp only [List.map_cons, List.mem_cons]; exact .inr (.inr (.inr (.inr (List.mem_map_of_mem hp))))))
      have N6 : News g L h ((s2, it) :: (nl, listO vr nr) :: (fd, listO vs nv) :: (sz + 1, oE) :: (sz, oI) :: tups) := fun p hp => by
        rcases List.mem_cons.mp hp with rfl | hp
        · exact ⟨hit, Nat.ne_of_gt hIL, hIg2⟩
        · exact N p hp
      have hrz := strs_len r1
      obtain ⟨kj, hkj⟩ : ∃ kj, kk - j = kj + 1 := ⟨kk - j - 1, by omega⟩
      rw [hkj] at r3
      clear N N3 F3 hsz2
      repeat' (walk1)
      rename Fr _ _ _ _ => F9
      rename News _ _ _ _ => N9
      rw [List.push_toArray] at N9
      have hkj' : kk - (j + 1) = kj := by omega
      dsimp only
      exact Hold.out ⟨_, _, rfl, (N9 (s2, it) (.head _)).1, _, _, _, done ++ [idOf ((rest.fdiv 5).fmod 6)], rest.fdiv 5, _, F9, Mine.News.subs N9 (fun p hp => .tail _ hp), StrsAre.append' r1 (.cons _ _ .nil), by simp [r2], by rw [hkj', r3, List.append_assoc]; rfl, s1, rfl, s3, s4, s5⟩
    · intro h tk hInv
      refine ex6 hInv fun m vr nr done rest tr hQ => an10 hQ fun F N r1 r2 r3 s1 s2 s3 s4 s5 => ?_
      clear hQ hInv
      have hall : StrsAre vr (letterOf i c).refs := by rw [r3, Nat.sub_self]; simpa [refsF] using r1
      have hlv : vs.length ≤ 9 := by rw [q1.1, List.length_take, lettersOf_len]; omega
      clear N3 F3 hrf
      have hgt2 : ∀ p ∈ tups, p.1 ≠ fd := q2
      dsimp only
      repeat' (walk1)
      rename Fr _ _ _ _ => F9
      rename News _ _ _ _ => N9
      rename @LT.lt Nat _ _ _ ∧ _ => l9
      rw [List.push_toArray] at N9
      have hsucc : (lettersOf cs).take (i + 1) = (lettersOf cs).take i ++ [letterOf i c] := by
        rw [List.take_add_one, lettersOf_at, hci]; rfl
      dsimp only
      have N10 := re_letters N9
      have hL : ∀ (T : Addr) (t u : Tok) (n1 : Nat), LetsIn ((T, tupO [Value.int (letterOf i c).n t, Value.str (letterOf i c).own u, Value.ref nl] n1) :: (nl, listO vr nr) :: tups) (vs ++ [Value.ref T]) ((lettersOf cs).take (i + 1)) := fun T t u n1 => by
        rw [hsucc]; exact LetsIn.snoc q1 hall
      have hb : ∀ p ∈ (nl, listO vr nr) :: tups, p.1 ≠ fd := fun p hp => by
        rcases List.mem_cons.mp hp with rfl | hp
        · exact Nat.ne_of_gt l2
        · exact q2 p hp
      have hb3 : ∀ p ∈ (nl, listO vr nr) :: tups, sz + 1 < p.1 := fun p hp => by
        rcases List.mem_cons.mp hp with rfl | hp
        · exact l3
        · exact q3 p hp
      exact Hold.out ⟨_, _, rfl, (N9 (sz + 1, oE) (.tail _ (.tail _ (.tail _ (.head _))))).1, (N9 (sz, oI) (.tail _ (.tail _ (.tail _ (.tail _ (.head _)))))).1, m, _, _, _, F9, N10, hL _ _ _ _, List.forall_mem_cons.mpr ⟨Nat.ne_of_gt l9.2.1, hb⟩, List.forall_mem_cons.mpr ⟨Nat.lt_trans l3 l9.1, hb3⟩, s4⟩
  · intro h tk hInv
    refine ex4 hInv fun m vs nv tups hQ => an6 hQ fun F N q1 q2 q3 q4 => ?_
    clear hQ hInv
    rw [hvc, ← lettersOf_len, List.take_length] at q1
    dsimp only
    repeat' (walk1)
    dsimp only
    have bn : ∀ b, g.get? b = none → base.get? b = none := fun b e => by
      cases q : base.get? b with
      | none => rfl
      | some o => rw [kg b o q] at e; cases e
    refine ret h _ fd vs nv ⟨(N _ (.head _)).1, bn _ (N _ (.head _)).2.2, q1.1, fun i lt e => ?_⟩ (fin _ _ _ F N).1 (fresh fd (fun q => nomatch q) (N _ (.head _)).2.2)
    obtain ⟨T', rl', t', u', m1, m2, vr', a1, a2, a3, a4⟩ := q1.2 i lt e
    exact ⟨T', rl', t', u', m1, m2, vr', a1, (N _ (.tail _ a2)).1, (N _ (.tail _ a3)).1, a4, bn _ (N _ (.tail _ a2)).2.2, bn _ (N _ (.tail _ a3)).2.2⟩

end Mine
namespace Mine
theorem fill10 : (fun (_ : OpenLaw) (_ : Params → Frag) => True) PySem.Challenge.rw_nz0269_01 hd.heap_39 := by
  w_top off
  k_fill
  trivial
set_option maxHeartbeats 4000000

local macro_rules
  | `(tactic| walk_at "setItem ref int") => `(tactic| (k_here; k_dflt (refine' setItem_K PyProof.V.same_int (intKind_is _ _ _ _) ?v ?F ?N ?U ?d ?f ?_ ?z; (case F => k_asm); (case N => k_asm); (case U => k_updF); (case d => k_asm); (case f => k_asm); (case z => assumption); (case v => k_flat)); intro h' o' F' N' hd' hf'; (try dsimp only at N'); (try k_sweep)))
  | `(tactic| walk_at "eval ListComp") => `(tactic| refine Hold.mk ?_)
theorem parents_c {w : World} {dp un : Nat} {fr : Option (List Env)} {gd : Option (List Code)} {s : Shared} {base : Heap} {R : Result → Shared → Prop} {fa : FA} {st : Fam} {l : List (Addr × Obj)}
    (G : Gr w base) (kp : ∀ b o, base.get? b = some o → s.heap.get? b = some o) (hl : FamIn w st fa l) (hh : Has base s.heap l) (gd' : Good st)
    (hz : st.nm.length ≤ 900)
    (hd : dp + 2 < recursionLimit)
    (ret : ∀ h' tk d o kvs, Has base h' ((d, o) :: l) → (d == sysModules) = false → s.heap.get? d = none → o.IsDictOf (strKind PR w) kvs → FlatPairs PyData.str kvs (encS st.par) → Off [] s.heap h' → R (.ok (.ret (.ref d))) { s with heap := h', toks := tk }) :
    codeAny (model PR w) (AR dp un fr gd) (.call (.ref 110) ⟨[.ref fa.fam], []⟩) R s := by
  refine FamIn.elim hl fun t1 t2 t3 nd oP n1 n2 vn vp kvs el hP hD hN hA hnd low => ?_
  subst el
  clear hl
  obtain ⟨fam, dx, pl, nu, pa⟩ := fa
  have hnd0 := hnd
  refine nodup5 hnd fun a1 a2 a3 a4 a5 a6 a7 a8 a9 a10 => ?_
  clear hnd
  dsimp only at low ret hh kp ⊢
  refine' enterC _ ?hG ?hkp ?hhh ?hroom ?ho ?hcd ?hbind ?hkind ?hnd ?hmain ?c1 ?c2 ?c3
  (case hG => assumption)
  (case hkp => assumption)
  (case hhh => assumption)
  (case hroom => (show _ < recursionLimit; dsimp only; omega))
  (case ho => k_is)
  (case hcd => k_is)
  (case hbind => exact BindsTo.of_eq rfl)
  (case hkind => (intro n; intro x hx; revert x hx; simp [cellsFrom]))
  (case hnd => decide)
  (case c1 => exact rfl)
  (case c2 => exact rfl)
  (case c3 => exact rfl)
  k_whole
  intro g L h₁ tk mean mg mb cells F N Y X T fin fresh kg l1
  k_lt l1
  obtain ⟨c1, c2, hE, d1, d2⟩ := CellsAre.two Y
  subst hE
  clear Y
  replace d1 : c1.data = .cell none := d1
  replace d2 : c2.data = .cell (some (.ref fam)) := d2
  simp only [List.cons_append, List.nil_append] at N
  try dsimp only
  repeat' (walk1)
  refine Hold.out ?_
  have kl : kvs.length = st.nm.length := by rw [← hD.length, encI_length, plc_length]
  refine comp_dict F [(L + 1 + 1, c1), (L + 1, c2), (fam, instObj 73 dx), (dx, dictOf (famD w t1 t2 t3 pl nu pa) nd), (pl, oP), (nu, listO vn n1), (pa, listO vp n2)]
    (PairsJ (intKind PR w) PyData.int (byPlace st.nm)) rfl low (by simp) hP (by rw [kl, sizeLine_eq]; omega) (PairsJ.nil _) ?_ (by with_unfolding_all rfl) (by decide) (by rfl) (by decide) (by rfl)
  repeat' (walk1)
  · exact F
  · exact N
  · intro i v I oI C oC D m₂ h tk2 ys tups E' hv hj hoC hmx F2 N2 off ne
    obtain ⟨x, dv, t, hDi, rfl⟩ := key_at hD hv
    rw [plc_at] at hDi
    obtain ⟨x', hx', he⟩ := Option.map_eq_some_iff.mp hDi
    cases he
    have hlk := lookup_plc_at gd'.nd hx'
    simp only [List.cons_append, List.nil_append] at N2 off ⊢
    clear hv
    repeat' (walk1)
    rename Fr _ _ _ _ => F3
    rename News _ _ _ _ => N3
    rename _ ∧ _ => ll
    refine turn_tup (l := [(L + 1 + 1, c1), (L + 1, c2), (fam, instObj 73 dx), (dx, dictOf (famD w t1 t2 t3 pl nu pa) nd), (pl, oP), (nu, listO vn n1), (pa, listO vp n2)]) F3 N3 off ll.1 ll.2.1 ll.2.2.1 (hj.snoc (k := (i : Int)) (by rw [byPlace_at, hx']; rfl) (.str _ _) (intKind_is _ _ _ _))
  · rename Fr _ _ _ _ => F3
    rename News _ _ _ _ => N3
    rename PairsJ _ _ _ _ _ _ => hj
    refine dict_of_pairsN (led := [(L + 1 + 1, c1), (L + 1, c2), (fam, instObj 73 dx), (dx, dictOf (famD w t1 t2 t3 pl nu pa) nd), (pl, oP), (nu, listO vn n1), (pa, listO vp n2)]) rfl F3 N3 (modules_low T.nolimit) hj (by rw [kl]; simp [byPlace]) (by rw [kl, sizeLine_eq]; omega) (byPlace_nodup _) (fun a b e => by injection e) fun d4 h4 tk4 o4 kvs4 F4 N4 lt4 low4 hdo4 hf4 => ?_
    dsimp only at N4 F4 ⊢
    k_lt lt4
    have hz2 : (byPlace st.nm).length ≤ sizeLine := by simp [byPlace, sizeLine_eq]; omega
    clear F3 N3 F N hj
    repeat' (walk1)
    refine Hold.out ?_
    rename Fr _ _ _ _ => F6
    rename News _ _ _ _ => N6
    rename Obj.IsDictOf (intKind PR w) _ (stored _ _ _) => hd6
    rename FlatPairs _ (stored _ _ _) _ => hf6
    rename _ = Data.cell (some (Value.ref d4)) => d3
    rw [put_byPlace] at hf6
    rename_i h5 c6 h6 o6
    refine comp_dict F6 [(d4, o6), (L + 1 + 1, c6), (L + 1, c2), (fam, instObj 73 dx), (dx, dictOf (famD w t1 t2 t3 pl nu pa) nd), (pl, oP), (nu, listO vn n1), (pa, listO vp n2)]
      (PairsJ (strKind PR w) PyData.str (encS st.par)) rfl low (by simp) hP (by rw [kl, sizeLine_eq]; omega) (PairsJ.nil _) ?_ (by with_unfolding_all rfl) (by decide) (by rfl) (by decide) (by rfl)
    repeat' (walk1)
    · exact F6
    · exact N6
    · intro i v I oI C oC D m₂ h tk2 ys tups E' hv hj hoC hmx F2 N2 off ne
      obtain ⟨x, dv, t, hDi, rfl⟩ := key_at hD hv
      rw [plc_at] at hDi
      obtain ⟨x', hx', he⟩ := Option.map_eq_some_iff.mp hDi
      cases he
      have hlk := lookup_plc_at gd'.nd hx'
      simp only [List.cons_append, List.nil_append] at N2 off ⊢
      clear hv
      have hil : i < st.nm.length := (List.getElem?_eq_some_iff.mp hx').1
      have hil2 : i < st.ps.length := by rw [gd'.e2]; exact hil
      have hp1 : st.ps[i]? = some (st.ps.getD i 0) := by simp [List.getD, List.getElem?_eq_getElem hil2]
      obtain ⟨tp, htp⟩ := hA.get i _ hp1
      have hrng := gd'.rng (st.ps.getD i 0) (List.mem_of_getElem? hp1)
      have hlk2 := lookup_nameAt st hrng
      have hlk3 : Spec.lookup (.int (st.ps.getD (i : Int).toNat 0)) (byPlace st.nm ++ [(.int (-1), .str (Str.ofString ""))]) = some (.str (st.nameAt (st.ps.getD i 0))) := by rw [Int.toNat_natCast]; exact hlk2
      have hDp : (encS st.par)[i]? = some (.str x, .str (st.nameAt (st.ps.getD i 0))) := by rw [par_at, hx']; rfl
      repeat' (walk1)
      repeat' (walk1)
      rename Fr _ _ _ _ => F8
      rename News _ _ _ _ => N8
      rename _ ∧ _ => ll
      refine turn_tup (l := [(d4, o6), (L + 1 + 1, c6), (L + 1, c2), (fam, instObj 73 dx), (dx, dictOf (famD w t1 t2 t3 pl nu pa) nd), (pl, oP), (nu, listO vn n1), (pa, listO vp n2)]) F8 N8 off ll.1 ll.2.1 ll.2.2.1 (hj.snoc (k := x) hDp (.str _ _) (strKind_is _ _ _ _))
    · rename Fr _ _ _ _ => F3
      rename News _ _ _ _ => N3
      rename PairsJ _ _ _ _ _ _ => hj
      refine dict_of_pairsN (led := [(d4, o6), (L + 1 + 1, c6), (L + 1, c2), (fam, instObj 73 dx), (dx, dictOf (famD w t1 t2 t3 pl nu pa) nd), (pl, oP), (nu, listO vn n1), (pa, listO vp n2)]) rfl F3 N3 (modules_low T.nolimit) hj (by rw [kl, encS_length, Fam.par_length]) (by rw [kl, sizeLine_eq]; omega) (par_nodup _ gd'.nd) (fun a b e => by injection e) fun d8 h8 tk8 o8 kvs8 F8 N8 lt8 low8 hdo8 hf8 => ?_
      dsimp only at N8 F8 ⊢
      repeat' (walk1)
      have hN := News.subs N8 (l' := [(fam, instObj 73 dx), (dx, dictOf (famD w t1 t2 t3 pl nu pa) nd), (pl, oP), (nu, listO vn n1), (pa, listO vp n2)]) (fun p hp => List.mem_cons_of_mem _ (List.mem_cons_of_mem _ (List.mem_cons_of_mem _ (List.mem_cons_of_mem _ hp))))
      have lt9 : ∀ p ∈ [(fam, instObj 73 dx), (dx, dictOf (famD w t1 t2 t3 pl nu pa) nd), (pl, oP), (nu, listO vn n1), (pa, listO vp n2)], p.1 < d8 := fun p hp => lt8 p (List.mem_cons_of_mem _ (List.mem_cons_of_mem _ (List.mem_cons_of_mem _ hp)))
      refine ret h8 tk8 d8 o8 kvs8 (((Has.of_news N8).sub (fun p hp => ?_)).older kg) low8 (fresh d8 (fun q => ?_) (N8 _ (.head _)).2.2) hdo8 hf8 (off_nil (fin h8 _ _ F8 hN).1 (fun p hp => (hh p hp).1) (fun p hp => (hN p hp).1))
      · rcases List.mem_cons.mp hp with rfl | hp
        · exact .head _
        · exact List.mem_cons_of_mem _ (List.mem_cons_of_mem _ (List.mem_cons_of_mem _ (List.mem_cons_of_mem _ hp)))
      · obtain ⟨p, hp, e⟩ := List.mem_map.mp q
        exact absurd (lt9 p hp) (by rw [e]; exact Nat.lt_irrefl _)

theorem nameAt_idx {st : Fam} {x : Str} (h : st.nm.contains x = true) : st.nameAt (st.nm.idxOf x : Nat) = x := by
  unfold Fam.nameAt
  rw [if_neg (by omega)]
  have hl : st.nm.idxOf x < st.nm.length := List.idxOf_lt_length_iff.mpr (by simpa using h)
  simp only [Int.toNat_natCast, List.getD, List.getElem?_eq_getElem hl, Option.getD_some]
  exact List.getElem_idxOf hl
theorem nameAt_mem {st : Fam} {o : Int} (h0 : 0 ≤ o) (h1 : o < st.nm.length) : st.nameAt o ∈ st.nm := by
  unfold Fam.nameAt
  rw [if_neg (by omega)]
  have hl : o.toNat < st.nm.length := by omega
  simp only [List.getD, List.getElem?_eq_getElem hl, Option.getD_some]
  exact List.getElem_mem hl
theorem idx_nameAt {st : Fam} (nd : st.nm.Nodup) {o : Int} (h0 : 0 ≤ o) (h1 : o < st.nm.length) : ((st.nm.idxOf (st.nameAt o) : Nat) : Int) = o := by
  unfold Fam.nameAt
  rw [if_neg (by omega)]
  have hl : o.toNat < st.nm.length := by omega
  simp only [List.getD, List.getElem?_eq_getElem hl, Option.getD_some]
  rw [nd.idxOf_getElem _ hl]; omega
theorem nameAt_inj {st : Fam} (nd : st.nm.Nodup) {o p : Int} (h0 : 0 ≤ o) (h1 : o < st.nm.length) (p0 : 0 ≤ p) (p1 : p < st.nm.length) : (st.nameAt o == st.nameAt p) = (o == p) := by
  rw [Bool.eq_iff_iff]
  simp only [beq_iff_eq]
  refine ⟨fun e => ?_, fun e => by rw [e]⟩
  rw [← idx_nameAt nd h0 h1, ← idx_nameAt nd p0 p1, e]
theorem asc_zipIdx {α : Type} (f : Nat → α) (nm : List Str) (x : Str) (k : Nat) : asc ((nm.zipIdx k).map fun p => (p.1, f p.2)) x = if nm.contains x then some (f (nm.idxOf x + k)) else none := by
  induction nm generalizing k with
  | nil => rfl
  | cons n r ih =>
    simp only [List.zipIdx_cons, List.map_cons, asc, List.find?_cons]
    by_cases h : (n == x) = true
    · have : n = x := by simpa using h
      subst this
      simp
    · have hne : ¬ n = x := by simpa using h
      have hne' : ¬ x = n := fun e => hne e.symm
      have := ih (k + 1)
      simp only [asc] at this
      simp only [h, Bool.false_eq_true, this]
      simp only [List.contains_cons, List.idxOf_cons]
      have h2 : (x == n) = false := by simpa using hne'
      have h3 : (n == x) = false := by simpa using hne
      simp only [h2, h3, Bool.false_or]
      by_cases hc : r.contains x = true
      · simp only [hc, if_true]; congr 2; simp only [cond_false]; omega
      · simp only [hc]; rfl
theorem asc_par (st : Fam) (x : Str) : asc st.par x = if st.nm.contains x then some (st.nameAt (st.ps.getD (st.nm.idxOf x) 0)) else none := by
  have := asc_zipIdx (fun i => st.nameAt (st.ps.getD i 0)) st.nm x 0
  simpa [Fam.par] using this
theorem has_par (st : Fam) (x : Str) : (asc st.par x).isSome = st.nm.contains x := by
  rw [asc_par]; split
  · rename_i h; rw [h]; rfl
  · rename_i h; simp at h ⊢; exact h
theorem nameAt_nm {st st' : Fam} (hn : st.nm = st'.nm) (o : Int) : st.nameAt o = st'.nameAt o := by unfold Fam.nameAt; rw [hn]
theorem par_placed {st : Fam} (G : Good st) (x : Str) : (st.placed x).par = setd st.par x := by
  unfold setd
  rw [has_par]
  split
  · rename_i h; rw [placed_has h]
  · rename_i h
    have h' : st.nm.contains x = false := by simpa using h
    rw [placed_not h']
    unfold putA
    rw [any_asc, has_par, if_neg h]
    unfold Fam.par
    simp only [List.zipIdx_append, List.map_append]
    have e1 : ∀ p : Str × Nat, p ∈ st.nm.zipIdx → (p.1, (⟨st.nm ++ [x], st.ns ++ [0], st.ps ++ [-1]⟩ : Fam).nameAt ((st.ps ++ [-1]).getD p.2 0)) = (p.1, st.nameAt (st.ps.getD p.2 0)) := by
      intro p hp
      have hlt : p.2 < st.nm.length := (List.mem_zipIdx' hp).1
      have hps : p.2 < st.ps.length := by rw [G.e2]; exact hlt
      rw [getD_app _ _ _ hps]
      have hr := G.rng (st.ps.getD p.2 0) (by simp only [List.getD, List.getElem?_eq_getElem hps, Option.getD_some]; exact List.getElem_mem hps)
      unfold Fam.nameAt
      generalize st.ps.getD p.2 0 = v at hr ⊢
      split
      · rfl
      · have : v.toNat < st.nm.length := by omega
        simp only [List.getD, List.getElem?_append_left this]
    rw [List.map_congr_left e1]
    congr 1
    simp only [List.zipIdx_cons, List.zipIdx_nil, List.map_cons, List.map_nil, Nat.zero_add]
    have : (st.ps ++ [(-1 : Int)]).getD st.nm.length 0 = -1 := by rw [← G.e2]; simp [List.getD]
    rw [this]; rfl
theorem par_set {st : Fam} (G : Good st) {kid : Nat} (hk : kid < st.nm.length) (v : Int) : (⟨st.nm, st.ns, st.ps.set kid v⟩ : Fam).par = putA st.par (st.nameAt kid) (st.nameAt v) := by
  have hm := nameAt_mem (st := st) (o := (kid : Int)) (by omega) (by omega)
  unfold putA
  rw [any_asc, has_par, if_pos (by simpa using hm)]
  unfold Fam.par
  rw [List.map_map]
  apply List.map_congr_left
  intro p hp
  have hlt : p.2 < st.nm.length := (List.mem_zipIdx' hp).1
  have h1 : p.1 = st.nm[p.2] := (List.mem_zipIdx' hp).2
  have hps : kid < st.ps.length := by rw [G.e2]; exact hk
  have e : p.1 = st.nameAt (p.2 : Int) := by
    unfold Fam.nameAt
    rw [if_neg (by omega), h1]
    simp [List.getD, List.getElem?_eq_getElem hlt]
  simp only [Function.comp]
  rw [getD_set]
  have hb : (p.1 == st.nameAt kid) = ((p.2 : Int) == (kid : Int)) := by rw [e]; exact nameAt_inj G.nd (by omega) (by omega) (by omega) (by omega)
  rw [hb]
  by_cases q : p.2 = kid
  · have q' : ((p.2 : Int) == (kid : Int)) = true := by simp [q]
    rw [if_pos ⟨q, hps⟩, if_pos q']
    rfl
  · have q' : ¬ ((p.2 : Int) == (kid : Int)) = true := by simp; omega
    rw [if_neg (fun h => q h.1), if_neg q']
    rfl
theorem par_num (st : Fam) (i : Nat) (n : Int) : (st.num i n).par = st.par := rfl
theorem par_cut {st : Fam} (G : Good st) {kid : Nat} (hk : kid < st.nm.length) : (st.cut kid).par = putA st.par (st.nameAt kid) (Str.ofString "") := par_set G hk (-1)
theorem Ends.neg {ps : List Int} {o : Int} (h : Ends ps o 0) : o < 0 := by
  cases h with | stop hs => omega
/-- the way up in the table is the chain of places -/
theorem way_chain {st : Fam} (G : Good st) (ne : ∀ x ∈ st.nm, x ≠ Str.ofString "") : ∀ (k : Nat) {o : Int}, Ends st.ps o k → 0 ≤ o → o < st.nm.length → ∀ f F, k ≤ f + 1 → k ≤ F → wayF st.par f (st.nameAt o) = (chain st.ps F o).map st.nameAt := by
  intro k
  induction k with
  | zero => intro o h h0 _; cases h with | stop hs => exfalso; omega
  | succ k ih =>
    intro o h h0 h1 f F hf hF
    cases h with
    | step a b c d =>
      obtain ⟨F, rfl⟩ : ∃ F', F = F' + 1 := ⟨F - 1, by omega⟩
      have hasc : asc st.par (st.nameAt o) = some (st.nameAt (st.ps.getD o.toNat 0)) := by
        rw [asc_par, if_pos (by simpa using nameAt_mem h0 h1)]
        have := idx_nameAt G.nd h0 h1
        have e : st.nm.idxOf (st.nameAt o) = o.toNat := by omega
        rw [e]
      have hps : o.toNat < st.ps.length := by omega
      have hr := G.rng (st.ps.getD o.toNat 0) (by simp only [List.getD, List.getElem?_eq_getElem hps, Option.getD_some]; exact List.getElem_mem hps)
      unfold chain
      rw [if_neg (by omega), List.map_cons]
      by_cases q : st.ps.getD o.toNat 0 < 0
      · have hc : chain st.ps F (st.ps.getD o.toNat 0) = [] := by
          cases F with
          | zero => rfl
          | succ F => unfold chain; rw [if_pos q]
        rw [hc]
        cases f with
        | zero => rfl
        | succ f =>
          show (match asc st.par (st.nameAt o) with | some p => if p == Str.ofString "" then [st.nameAt o] else st.nameAt o :: wayF st.par f p | none => [st.nameAt o]) = _
          rw [hasc]
          have : st.nameAt (st.ps.getD o.toNat 0) = Str.ofString "" := by rw [Fam.nameAt, if_pos q]
          rw [this]; simp
      · have hk : ∃ k', k = k' + 1 := by
          cases k with
          | zero => exact absurd (Ends.neg d) q
          | succ k => exact ⟨k, rfl⟩
        obtain ⟨k', rfl⟩ := hk
        obtain ⟨f, rfl⟩ : ∃ f', f = f' + 1 := ⟨f - 1, by omega⟩
        show (match asc st.par (st.nameAt o) with | some p => if p == Str.ofString "" then [st.nameAt o] else st.nameAt o :: wayF st.par f p | none => [st.nameAt o]) = _
        rw [hasc]
        have hne : (st.nameAt (st.ps.getD o.toNat 0) == Str.ofString "") = false := by simpa using ne _ (nameAt_mem (by omega) hr.2)
        simp only [hne, Bool.false_eq_true, if_false]
        rw [ih d (by omega) hr.2 f F (by omega) (by omega)]
theorem way_chn {st : Fam} (G : Good st) (ne : ∀ x ∈ st.nm, x ≠ Str.ofString "") (hz : st.nm.length ≤ 20) {o : Int} (h0 : 0 ≤ o) (h1 : o < st.nm.length) : way st.par (st.nameAt o) = (st.chn o).map st.nameAt := by
  obtain ⟨k, hk⟩ := G.ends h0 h1
  have := Ends.le hk
  have := G.e2
  exact way_chain G ne k hk h0 h1 19 _ (by omega) (by omega)
theorem chn_mem {st : Fam} (G : Good st) {o : Int} (h0 : 0 ≤ o) (h1 : o < st.nm.length) : ∀ p ∈ st.chn o, 0 ≤ p ∧ p < st.nm.length := by
  obtain ⟨k, hk⟩ := G.ends h0 h1
  intro p hp
  have := (Ends.chain_lt hk _ p hp).1
  have := G.e2
  omega
theorem way_contains {st : Fam} (G : Good st) (ne : ∀ x ∈ st.nm, x ≠ Str.ofString "") (hz : st.nm.length ≤ 20) {o p : Int} (h0 : 0 ≤ o) (h1 : o < st.nm.length) (p0 : 0 ≤ p) (p1 : p < st.nm.length) :
    (way st.par (st.nameAt o)).contains (st.nameAt p) = (st.chn o).contains p := by
  rw [way_chn G ne hz h0 h1]
  have key : ∀ l : List Int, (∀ q ∈ l, 0 ≤ q ∧ q < st.nm.length) → (l.map st.nameAt).contains (st.nameAt p) = l.contains p := by
    intro l
    induction l with
    | nil => intro _; rfl
    | cons q r ih =>
      intro h
      simp only [List.map_cons, List.contains_cons]
      rw [ih (fun q hq => h q (.tail _ hq)), nameAt_inj G.nd p0 p1 (h q (.head _)).1 (h q (.head _)).2]
  exact key _ (chn_mem G h0 h1)
theorem par_join {st : Fam} (G : Good st) (ne : ∀ x ∈ st.nm, x ≠ Str.ofString "") (hz : st.nm.length ≤ 20) {parent kid : Int} (h0 : 0 ≤ parent) (h1 : parent < st.nm.length) (p0 : 0 ≤ kid) (p1 : kid < st.nm.length) :
    (st.join parent kid).par = if (way st.par (st.nameAt parent)).contains (st.nameAt kid) then st.par else putA st.par (st.nameAt kid) (st.nameAt parent) := by
  rw [way_contains G ne hz h0 h1 p0 p1]
  unfold Fam.join
  split
  · rfl
  · have := par_set G (kid := kid.toNat) (by omega) parent
    rw [this, Int.toNat_of_nonneg p0]
theorem way_len_par {st : Fam} (G : Good st) (ne : ∀ x ∈ st.nm, x ≠ Str.ofString "") (hz : st.nm.length ≤ 20) {x : Str} (h : st.nm.contains x = true) : (way st.par x).length ≤ st.par.length := by
  have hl : st.nm.idxOf x < st.nm.length := List.idxOf_lt_length_iff.mpr (by simpa using h)
  have := way_chn G ne hz (o := (st.nm.idxOf x : Nat)) (by omega) (by omega)
  rw [nameAt_idx h] at this
  rw [this, List.length_map, Fam.par_length]
  obtain ⟨k, hk⟩ := G.ends (o := (st.nm.idxOf x : Nat)) (by omega) (by omega)
  have h2 := Ends.le hk
  have h3 := G.e2
  unfold Fam.chn
  rw [Ends.chain_len hk _ (by omega)]; omega
theorem closed_par {st : Fam} (G : Good st) : Closed st.par := by
  intro x p h
  rw [asc_par] at h
  split at h
  · rename_i hc
    have hl : st.nm.idxOf x < st.nm.length := List.idxOf_lt_length_iff.mpr (by simpa using hc)
    have hps : st.nm.idxOf x < st.ps.length := by rw [G.e2]; exact hl
    have hr := G.rng (st.ps.getD (st.nm.idxOf x) 0) (by simp only [List.getD, List.getElem?_eq_getElem hps, Option.getD_some]; exact List.getElem_mem hps)
    have e := Option.some.inj h
    by_cases q : st.ps.getD (st.nm.idxOf x) 0 < 0
    · left; rw [← e, Fam.nameAt, if_pos q]
    · right; rw [has_par, ← e]; simpa using nameAt_mem (by omega) hr.2
  · cases h

section
variable {prog : Program} {w : World} {A : Around} {E : Value → Shared → Prop} {s : Shared} {env : Env} {body : List Stmt} {Q : Flow → Shared → Prop}
/-- a for over a dict that stays as it is -/
theorem for_dict {target : Expr} {K : Type} [DecidableEq K] {knd : PySem.KeyKind prog w K} {kvs : List (K × Value)} {d : Addr} {od : Obj} (hh : A.handled = none) (hlo : (d == sysModules) = false) (hd : s.heap.get? d = some od) (hdo : od.IsDictOf knd kvs) (J : Nat → Heap → Prop)
    (start : ∀ it, it.cls = .type "dict_keyiterator" → J 0 (s.heap.push it))
    (stable : ∀ i h h', J i h → Off [s.heap.objs.size] h h' → J i h')
    (stays : ∀ i h, J i h → h.get? d = some od)
    (step : ∀ i k y v h tk it, kvs[i]? = some (k, y) → knd.is k v = true → it.cls = .type "dict_keyiterator" → h.get? s.heap.objs.size = some it → J i h →
      wpAny (model prog w) A (assign target env v) (fun _ s₃ => wpAny (model prog w) A (execs body env) (fun f s₄ => match f with
        | .next | .cont => Hold (∃ h' tk', s₄ = { s with heap := h', toks := tk' } ∧ h'.get? s.heap.objs.size = some it ∧ J (i + 1) h')
        | .brk => Q .next s₄
        | .ret v => Q (.ret v) s₄) (fun _ _ => False) s₃) (fun _ _ => False) { s with heap := h, toks := tk })
    (done : ∀ h tk, J kvs.length h → Q .next { s with heap := h, toks := tk }) :
    wpAny (model prog w) A (pyIter (.ref d)) (fun it s₂ => codeAny (model prog w) A (.forLoop target it body [] env) (fun r s' => match r with | .ok f => Q f s' | .error e => cameBackBy (model prog w) A env E e s') s₂) E s := by
  obtain ⟨ep, hat⟩ : ∃ ep, s.heap.DictAt knd d kvs ep := by
    obtain ⟨o, es, ep, ho, r⟩ := Heap.dictOf_iff.mpr ⟨od, hd, hdo⟩
    exact ⟨ep, o, es, ho, r⟩
  have hlt : d < s.heap.objs.size := Heap.lt_size hd
  refine wpAny_pyIter_dict hlo hat ?_
  have W := KTurns.ofWalks (target := target) (Walks.addKeep (Walks.dictKeys (prog := prog) (w := w) (knd := knd) hh s.heap.objs.size d (Nat.ne_of_lt hlt) kvs ep) (d := d) (od := od) (by simp) (by simp; exact Nat.ne_of_lt hlt)) fun i v s Q E st q => letGo_keyiter st.1.1 q
  refine for_turns' W J ⟨⟨⟨_, Heap.get?_push_size _ rfl, rfl, rfl⟩, hat.push _⟩, Heap.get?_push_of_some _ hd⟩ (start _ rfl) stable (fun i v h tk hi hP hst hJ => ?_) done
  obtain ⟨k, y, hk, hkv⟩ := hP
  obtain ⟨it, hit, hic, hid⟩ := hst.1.1
  refine wpAny_mono (step i k y v h tk it hk hkv hic hit hJ) (fun _ s₂ h₂ => wpAny_mono h₂ (fun f s₃ h₃ => ?_) fun _ _ e => e) fun _ _ e => e
  have key : Hold (∃ h' tk', s₃ = { s with heap := h', toks := tk' } ∧ h'.get? s.heap.objs.size = some it ∧ J (i + 1) h') →
      Hold (∃ h'' tk', s₃ = { s with heap := h'', toks := tk' } ∧ (∀ b' ∈ [s.heap.objs.size, d], ∀ o, h.get? b' = some o → h''.get? b' = some o) ∧ J (i + 1) h'') := by
    rintro ⟨h', tk', e, a, b⟩
    refine ⟨h', tk', e, fun b' hb o ho => ?_, b⟩
    have hb' : b' = s.heap.objs.size ∨ b' = d := by simpa using hb
    rcases hb' with rfl | rfl
    · rw [hit] at ho; rw [a]; exact ho
    · rw [stays _ _ hJ] at ho; rw [stays _ _ b]; exact ho
  cases f with
  | next => exact key h₃
  | cont => exact key h₃
  | brk => exact h₃
  | ret v => exact h₃
end
section
variable {prog : Program} {w : World} {A : Around} {E : Value → Shared → Prop} {s : Shared} {h₀ : Heap} {L : Addr} {m : Str → Option Value} {env : Env}
/-- a comprehension over a list of the ledger -/
theorem comp_list {elt iter : Expr} {x : Str} {px : Pos} {scope : Scope} {cl : List (Str × Addr)} {pos : Pos} {Q : Value → Shared → Prop} (hh : A.handled = none)
    (h : wpAny (model prog w) A (eval iter env) (fun xv s₁ => ∃ d vs n l, ∃ J : Nat → List Value → List (Addr × Obj) → Prop, xv = .ref d ∧ Fr h₀ L s₁.heap m ∧ News h₀ L s₁.heap l ∧ (d, listO vs n) ∈ l ∧ vs.length ≤ sizeLine ∧ J 0 [] [] ∧
      (∀ g, CompTurn prog w A h₀ L m env elt x scope cl { s₁ with heap := g } l (fun i v => vs[i]? = some v) J) ∧
      (∀ D h tk ys tups, Fr h₀ L h m → News h₀ L h ((D, LCg.lst ys) :: (l ++ tups)) → LCg.Off1 D (l ++ tups) → J vs.length ys tups → Q (.ref D) { s₁ with heap := h, toks := tk })) E s)
    (hclos : closureFor scope env = pure cl) (hcell : ∀ y ∈ scope.names, y.2 ≠ .cell) (hkind : scope.kind = .function)
    (hnames : ∀ y ∈ scope.names, y.2 = .local → scope.names.lookup y.1 = some .local) (hx : scope.names.lookup x = some .local)
    (hs : ∀ x, foldedSetIterable iter env x = pure x := by intro _; rfl) :
    wpAny (model prog w) A (eval (.ListComp elt [⟨.Name x px, iter, [], 0⟩] scope pos) env) Q E s := by
  rw [eval_ListComp]
  refine wpAny_comprehension_free (use := none) rfl hs hclos hkind hnames (wpAny_mono h (fun xv s₁ h₁ => ?_) fun _ _ e => e)
  obtain ⟨d, vs, n, l, J, rfl, F, N, hdm, hsz, j0, step, fin⟩ := h₁
  have hd := (N _ hdm).1
  have hil : s₁.heap.IsList d vs.toArray := ⟨_, hd, rfl, n, rfl⟩
  have hlt : d < s₁.heap.objs.size := Heap.lt_size hd
  refine wpAny_pyIter_list hil ?_
  have up : ∀ b o (x : Obj), s₁.heap.get? b = some o → (s₁.heap.push x).get? b = some o := fun b o _ e => Heap.get?_push_of_some _ e
  have W := Walks.addKeep (Walks.list (prog := prog) (w := w) hh s₁.heap.objs.size d (Nat.ne_of_lt hlt) vs.toArray) (od := listO vs n) (d := d) (by simp) (by simp; exact Nat.ne_of_lt hlt)
  have e : vs.toArray.size = vs.length := by simp
  rw [e] at W
  refine LCg.block_U (S := fun nw => ∃ tups, nw = l ++ tups) (Fin := fun ys news => ∃ tups, news = l ++ tups ∧ J vs.length ys tups) W hsz (fun i h st => by obtain ⟨o, e, _⟩ := st.1.1; exact ⟨o, e⟩) ?_ hcell hkind hx
    ⟨⟨⟨_, Heap.get?_push_size _ rfl, rfl, rfl⟩, hil.push _⟩, up _ _ _ hd⟩ (fun b hb => ?_)
    (F.keeps (up · · _)) (N.grown (up · · _)) (Nat.ne_of_lt F.ns.lt) (next_is_new F) (fun p hp => Nat.ne_of_lt (Heap.lt_size (N p hp).1)) ⟨[], by simp⟩ ?_ ?_
  · intro i h h' o nw st e e' k N' hS
    obtain ⟨tups, rfl⟩ := hS
    have hd' := (N' _ (List.mem_append_left _ hdm)).1
    refine ⟨⟨?_, ?_⟩, hd'⟩
    · obtain ⟨o', q, r⟩ := st.1.1; rw [e] at q; cases q; exact ⟨o, e', r⟩
    · exact ⟨_, hd', rfl, n, rfl⟩
  · show b < (s₁.heap.push _).objs.size
    rw [Heap.size_push]
    rcases List.mem_cons.mp hb with rfl | hb
    · exact Nat.lt_succ_self _
    · rw [List.mem_singleton.mp hb]; exact Nat.lt_succ_of_lt hlt
  · have := comp_rest (S := fun nw => ∃ tups, nw = l ++ tups) (Fin := fun ys news => ∃ tups, news = l ++ tups ∧ J vs.length ys tups) (n := vs.length) (P := fun i v => vs.toArray[i]? = some v) (fun tups => ⟨tups, rfl⟩) (fun i v I oI C oC D m₂ h tk ys tups E' hv => step (s₁.heap.push { cls := .type "list_iterator", data := .fields #[.ref d, .int 0 0] }) i v I oI C oC D m₂ h tk ys tups E' (by simpa using hv)) (fun ys tups j => ⟨tups, rfl, j⟩) vs.length 0 [] [] rfl j0
    rw [List.append_nil] at this
    exact this
  · intro D C h' tk m' ys news' F' N' o1 hn hC₀ hD₀ hCL hDL hCD offC hfin
    obtain ⟨tups, rfl, j⟩ := hfin
    refine ⟨m', hn, fun h'' hs'' => fin D h'' tk ys tups (F'.change hs'' hCL hC₀) (fun p hp => ?_) o1 j⟩
    refine ⟨hs''.extBut _ _ ?_ (N' p hp).1, (N' p hp).2⟩
    rcases List.mem_cons.mp hp with rfl | hp
    · exact Ne.symm hCD
    · exact offC p hp
end

theorem strs_of_keys {prog : Program} {w : World} {kvs : List (Str × Value)} {vs : List Value} (hl : vs.length = kvs.length) (hv : ∀ (j : Nat) (v : Value), vs[j]? = some v → ∃ k x, kvs[j]? = some (k, x) ∧ (PySem.strKind prog w).is k v = true) : StrsAre vs (kvs.map (·.1)) := by
  induction kvs generalizing vs with
  | nil => cases vs with
    | nil => exact .nil
    | cons _ _ => simp at hl
  | cons p r ih =>
    cases vs with
    | nil => simp at hl
    | cons v t =>
      obtain ⟨k, x, hk, hkv⟩ := hv 0 v rfl
      obtain ⟨tt, rfl⟩ := Value.isStrOf_shape hkv
      simp at hk
      subst hk
      exact .cons _ _ (ih (by simpa using hl) fun j v h => hv (j + 1) v h)
theorem keys_of_flat {kvs : List (Str × Value)} {D : List (PyData × PyData)} (hf : FlatPairs PyData.str kvs D) : ∀ {l : List Str}, D.map (·.1) = l.map PyData.str → kvs.map (·.1) = l := by
  induction hf with
  | nil => intro l h; cases l with
    | nil => rfl
    | cons _ _ => simp at h
  | cons _ _ ih =>
    intro l h
    cases l with
    | nil => simp at h
    | cons a r =>
      simp only [List.map_cons, List.cons.injEq] at h ⊢
      obtain ⟨h1, h2⟩ := h
      injection h1 with h1
      exact ⟨h1, ih h2⟩
section
variable {prog : Program} {w : World} {A : Around} {E : Value → Shared → Prop} {s : Shared} {h₀ : Heap} {L d : Addr} {m : Str → Option Value} {news : List (Addr × Obj)} {od : Obj} {kvs : List (Str × Value)} {Q : Value → Shared → Prop}
theorem sorted_dict (hh : A.handled = none) (F : Fr h₀ L s.heap m) (N : News h₀ L s.heap news) (hm : (d, od) ∈ news) (hdo : od.IsDictOf (PySem.strKind prog w) kvs) (hlo : (d == sysModules) = false) (h64 : kvs.length < 64)
    (h : ∀ c vs ss e h' tk, Fr h₀ L h' m → News h₀ L h' ((c, listO vs e) :: news) → (∀ q ∈ news, q.1 < c) → StrsAre vs ss → ss.Perm (kvs.map (·.1)) → sortedS ss = true → Q (.ref c) { s with heap := h', toks := tk }) :
    wpAny (model prog w) A (call (.builtin "sorted") [.ref d]) Q E s := by
  obtain ⟨ep, hat⟩ : ∃ ep, s.heap.DictAt (PySem.strKind prog w) d kvs ep := by
    obtain ⟨o, es, ep, ho, r⟩ := Heap.dictOf_iff.mpr ⟨od, (N _ hm).1, hdo⟩
    exact ⟨ep, o, es, ho, r⟩
  refine kdu_sorted (kdl_dict (knd := PySem.strKind prog w) (kvs := kvs) (ep := ep) hlo) hh F N hat (by rw [sizeLine_eq]; omega) fun D h' tk vs F' N' l1 hl hv => ?_
  have hS := strs_of_keys hl hv
  have hD := N' _ (.head _)
  refine wpAny_call_entry slot_list_sort ⟨_, hD.1, rfl⟩ entry_list_sort (list_sort_treeK (κ := PyProof.Rows.strKind) strKind_oneLt (vs := vs) (n := 0) hD.1 hS.keysOf (fun v₁ v₂ rest e => keyKind_strs (by rw [← e]; exact hS)) (by omega) fun st' a1 a2 => ⟨_, rfl, ?_⟩) (args_list_sort _)
  obtain ⟨ss, b1, b2, b3⟩ := sorted_out_str hS a1 a2
  obtain ⟨e, he⟩ := sortedHeap_at (vs := vs) (out := (arrOf st').map (·.2)) hD.1
  have old : ∀ b o, b ≠ D → h'.get? b = some o → (sortedHeap h' D vs ((arrOf st').map (·.2))).get? b = some o := fun b o hb hbo => by
    rw [sortedHeap_old hb (Heap.lt_size hbo)]; exact hbo
  obtain ⟨oL, q1, q2, hLo, q3⟩ := F'.ns
  have F2 : Fr h₀ L (sortedHeap h' D vs ((arrOf st').map (·.2))) m := ⟨⟨oL, q1, q2, old _ _ (Ne.symm hD.2.1) hLo, q3⟩, fun b o e => old b o (fun x => by rw [x, hD.2.2] at e; cases e) (F'.keep b o e), F'.above⟩
  refine h D _ ss e _ tk F2 (fun p hp => ?_) l1 b1 b2 b3
  rcases List.mem_cons.mp hp with rfl | hp
  · exact ⟨by show _ = some (seqObj "list" _ e); rw [Array.toArray_toList]; exact he, hD.2⟩
  · exact ⟨old _ _ (Nat.ne_of_lt (l1 p hp)) (N' p (.tail _ hp)).1, (N' p (.tail _ hp)).2⟩
end
theorem lt_total {a b : List Nat} (h : ltCps a b = false) (h' : ltCps b a = false) : a = b := by
  rw [ltCps_eq] at h h'
  have h1 : ¬ a < b := by simpa using h
  have h2 : ¬ b < a := by simpa using h'
  exact List.le_antisymm (List.not_lt.mp h2) (List.not_lt.mp h1)
theorem lt_chain {a b c : List Nat} (h : ltCps b a = false) (h' : ltCps c b = false) : ltCps c a = false := by
  rw [ltCps_eq] at h h' ⊢
  have h1 : ¬ b < a := by simpa using h
  have h2 : ¬ c < b := by simpa using h'
  have : ¬ c < a := List.not_lt.mpr (List.le_trans (List.not_lt.mp h1) (List.not_lt.mp h2))
  simpa using this
theorem rising_all : ∀ (l : List Str) (p : Str), risingS p l = true → ∀ x ∈ l, ltCps x.cps.toList p.cps.toList = false
  | [], _, _, x, hx => nomatch hx
  | y :: r, p, h, x, hx => by
    have h' : (!ltCps y.cps.toList p.cps.toList && risingS y r) = true := h
    simp only [Bool.and_eq_true, Bool.not_eq_true'] at h'
    rcases List.mem_cons.mp hx with rfl | hx
    · exact h'.1
    · exact lt_chain h'.1 (rising_all r y h'.2 x hx)
theorem sorted_head {p : Str} {l : List Str} (h : sortedS (p :: l) = true) : ∀ x ∈ l, ltCps x.cps.toList p.cps.toList = false := rising_all l p h
theorem sorted_tail {p : Str} {l : List Str} (h : sortedS (p :: l) = true) : sortedS l = true := by
  cases l with
  | nil => rfl
  | cons y r =>
    have h' : (!ltCps y.cps.toList p.cps.toList && risingS y r) = true := h
    simp only [Bool.and_eq_true] at h'
    exact h'.2
theorem str_ext {a b : Str} (h : a.cps.toList = b.cps.toList) : a = b := by
  obtain ⟨⟨a⟩⟩ := a
  obtain ⟨⟨b⟩⟩ := b
  simp at h
  subst h; rfl
theorem sorted_unique : ∀ (l l' : List Str), l.Perm l' → sortedS l = true → sortedS l' = true → l = l'
  | [], l', hp, _, _ => by simpa using hp.symm
  | x :: r, [], hp, _, _ => by simp at hp
  | x :: r, y :: t, hp, h, h' => by
    have e : x = y := by
      have hx : x ∈ y :: t := hp.mem_iff.mp (.head _)
      have hy : y ∈ x :: r := hp.mem_iff.mpr (.head _)
      rcases List.mem_cons.mp hx with e | hx
      · exact e
      · rcases List.mem_cons.mp hy with e | hy
        · exact e.symm
        · exact str_ext (lt_total (sorted_head h' x hx) (sorted_head h y hy))
    subst e
    rw [sorted_unique r t (List.Perm.cons_inv hp) (sorted_tail h) (sorted_tail h')]
/-- two tables with the same data -/
theorem rows_same {D : List (PyData × PyData)} : ∀ (l : List (Str × Str)), (∀ p ∈ l, Spec.lookup (.str p.1) D = some (.str p.2)) → KeqRows D (encS l) true
  | [], _ => .nil
  | (n, v) :: r, h => by
    have := KeqRows.hit (Db := D) (k := .str n) (v := .str v) (u := .str v) (h (n, v) (.head _)) (rows_same r fun p hp => h p (.tail _ hp))
    have e : (PyData.eqv (.str v) (.str v) && true) = true := by simp [PyData.eqv]
    rw [e] at this
    exact this
theorem asc_mem {l : List (Str × Str)} (hn : (l.map (·.1)).Nodup) : ∀ p ∈ l, asc l p.1 = some p.2 := by
  induction l with
  | nil => intro p hp; cases hp
  | cons q r ih =>
    intro p hp
    simp only [List.map_cons, List.nodup_cons] at hn
    unfold asc at ih ⊢
    rw [List.find?_cons]
    rcases List.mem_cons.mp hp with rfl | hp
    · simp
    · have : (q.1 == p.1) = false := by
        simp only [beq_eq_false_iff_ne, ne_eq]
        intro e
        exact hn.1 (e ▸ List.mem_map_of_mem hp)
      simp only [this]
      exact ih hn.2 p hp
section
variable {w : World} {A : Around} {E : Value → Shared → Prop} {s : Shared} {h₀ : Heap} {L a b : Addr} {news : List (Addr × Obj)} {oa ob : Obj} {ka kb : List (Str × Value)} {up : List (Str × Str)} {Q : Value → Shared → Prop}
theorem rows_up (hn : (up.map (·.1)).Nodup) : KeqRows (encS up) (encS up) true := rows_same up fun p hp => by rw [lookup_encS, asc_mem hn p hp]; rfl
theorem ne_up (N : News h₀ L s.heap news) (pa : (a, oa) ∈ news) (pb : (b, ob) ∈ news) (da : oa.IsDictOf (PySem.strKind PR w) ka) (db : ob.IsDictOf (PySem.strKind PR w) kb) (la : (a == sysModules) = false) (lb : (b == sysModules) = false)
    (fa : FlatPairs PyData.str ka (encS up)) (fb : FlatPairs PyData.str kb (encS up)) (hn : (up.map (·.1)).Nodup) (hu : A.units < cLine) (h : Q (.bool false) s) : wpAny (model PR w) A (compareOp .NotEq (.ref a) (.ref b)) Q E s :=
  kne_pairs N pa pb da db la lb (by rw [← fa.length, ← fb.length]) hu ((rows_up hn).hits PyProof.V.same_str fb fa) h
theorem eq_up (N : News h₀ L s.heap news) (pa : (a, oa) ∈ news) (pb : (b, ob) ∈ news) (da : oa.IsDictOf (PySem.strKind PR w) ka) (db : ob.IsDictOf (PySem.strKind PR w) kb) (la : (a == sysModules) = false) (lb : (b == sysModules) = false)
    (fa : FlatPairs PyData.str ka (encS up)) (fb : FlatPairs PyData.str kb (encS up)) (hn : (up.map (·.1)).Nodup) (hu : A.units < cLine) (h : Q (.bool true) s) : wpAny (model PR w) A (compareOp .Eq (.ref a) (.ref b)) Q E s :=
  keq_pairs N pa pb da db la lb (by rw [← fa.length, ← fb.length]) hu ((rows_up hn).hits PyProof.V.same_str fb fa) h
end
/-- the letters' objects, as a ledger -/
theorem LettersAt.tups {h base : Heap} {rw : Addr} {vs : List Value} {nv : Nat} {ls : List Letter} (H : LettersAt h base rw vs nv ls) :
    ∃ tups, LetsIn tups vs ls ∧ (∀ p ∈ tups, h.get? p.1 = some p.2 ∧ base.get? p.1 = none ∧ ∃ xs n, p.2.data = .seq xs n) := by
  have key : ∀ k, k ≤ ls.length → ∃ tups : List (Addr × Obj), (∀ (i : Nat) (lt : Letter), i < k → ls[i]? = some lt → ∃ (T rl : Addr) (t u : Tok) (n1 n2 : Nat) (vr : List Value), vs[i]? = some (Value.ref T) ∧ (T, tupO [Value.int lt.n t, Value.str lt.own u, Value.ref rl] n1) ∈ tups ∧ (rl, listO vr n2) ∈ tups ∧ StrsAre vr lt.refs) ∧
      (∀ p ∈ tups, h.get? p.1 = some p.2 ∧ base.get? p.1 = none ∧ ∃ xs n, p.2.data = .seq xs n) := by
    intro k
    induction k with
    | zero => intro _; exact ⟨[], fun i lt hi => absurd hi (Nat.not_lt_zero _), fun p hp => nomatch hp⟩
    | succ k ih =>
      intro hk
      obtain ⟨tups, h1, h2⟩ := ih (by omega)
      obtain ⟨T, rl, t, u, n1, n2, vr, e1, e2, e3, e4, e5, e6⟩ := H.each k ls[k] (List.getElem?_eq_getElem (by omega))
      refine ⟨(T, tupO [Value.int ls[k].n t, Value.str ls[k].own u, Value.ref rl] n1) :: (rl, listO vr n2) :: tups, fun i lt hi he => ?_, fun p hp => ?_⟩
      · by_cases q : i = k
        · subst q
          rw [List.getElem?_eq_getElem (by omega)] at he
          cases he
          exact ⟨T, rl, t, u, n1, n2, vr, e1, .head _, .tail _ (.head _), e4⟩
        · obtain ⟨T', rl', t', u', m1, m2, vr', a1, a2, a3, a4⟩ := h1 i lt (by omega) he
          exact ⟨T', rl', t', u', m1, m2, vr', a1, .tail _ (.tail _ a2), .tail _ (.tail _ a3), a4⟩
      · rcases List.mem_cons.mp hp with rfl | hp
        · exact ⟨e2, e5, _, _, rfl⟩
        · rcases List.mem_cons.mp hp with rfl | hp
          · exact ⟨e3, e6, _, _, rfl⟩
          · exact h2 p hp
  obtain ⟨tups, h1, h2⟩ := key ls.length (Nat.le_refl _)
  exact ⟨tups, ⟨H.len, fun i lt e => h1 i lt (List.getElem?_eq_some_iff.mp e).1 e⟩, h2⟩
/-- and back -/
theorem LetsIn.at {h g : Heap} {L rw : Addr} {vs : List Value} {nv : Nat} {ls : List Letter} {tups : List (Addr × Obj)} (H : LetsIn tups vs ls) (N : News g L h ((rw, listO vs nv) :: tups)) : LettersAt h g rw vs nv ls :=
  ⟨(N _ (.head _)).1, (N _ (.head _)).2.2, H.1, fun i lt e => by
    obtain ⟨T, rl, t, u, n1, n2, vr, a1, a2, a3, a4⟩ := H.2 i lt e
    exact ⟨T, rl, t, u, n1, n2, vr, a1, (N _ (.tail _ a2)).1, (N _ (.tail _ a3)).1, a4, (N _ (.tail _ a2)).2.2, (N _ (.tail _ a3)).2.2⟩⟩

def heldOf (ls : List Letter) : List (Str × Int) := ls.foldl (fun h a => putA h (mineOf h a.n a.own) a.n) []
structure Fine (st : Fam) (held : List (Str × Int)) : Prop where
  good : Good st
  ne : ∀ x ∈ st.nm, x ≠ Str.ofString ""
  len : st.nm.length ≤ 15
  heldLen : held.length ≤ 15
  held : ∀ x, asc held x = if st.nm.contains x && decide (0 < st.numAt x) then some (st.numAt x) else none
  num : ∀ x, 0 ≤ st.numAt x
/-- all the names there may be -/
def ids : List Str := [idOf 0, idOf 1, idOf 2, idOf 3, idOf 4, idOf 5]
def sharps : List Str := [sharp 1, sharp 2, sharp 3, sharp 4, sharp 5, sharp 6, sharp 7, sharp 8, sharp 9]
theorem idOf_mem {j : Int} (h0 : 0 ≤ j) (h1 : j < 6) : idOf j ∈ ids := by
  have : j = 0 ∨ j = 1 ∨ j = 2 ∨ j = 3 ∨ j = 4 ∨ j = 5 := by omega
  rcases this with rfl | rfl | rfl | rfl | rfl | rfl <;> simp [ids]
theorem sharp_mem {j : Int} (h0 : 1 ≤ j) (h1 : j ≤ 9) : sharp j ∈ sharps := by
  have : j = 1 ∨ j = 2 ∨ j = 3 ∨ j = 4 ∨ j = 5 ∨ j = 6 ∨ j = 7 ∨ j = 8 ∨ j = 9 := by omega
  rcases this with rfl | rfl | rfl | rfl | rfl | rfl | rfl | rfl | rfl <;> simp [sharps]
theorem ids_ok : ∀ x ∈ ids, PyData.strOk x = true := by decide +kernel
theorem ids_ne : ∀ x ∈ ids, x ≠ Str.ofString "" := by decide
theorem sharps_ne : ∀ x ∈ sharps, x ≠ Str.ofString "" := by decide
theorem refsF_mem : ∀ (k : Nat) (r : Int), (refsF k r).length = k ∧ ∀ x ∈ refsF k r, x ∈ ids := by
  intro k
  induction k with
  | zero => intro r; exact ⟨rfl, fun x hx => nomatch hx⟩
  | succ k ih =>
    intro r
    obtain ⟨a, b⟩ := ih (r.fdiv 5)
    refine ⟨by simp [refsF, a], fun x hx => ?_⟩
    rcases List.mem_cons.mp hx with rfl | hx
    · exact idOf_mem (Int.fmod_nonneg_of_pos _ (by omega)) (Int.fmod_lt_of_pos _ (by omega))
    · exact b x hx
theorem letter_facts (i : Nat) (c : Int) (_ : i < 9) : (letterOf i c).n = (i : Int) + 1 ∧ ((letterOf i c).own = Str.ofString "" ∨ (letterOf i c).own ∈ ids) ∧ (letterOf i c).refs.length ≤ 4 ∧ ∀ x ∈ (letterOf i c).refs, x ∈ ids := by
  refine ⟨rfl, ?_, ?_, ?_⟩
  · show (if _ then _ else _) = _ ∨ (if _ then _ else _) ∈ _
    split
    · exact .inr (idOf_mem (Int.fmod_nonneg_of_pos _ (by omega)) (Int.fmod_lt_of_pos _ (by omega)))
    · exact .inl rfl
  · show (refsF _ _).length ≤ 4
    rw [(refsF_mem _ _).1]
    have h0 := Int.fmod_nonneg_of_pos ((absI c).fdiv 6) (b := 5) (by omega)
    have h1 := Int.fmod_lt_of_pos ((absI c).fdiv 6) (b := 5) (by omega)
    omega
  · exact (refsF_mem _ _).2
theorem lettersOf_get {cs : List Int} {i : Nat} {a : Letter} (h : cs.length ≤ 9) (ha : (lettersOf cs)[i]? = some a) : i < 9 ∧ ∃ c, a = letterOf i c := by
  rw [lettersOf_at] at ha
  obtain ⟨c, hc, rfl⟩ := Option.map_eq_some_iff.mp ha
  have := (List.getElem?_eq_some_iff.mp hc).1
  exact ⟨by omega, c, rfl⟩
theorem letters_ok {cs : List Int} (h : cs.length ≤ 9) : LettersOk (lettersOf cs) := by
  refine ⟨by rw [lettersOf_len]; exact h, fun lt hl => ?_⟩
  obtain ⟨i, hi⟩ := List.getElem?_of_mem hl
  obtain ⟨hi9, c, rfl⟩ := lettersOf_get h hi
  obtain ⟨a, _, b, d⟩ := letter_facts i c hi9
  exact ⟨by rw [a]; omega, by rw [a]; omega, b, fun x hx => ids_ok x (d x hx)⟩
theorem step_held {ls : List Letter} {i : Nat} {a : Letter} (ha : ls[i]? = some a) : putA (heldOf (ls.take i)) (mineOf (heldOf (ls.take i)) a.n a.own) a.n = heldOf (ls.take (i + 1)) := by
  unfold heldOf
  rw [foldl_take _ _ _ _ ha]

theorem idx_app {nm t : List Str} {x : Str} (h : x ∈ nm) : (nm ++ t).idxOf x = nm.idxOf x := by
  rw [List.idxOf_append, if_pos h]
theorem placed_nm (st : Fam) (x : Str) : ∃ t, (st.placed x).nm = st.nm ++ t ∧ (st.placed x).ns = st.ns ++ t.map (fun _ => 0) ∧ ∀ y ∈ t, y = x := by
  by_cases h : st.nm.contains x = true
  · rw [placed_has h]; exact ⟨[], by simp, by simp, fun y hy => nomatch hy⟩
  · rw [placed_not (by simpa using h)]; exact ⟨[x], rfl, rfl, fun y hy => by simpa using hy⟩
theorem placed_mem (st : Fam) (x : Str) : x ∈ (st.placed x).nm := by
  by_cases h : st.nm.contains x = true
  · rw [placed_has h]; simpa using h
  · rw [placed_not (by simpa using h)]; simp
theorem numAt_not {st : Fam} (G : Good st) {x : Str} (h : x ∉ st.nm) : st.numAt x = 0 := by
  unfold Fam.numAt
  rw [List.idxOf_eq_length h, ← G.e1]
  simp [List.getD]
theorem numAt_app {nm : List Str} {ns : List Int} (e : ns.length = nm.length) (t : List Str) (ps ps' : List Int) (y : Str) : (⟨nm ++ t, ns ++ t.map (fun _ => 0), ps'⟩ : Fam).numAt y = (⟨nm, ns, ps⟩ : Fam).numAt y := by
  unfold Fam.numAt
  dsimp only
  by_cases h : y ∈ nm
  · rw [idx_app h]
    have hl : nm.idxOf y < nm.length := List.idxOf_lt_length_iff.mpr h
    simp only [List.getD]
    rw [List.getElem?_append_left (by omega)]
  · have h1 : ns.getD (nm.idxOf y) 0 = 0 := by
      rw [List.idxOf_eq_length h, ← e]; simp [List.getD]
    rw [h1]
    have h2 : ∀ k, (ns ++ t.map (fun _ => (0 : Int))).getD (nm.length + k) 0 = 0 := by
      intro k
      simp only [List.getD]
      rw [List.getElem?_append_right (by omega)]
      rw [List.getElem?_map]
      cases t[nm.length + k - ns.length]? <;> rfl
    have h3 : ∃ k, (nm ++ t).idxOf y = nm.length + k := by
      rw [List.idxOf_append, if_neg h]
      exact ⟨t.idxOf y, by omega⟩
    obtain ⟨k, hk⟩ := h3
    rw [hk, h2]
theorem numAt_placed {st : Fam} (G : Good st) (x y : Str) : (st.placed x).numAt y = st.numAt y := by
  obtain ⟨t, e1, e2, _⟩ := placed_nm st x
  have : (st.placed x) = ⟨st.nm ++ t, st.ns ++ t.map (fun _ => 0), (st.placed x).ps⟩ := by rw [← e1, ← e2]
  rw [this]
  exact numAt_app G.e1 t st.ps _ y
theorem numAt_num {st : Fam} (e : st.ns.length = st.nm.length) {x : Str} (h : x ∈ st.nm) (n : Int) (y : Str) : (st.num (st.nm.idxOf x) n).numAt y = if y = x then n else st.numAt y := by
  unfold Fam.num Fam.numAt
  dsimp only
  have hl : st.nm.idxOf x < st.nm.length := List.idxOf_lt_length_iff.mpr h
  rw [getD_set]
  by_cases q : y = x
  · subst q; rw [if_pos ⟨rfl, by omega⟩, if_pos rfl]
  · rw [if_neg q, if_neg]
    rintro ⟨e', _⟩
    by_cases hy : y ∈ st.nm
    · have hly : st.nm.idxOf y < st.nm.length := List.idxOf_lt_length_iff.mpr hy
      have h1 := List.getElem_idxOf hly
      have h2 := List.getElem_idxOf hl
      apply q
      rw [← h1, ← h2]
      congr 1
    · rw [List.idxOf_eq_length hy] at e'; omega
theorem at_eq (st : Fam) (x : Str) : (st.placed x).nm.idxOf x = st.at x := by
  by_cases h : st.nm.contains x = true
  · rw [placed_has h]; rfl
  · have h' : st.nm.contains x = false := by simpa using h
    rw [placed_not h']
    show (st.nm ++ [x]).idxOf x = st.nm.idxOf x
    have : x ∉ st.nm := by simpa using h'
    rw [List.idxOf_append, if_neg this, List.idxOf_eq_length this]; simp
theorem owned_num {st : Fam} (G : Good st) (n : Int) (x y : Str) : (st.owned n x).numAt y = if y = st.ownName n x then n else st.numAt y := by
  unfold Fam.owned
  rw [← at_eq, numAt_num (G.placed _).e1 (placed_mem _ _), numAt_placed G]
theorem join_num (st : Fam) (a b : Int) (y : Str) : (st.join a b).numAt y = st.numAt y := by unfold Fam.join Fam.numAt; split <;> rfl
theorem turn_num {p : Fam × Int} (G : Good p.1) (x y : Str) : (Fam.turn p x).1.numAt y = p.1.numAt y := by
  unfold Fam.turn
  dsimp only
  split
  · rw [join_num, numAt_placed G]
  · rw [numAt_placed G]
theorem turn_nm (p : Fam × Int) (x : Str) : (Fam.turn p x).1.nm = (p.1.placed x).nm := by
  unfold Fam.turn
  dsimp only
  split
  · rw [join_nm]
  · rfl
theorem turns_num (refs : List Str) : ∀ {p : Fam × Int}, TurnOk p → ∀ y, (refs.foldl Fam.turn p).1.numAt y = p.1.numAt y := by
  induction refs with
  | nil => intro p H y; rfl
  | cons x r ih =>
    intro p H y
    rw [List.foldl_cons, ih (turn_ok H x).1, turn_num H.good]
theorem turns_nm (refs : List Str) : ∀ {p : Fam × Int}, ∃ t, (refs.foldl Fam.turn p).1.nm = p.1.nm ++ t ∧ ∀ y ∈ t, y ∈ refs := by
  induction refs with
  | nil => intro p; exact ⟨[], by simp, fun y hy => nomatch hy⟩
  | cons x r ih =>
    intro p
    obtain ⟨t, e, h⟩ := ih (p := Fam.turn p x)
    obtain ⟨t', e', _, h'⟩ := placed_nm p.1 x
    refine ⟨t' ++ t, by rw [List.foldl_cons, e, turn_nm, e', List.append_assoc], fun y hy => ?_⟩
    rcases List.mem_append.mp hy with hy | hy
    · rw [h' y hy]; exact .head _
    · exact .tail _ (h y hy)
theorem ended_num (q : Fam × Int) (own : Nat) (y : Str) : (Fam.ended q own).numAt y = q.1.numAt y := by
  unfold Fam.ended
  split
  · rw [join_num]; rfl
  · rfl
theorem add_num {st : Fam} (G : Good st) (n : Int) (x : Str) (refs : List Str) (y : Str) : (st.add n x refs).numAt y = if y = st.ownName n x then n else st.numAt y := by
  unfold Fam.add
  rw [ended_num]
  unfold Fam.refd
  rw [turns_num refs (owned_ok G n x), owned_num G]
theorem add_names (st : Fam) (n : Int) (x : Str) (refs : List Str) : ∃ t, (st.add n x refs).nm = st.nm ++ t ∧ (∀ y ∈ t, y = st.ownName n x ∨ y ∈ refs) ∧ st.ownName n x ∈ st.nm ++ t := by
  rw [add_nm]
  unfold Fam.refd
  obtain ⟨t, e, h⟩ := turns_nm refs (p := (st.owned n x, -1))
  obtain ⟨t', e', _, h'⟩ := placed_nm st (st.ownName n x)
  have hm := placed_mem st (st.ownName n x)
  have e2 : (st.owned n x).nm = st.nm ++ t' := e'
  refine ⟨t' ++ t, by rw [e]; dsimp only; rw [e2, List.append_assoc], fun y hy => ?_, ?_⟩
  · rcases List.mem_append.mp hy with hy | hy
    · exact .inl (h' y hy)
    · exact .inr (h y hy)
  · rw [← List.append_assoc, ← e']; exact List.mem_append_left _ hm
/-- what is kept from letter to letter -/
structure Inv (st : Fam) (held : List (Str × Int)) (k : Nat) : Prop where
  good : Good st
  names : ∀ x ∈ st.nm, x ∈ ids ++ sharps
  heldLen : held.length ≤ k
  held : ∀ x, asc held x = if 0 < st.numAt x then some (st.numAt x) else none
  num : ∀ x, 0 ≤ st.numAt x
theorem mine_own {st : Fam} {held : List (Str × Int)} {k : Nat} (I : Inv st held k) (n : Int) (own : Str) : mineOf held n own = st.ownName n own := by
  unfold mineOf Fam.ownName
  have h := I.held own
  have hc : (st.nm.contains own && decide (0 < st.numAt own)) = decide (0 < st.numAt own) := by
    by_cases q : own ∈ st.nm
    · have : st.nm.contains own = true := by simpa using q
      rw [this]; simp
    · rw [numAt_not I.good q]; simp
  rw [hc]
  have hs : (asc held own).isSome = decide (0 < st.numAt own) := by rw [h]; split <;> simp [*]
  rw [hs]
  by_cases e : own = Str.ofString ""
  · subst e; simp
  · have e1 : (own == Str.ofString "") = false := by simpa using e
    have e2 : (own != Str.ofString "") = true := by simp [bne, e1]
    rw [e1, e2]
    by_cases q : 0 < st.numAt own <;> simp [q]
theorem own_mem {st : Fam} {n : Int} {own : Str} (h : own = Str.ofString "" ∨ own ∈ ids) (h0 : 1 ≤ n) (h1 : n ≤ 9) : st.ownName n own ∈ ids ++ sharps := by
  unfold Fam.ownName
  split
  · exact List.mem_append_right _ (sharp_mem h0 h1)
  · rename_i hc
    rcases h with rfl | h
    · simp at hc
    · exact List.mem_append_left _ h
theorem Inv.step {st : Fam} {held : List (Str × Int)} {k : Nat} (I : Inv st held k) {n : Int} {own : Str} {refs : List Str} (ho : own = Str.ofString "" ∨ own ∈ ids) (h0 : 1 ≤ n) (h1 : n ≤ 9) (hr : ∀ x ∈ refs, x ∈ ids) :
    Inv (st.add n own refs) (putA held (mineOf held n own) n) (k + 1) := by
  refine ⟨I.good.add _ _ _, fun x hx => ?_, ?_, fun x => ?_, fun x => ?_⟩
  · obtain ⟨t, e, h, _⟩ := add_names st n own refs
    rw [e] at hx
    rcases List.mem_append.mp hx with hx | hx
    · exact I.names x hx
    · rcases h x hx with rfl | hx
      · exact own_mem ho h0 h1
      · exact List.mem_append_left _ (hr x hx)
  · have := putA_len held (mineOf held n own) n
    have := I.heldLen
    omega
  · rw [asc_putA, mine_own I, add_num I.good, I.held]
    by_cases q : x = st.ownName n own
    · subst q
      simp only [beq_self_eq_true, if_true]
      rw [if_pos (by omega)]
    · have : (st.ownName n own == x) = false := by simpa using fun e => q e.symm
      simp only [this, Bool.false_eq_true, if_false, if_neg q]
  · rw [add_num I.good]
    split
    · omega
    · exact I.num x
theorem Inv.nil : Inv ⟨[], [], []⟩ [] 0 := ⟨good_nil, fun x hx => (nomatch hx), Nat.le_refl _, fun x => rfl, fun x => by show (0 : Int) ≤ List.getD [] _ 0; simp⟩
theorem inv_at {cs : List Int} (h : cs.length ≤ 9) : ∀ i, i ≤ cs.length → Inv (famOf ((lettersOf cs).take i)) (heldOf ((lettersOf cs).take i)) i := by
  intro i
  induction i with
  | zero => intro _; exact Inv.nil
  | succ i ih =>
    intro hi
    have I := ih (by omega)
    have hl : i < (lettersOf cs).length := by rw [lettersOf_len]; omega
    have ha : (lettersOf cs)[i]? = some (lettersOf cs)[i] := List.getElem?_eq_getElem hl
    obtain ⟨h9, c, hc⟩ := lettersOf_get h ha
    obtain ⟨e1, e2, e3, e4⟩ := letter_facts i c h9
    rw [famOf_succ ha, ← step_held ha, hc]
    exact I.step e2 (by rw [e1]; omega) (by rw [e1]; omega) e4
theorem names_len {nm : List Str} (nd : nm.Nodup) (h : ∀ x ∈ nm, x ∈ ids ++ sharps) : nm.length ≤ 15 := by
  have : ∀ (l nm : List Str), nm.Nodup → (∀ x ∈ nm, x ∈ l) → nm.length ≤ l.length := by
    intro l
    induction l with
    | nil =>
      intro nm _ h
      cases nm with
      | nil => exact Nat.le_refl _
      | cons a r => exact nomatch h a (.head _)
    | cons a r ih =>
      intro nm nd h
      by_cases q : a ∈ nm
      · have h1 := ih (nm.erase a) (nd.erase _) (fun x hx => by
          obtain ⟨n1, n2⟩ := nd.mem_erase_iff.mp hx
          exact (List.mem_cons.mp (h x n2)).resolve_left n1)
        rw [List.length_erase_of_mem q] at h1
        simp only [List.length_cons]; omega
      · have h1 := ih nm nd (fun x hx => (List.mem_cons.mp (h x hx)).resolve_left (fun e => q (e ▸ hx)))
        simp only [List.length_cons]; omega
  exact this _ _ nd h
theorem fine_at {cs : List Int} (h : cs.length ≤ 9) : ∀ i, i ≤ cs.length → Fine (famOf ((lettersOf cs).take i)) (heldOf ((lettersOf cs).take i)) := by
  intro i hi
  have I := inv_at h i hi
  refine ⟨I.good, fun x hx => ?_, names_len I.good.nd I.names, by have := I.heldLen; omega, fun x => ?_, I.num⟩
  · rcases List.mem_append.mp (I.names x hx) with q | q
    · exact ids_ne x q
    · exact sharps_ne x q
  · rw [I.held]
    by_cases q : x ∈ (famOf ((lettersOf cs).take i)).nm
    · have : (famOf ((lettersOf cs).take i)).nm.contains x = true := by simpa using q
      rw [this]; simp
    · rw [numAt_not I.good q]; simp

/-- the law's own turn, references taken one by one -/
def turnU (p : Up × Option Str) (x : Str) : Up × Option Str :=
  (match p.2 with | none => setd p.1 x | some b => linkStep (setd p.1 x) (b, x), some x)
theorem wayF_setd {up : Up} (C : Closed up) (y : Str) : ∀ (f : Nat) (b : Str), (asc up b).isSome = true → wayF (setd up y) f b = wayF up f b := by
  intro f
  induction f with
  | zero => intro b _; rfl
  | succ f ih =>
    intro b hb
    obtain ⟨p, hp⟩ := Option.isSome_iff_exists.mp hb
    have h1 : asc (setd up y) b = some p := by rw [asc_setd, hp]
    show (match asc (setd up y) b with | some p => if p == Str.ofString "" then [b] else b :: wayF (setd up y) f p | none => [b]) = (match asc up b with | some p => if p == Str.ofString "" then [b] else b :: wayF up f p | none => [b])
    rw [h1, hp]
    by_cases q : (p == Str.ofString "") = true
    · simp only [q, if_true]
    · simp only [q, if_false, Bool.false_eq_true]
      rcases C b p hp with e | e
      · rw [e] at q; simp at q
      · rw [ih p e]
theorem way_setd {up : Up} (C : Closed up) (y : Str) {b : Str} (hb : (asc up b).isSome = true) : way (setd up y) b = way up b := wayF_setd C y 19 b hb
theorem setd_has {up : Up} {y : Str} (h : (asc up y).isSome = true) : setd up y = up := by unfold setd; rw [if_pos h]
theorem setd_not {up : Up} {y : Str} (h : (asc up y).isSome = false) : setd up y = up ++ [(y, Str.ofString "")] := by
  unfold setd
  rw [if_neg (by rw [h]; exact Bool.false_ne_true)]
  unfold putA
  rw [any_asc, h, if_neg Bool.false_ne_true]
theorem put_setd {up : Up} {x y b : Str} (hx : (asc up x).isSome = true) : putA (setd up y) x b = setd (putA up x b) y := by
  by_cases h : (asc up y).isSome = true
  · rw [setd_has h, setd_has (has_putA h)]
  · have h' : (asc up y).isSome = false := by simpa using h
    have hxy : (x == y) = false := by
      simp only [beq_eq_false_iff_ne, ne_eq]
      rintro rfl
      exact h hx
    have h2 : (asc (putA up x b) y).isSome = false := by rw [asc_putA, hxy]; simpa using h'
    rw [setd_not h', setd_not h2]
    have hyx : (y == x) = false := by
      simp only [beq_eq_false_iff_ne, ne_eq] at hxy ⊢
      exact fun e => hxy e.symm
    unfold putA
    have e1 : (up ++ [(y, Str.ofString "")]).any (fun p => p.1 == x) = true := by
      rw [List.any_append, any_asc, hx]; rfl
    have e2 : up.any (fun p => p.1 == x) = true := by rw [any_asc, hx]
    rw [e1, e2]
    simp only [if_true, List.map_append, List.map_cons, List.map_nil, hyx, Bool.false_eq_true, if_false]
theorem link_setd {up : Up} (C : Closed up) (y : Str) {b x : Str} (hb : (asc up b).isSome = true) (hx : (asc up x).isSome = true) : linkStep (setd up y) (b, x) = setd (linkStep up (b, x)) y := by
  obtain ⟨p, hp⟩ := Option.isSome_iff_exists.mp hx
  have h1 : asc (setd up y) x = asc up x := by rw [asc_setd, hp]
  unfold linkStep
  dsimp only
  rw [h1, way_setd C y hb]
  split
  · exact put_setd hx
  · rfl
theorem link_setds (ys : List Str) : ∀ {up : Up}, Closed up → ∀ {b x : Str}, (asc up b).isSome = true → (asc up x).isSome = true → linkStep (ys.foldl setd up) (b, x) = ys.foldl setd (linkStep up (b, x)) := by
  induction ys with
  | nil => intro up _ b x _ _; rfl
  | cons y r ih =>
    intro up C b x hb hx
    rw [List.foldl_cons, List.foldl_cons, ih (C.setd y) (has_setd hb) (has_setd hx), link_setd C y hb hx]
theorem turnsU (refs : List Str) : ∀ {up : Up}, Closed up → ∀ {b : Str}, (asc up b).isSome = true → (refs.foldl turnU (up, some b)).1 = ((b :: refs).dropLast.zip refs).foldl linkStep (refs.foldl setd up) := by
  induction refs with
  | nil => intro up _ b _; rfl
  | cons x r ih =>
    intro up C b hb
    have C1 := C.setd x
    have hb1 := has_setd (x := x) hb
    have hx1 := has_setd_self up x
    obtain ⟨C2, k2, _⟩ := link_ok C1 (p := (b, x)) hb1 hx1
    rw [List.foldl_cons]
    show (r.foldl turnU (linkStep (setd up x) (b, x), some x)).1 = _
    rw [ih C2 (k2 x hx1)]
    show _ = (List.zip (b :: (x :: r).dropLast) (x :: r)).foldl linkStep (r.foldl setd (setd up x))
    rw [List.zip_cons_cons, List.foldl_cons, link_setds r C1 hb1 hx1]
theorem turnsU_none (refs : List Str) {up : Up} (C : Closed up) : (refs.foldl turnU (up, none)).1 = (refs.dropLast.zip refs.tail).foldl linkStep (refs.foldl setd up) := by
  cases refs with
  | nil => rfl
  | cons x r =>
    rw [List.foldl_cons]
    show (r.foldl turnU (setd up x, some x)).1 = _
    rw [turnsU r (C.setd x) (has_setd_self up x)]
    rfl
theorem turnsU_last (refs : List Str) : ∀ (p : Up × Option Str), (refs.foldl turnU p).2 = match refs.getLast? with | some z => some z | none => p.2 := by
  induction refs with
  | nil => intro p; rfl
  | cons x r ih =>
    intro p
    rw [List.foldl_cons, ih]
    cases r with
    | nil => rfl
    | cons y t =>
      rw [List.getLast?_cons_cons]
      cases h : (y :: t).getLast? with
      | none => simp at h
      | some z => rfl

/-- the program's last reference, as a name -/
def prevN (p : Fam × Int) : Option Str := if 0 ≤ p.2 then some (p.1.nameAt p.2) else none
theorem nameAt_app {st st' : Fam} {t : List Str} (e : st'.nm = st.nm ++ t) {o : Int} (h1 : o < st.nm.length) : st'.nameAt o = st.nameAt o := by
  unfold Fam.nameAt
  split
  · rfl
  · rw [e]
    have : o.toNat < st.nm.length := by omega
    simp only [List.getD, List.getElem?_append_left this]
theorem turn_turnU {p : Fam × Int} (H : TurnOk p) (ne : ∀ x ∈ p.1.nm, x ≠ Str.ofString "") {x : Str} (hx : x ≠ Str.ofString "") (hz : p.1.nm.length + 1 ≤ 20) :
    ((Fam.turn p x).1.par, prevN (Fam.turn p x)) = turnU (p.1.par, prevN p) x := by
  have G := H.good.placed x
  obtain ⟨t, et, _, ht⟩ := placed_nm p.1 x
  obtain ⟨l1, l2, l3⟩ := placed_len p.1 x
  have ne' : ∀ y ∈ (p.1.placed x).nm, y ≠ Str.ofString "" := by
    intro y hy
    rw [et] at hy
    rcases List.mem_append.mp hy with hy | hy
    · exact ne y hy
    · rw [ht y hy]; exact hx
  have hc : (p.1.placed x).nm.contains x = true := by simpa using placed_mem p.1 x
  have hat : ((p.1.placed x).nm.idxOf x : Nat) = p.1.at x := at_eq p.1 x
  have hnx : (p.1.placed x).nameAt (p.1.at x : Nat) = x := by rw [← hat]; exact nameAt_idx hc
  have hlo := H.lo
  have hhi := H.hi
  have h2 : prevN (Fam.turn p x) = some x := by
    unfold prevN
    rw [show (Fam.turn p x).2 = ((p.1.at x : Nat) : Int) from rfl, if_pos (by omega)]
    rw [nameAt_nm (turn_nm p x), hnx]
  have h1 : (Fam.turn p x).1.par = (turnU (p.1.par, prevN p) x).1 := by
    unfold turnU prevN
    dsimp only
    rw [← par_placed H.good x]
    by_cases q : 0 ≤ p.2
    · rw [if_pos q]
      dsimp only
      have hb : (p.1.placed x).nameAt p.2 = p.1.nameAt p.2 := nameAt_app et hhi
      have hps : p.1.at x < (p.1.placed x).ps.length := by rw [G.e2]; exact l3
      have hasc : asc (p.1.placed x).par x = some ((p.1.placed x).nameAt ((p.1.placed x).ps.getD (p.1.at x) 0)) := by rw [asc_par, if_pos hc, hat]
      have hr := G.rng ((p.1.placed x).ps.getD (p.1.at x) 0) (by simp only [List.getD, List.getElem?_eq_getElem hps, Option.getD_some]; exact List.getElem_mem hps)
      unfold linkStep Fam.turn
      dsimp only
      rw [hasc, ← hb]
      by_cases q2 : (p.1.placed x).ps.getD (p.1.at x) 0 < 0
      · rw [if_pos ⟨q, q2⟩]
        have e0 : (p.1.placed x).nameAt ((p.1.placed x).ps.getD (p.1.at x) 0) = Str.ofString "" := by rw [Fam.nameAt, if_pos q2]
        rw [e0, par_join G ne' (by omega) q (by omega) (by omega) (by omega), hnx]
        cases (way (p.1.placed x).par ((p.1.placed x).nameAt p.2)).contains x <;> simp
      · rw [if_neg (fun e => q2 e.2), if_neg]
        have := ne' _ (nameAt_mem (st := p.1.placed x) (o := (p.1.placed x).ps.getD (p.1.at x) 0) (by omega) hr.2)
        intro hcond
        simp only [Bool.and_eq_true, beq_iff_eq, Option.some.injEq] at hcond
        exact this hcond.1
    · rw [if_neg q]
      unfold Fam.turn
      rw [if_neg (fun e => q e.1)]
  rw [h2, h1]; rfl
theorem turns_turnU (refs : List Str) : ∀ {p : Fam × Int}, TurnOk p → (∀ x ∈ p.1.nm, x ≠ Str.ofString "") → (∀ x ∈ refs, x ≠ Str.ofString "") → p.1.nm.length + refs.length ≤ 20 →
    ((refs.foldl Fam.turn p).1.par, prevN (refs.foldl Fam.turn p)) = refs.foldl turnU (p.1.par, prevN p) := by
  induction refs with
  | nil => intro p _ _ _ _; rfl
  | cons x r ih =>
    intro p H ne hx hz
    simp only [List.length_cons] at hz
    have hl := (turn_ok H x).2.2
    rw [List.foldl_cons, List.foldl_cons, ← turn_turnU H ne (hx x (.head _)) (by omega)]
    refine ih (turn_ok H x).1 (fun y hy => ?_) (fun y hy => hx y (.tail _ hy)) (by omega)
    rw [turn_nm] at hy
    obtain ⟨t, et, _, ht⟩ := placed_nm p.1 x
    rw [et] at hy
    rcases List.mem_append.mp hy with hy | hy
    · exact ne y hy
    · rw [ht y hy]; exact hx x (.head _)
theorem add_par {st : Fam} (G : Good st) (ne : ∀ x ∈ st.nm, x ≠ Str.ofString "") {n : Int} {own : Str} {refs : List Str} (ho : st.ownName n own ≠ Str.ofString "") (hr : ∀ x ∈ refs, x ≠ Str.ofString "") (hz : st.nm.length + 1 + refs.length ≤ 20) :
    linkedUp st.par (st.ownName n own) refs = (st.add n own refs).par := by
  have H := owned_ok G n own
  obtain ⟨R, r1, r2⟩ := refd_ok G n own refs
  obtain ⟨o1, o2, o3⟩ := owned_len st n own
  obtain ⟨t', e', _, h'⟩ := placed_nm st (st.ownName n own)
  have hpo : (st.owned n own).par = setd st.par (st.ownName n own) := by
    show ((st.placed (st.ownName n own)).num _ _).par = _
    rw [par_num, par_placed G]
  have neO : ∀ x ∈ (st.owned n own).nm, x ≠ Str.ofString "" := by
    intro y hy
    have hy : y ∈ st.nm ++ t' := by rw [← e']; exact hy
    rcases List.mem_append.mp hy with hy | hy
    · exact ne y hy
    · rw [h' y hy]; exact ho
  have key := turns_turnU refs H neO hr (by show (st.owned n own).nm.length + _ ≤ _; omega)
  have hp0 : prevN (st.owned n own, -1) = none := rfl
  rw [hp0] at key
  dsimp only at key
  rw [hpo] at key
  have kp : (st.refd n own refs).1.par = (refs.dropLast.zip refs.tail).foldl linkStep ((st.ownName n own :: refs).foldl setd st.par) := by
    have := congrArg Prod.fst key
    rw [turnsU_none refs ((closed_par G).setd _)] at this
    exact this
  have kl : prevN (st.refd n own refs) = refs.getLast? := by
    have := congrArg Prod.snd key
    rw [turnsU_last] at this
    rw [show prevN (st.refd n own refs) = _ from this]
    cases refs.getLast? <;> rfl
  unfold linkedUp
  rw [← kp]
  unfold Fam.add
  -- names of the state before the last join
  obtain ⟨t2, et2, ht2⟩ := turns_nm refs (p := (st.owned n own, -1))
  have et2' : (st.refd n own refs).1.nm = (st.owned n own).nm ++ t2 := et2
  have neR : ∀ x ∈ (st.refd n own refs).1.nm, x ≠ Str.ofString "" := by
    intro y hy
    rw [et2'] at hy
    rcases List.mem_append.mp hy with hy | hy
    · exact neO y hy
    · exact hr y (ht2 y hy)
  have hno : (st.refd n own refs).1.nameAt (st.at (st.ownName n own) : Nat) = st.ownName n own := by
    rw [nameAt_app et2' (by omega)]
    have : (st.owned n own).nameAt (st.at (st.ownName n own) : Nat) = (st.placed (st.ownName n own)).nameAt (st.at (st.ownName n own) : Nat) := nameAt_nm rfl _
    rw [this, ← at_eq]
    exact nameAt_idx (by simpa using placed_mem st (st.ownName n own))
  generalize st.refd n own refs = q at *
  have hown : st.at (st.ownName n own) < q.1.nm.length := r1
  have hcut := par_cut R.good hown
  rw [hno] at hcut
  unfold Fam.ended
  unfold prevN at kl
  by_cases hq : 0 ≤ q.2
  · rw [if_pos hq] at kl ⊢
    unfold lastStep
    rw [← kl]
    dsimp only
    have Gc := R.good.cut _ hown
    have hhi := R.hi
    have hcn : (q.1.cut (st.at (st.ownName n own))).nm = q.1.nm := rfl
    rw [par_join Gc (by rw [hcn]; exact neR) (by rw [hcn]; omega) hq (by rw [hcn]; exact hhi) (by omega) (by rw [hcn]; omega), hcut]
    rw [nameAt_nm hcn, nameAt_nm hcn, hno]
  · rw [if_neg hq] at kl ⊢
    unfold lastStep
    rw [← kl, hcut]
theorem step_up {cs : List Int} (h : cs.length ≤ 9) {i : Nat} {a : Letter} (ha : (lettersOf cs)[i]? = some a) :
    linkedUp (famOf ((lettersOf cs).take i)).par (mineOf (heldOf ((lettersOf cs).take i)) a.n a.own) a.refs = (famOf ((lettersOf cs).take (i + 1))).par := by
  have hi : i < cs.length := by have := (List.getElem?_eq_some_iff.mp ha).1; rw [lettersOf_len] at this; exact this
  have I := inv_at h i (by omega)
  have FI := fine_at h i (by omega)
  obtain ⟨h9, c, hc⟩ := lettersOf_get h ha
  obtain ⟨e1, e2, e3, e4⟩ := letter_facts i c h9
  rw [famOf_succ ha, mine_own I, hc]
  have hlen := FI.len
  refine add_par I.good FI.ne ?_ (fun x hx => ids_ne x (e4 x hx)) (by omega)
  have := own_mem (st := famOf ((lettersOf cs).take i)) (n := (letterOf i c).n) e2 (by rw [e1]; omega) (by rw [e1]; omega)
  rcases List.mem_append.mp this with q | q
  · exact ids_ne _ q
  · exact sharps_ne _ q
theorem near_eq {st : Fam} {held : List (Str × Int)} (H : Fine st held) : ∀ (k : Nat) {above : Int}, Ends st.ps above k → ∀ {last : Int}, 0 ≤ last → last < st.nm.length → ∀ F, k ≤ F →
    nearF st.ns st.ps k last above = ((lnearF held (st.nameAt last) ((chain st.ps F above).map st.nameAt)).1, ((st.nm.idxOf (lnearF held (st.nameAt last) ((chain st.ps F above).map st.nameAt)).2 : Nat) : Int)) ∧
    st.nm.contains (lnearF held (st.nameAt last) ((chain st.ps F above).map st.nameAt)).2 = true := by
  intro k
  induction k with
  | zero =>
    intro above h last h0 h1 F _
    have hneg : above < 0 := Ends.neg h
    have hc : chain st.ps F above = [] := by
      cases F with
      | zero => rfl
      | succ F => unfold chain; rw [if_pos hneg]
    rw [hc]
    refine ⟨?_, (by show st.nm.contains (st.nameAt last) = true; simpa using nameAt_mem h0 h1)⟩
    show ((0 : Int), last) = (0, ((st.nm.idxOf (st.nameAt last) : Nat) : Int))
    rw [idx_nameAt H.good.nd h0 h1]
  | succ k ih =>
    intro above h last h0 h1 F hF
    cases h with
    | step a b c d =>
      obtain ⟨F, rfl⟩ : ∃ F', F = F' + 1 := ⟨F - 1, by omega⟩
      have hlen := H.good.e2
      have ha1 : above < st.nm.length := by omega
      have hm := nameAt_mem (st := st) a ha1
      have hcn : st.nm.contains (st.nameAt above) = true := by simpa using hm
      have hna : st.numAt (st.nameAt above) = st.ns.getD above.toNat 0 := by
        unfold Fam.numAt
        have := idx_nameAt H.good.nd a ha1
        have e : st.nm.idxOf (st.nameAt above) = above.toNat := by omega
        rw [e]
      have hh := H.held (st.nameAt above)
      have hnn := H.num (st.nameAt above)
      rw [hcn, hna] at hh
      rw [hna] at hnn
      have hch : chain st.ps (F + 1) above = above :: chain st.ps F (st.ps.getD above.toNat 0) := by
        show (if above < 0 then [] else _) = _
        rw [if_neg (by omega)]
      rw [hch, List.map_cons]
      have hl : lnearF held (st.nameAt last) (st.nameAt above :: (chain st.ps F (st.ps.getD above.toNat 0)).map st.nameAt) = match asc held (st.nameAt above) with | some v => (v, st.nameAt last) | none => lnearF held (st.nameAt above) ((chain st.ps F (st.ps.getD above.toNat 0)).map st.nameAt) := rfl
      have hn : nearF st.ns st.ps (k + 1) last above = if 0 ≤ above ∧ st.ns.getD above.toNat 0 = 0 then nearF st.ns st.ps k above (st.ps.getD above.toNat 0) else (if 0 ≤ above then st.ns.getD above.toNat 0 else 0, last) := rfl
      rw [hl, hn]
      by_cases q : st.ns.getD above.toNat 0 = 0
      · rw [if_pos ⟨a, q⟩]
        have hnone : asc held (st.nameAt above) = none := by rw [hh, q]; simp
        rw [hnone]
        exact ih d a ha1 F (by omega)
      · rw [if_neg (fun e => q e.2), if_pos a]
        have hsome : asc held (st.nameAt above) = some (st.ns.getD above.toNat 0) := by
          rw [hh]
          have : 0 < st.ns.getD above.toNat 0 := by omega
          simp only [this, decide_true, Bool.and_self, if_true]
        rw [hsome]
        dsimp only
        exact ⟨by rw [idx_nameAt H.good.nd h0 h1], by simpa using nameAt_mem h0 h1⟩
theorem near_up {st : Fam} {held : List (Str × Int)} (H : Fine st held) {x : Str} (hx : st.nm.contains x = true) :
    ∃ k, Ends st.ps (st.ps.getD (st.nm.idxOf x) 0) k ∧ nearF st.ns st.ps k (st.nm.idxOf x : Nat) (st.ps.getD (st.nm.idxOf x) 0) = ((lnear st.par held x).1, ((st.nm.idxOf (lnear st.par held x).2 : Nat) : Int)) ∧ st.nm.contains (lnear st.par held x).2 = true := by
  have hl : st.nm.idxOf x < st.nm.length := List.idxOf_lt_length_iff.mpr (by simpa using hx)
  obtain ⟨k, hk⟩ := H.good.ends (o := (st.nm.idxOf x : Nat)) (by omega) (by omega)
  have hkl := Ends.le hk
  have hlen := H.len
  have hw := way_chn H.good H.ne (by omega) (o := (st.nm.idxOf x : Nat)) (by omega) (by omega)
  rw [nameAt_idx hx] at hw
  cases hk with
  | step a b c d =>
    rename_i k'
    have e : ((st.nm.idxOf x : Nat) : Int).toNat = st.nm.idxOf x := Int.toNat_natCast _
    rw [e] at d
    refine ⟨k', d, ?_⟩
    have hc : st.chn (st.nm.idxOf x : Nat) = ((st.nm.idxOf x : Nat) : Int) :: chain st.ps st.ps.length (st.ps.getD (st.nm.idxOf x) 0) := by
      show (if ((st.nm.idxOf x : Nat) : Int) < 0 then [] else ((st.nm.idxOf x : Nat) : Int) :: chain st.ps st.ps.length (st.ps.getD ((st.nm.idxOf x : Nat) : Int).toNat 0)) = _
      rw [if_neg (by omega), e]
    have hln : lnear st.par held x = lnearF held x ((chain st.ps st.ps.length (st.ps.getD (st.nm.idxOf x) 0)).map st.nameAt) := by
      unfold lnear
      rw [hw, hc, List.map_cons, nameAt_idx hx]
    have := near_eq H k' d (last := (st.nm.idxOf x : Nat)) (by omega) (by omega) st.ps.length (by omega)
    rw [nameAt_idx hx, ← hln] at this
    exact this

def fnBody : Stmt → List Stmt
  | .FunctionDef _ _ b _ _ _ _ _ _ _ => b
  | _ => []
def fnScope : Stmt → Scope
  | .FunctionDef _ _ _ _ _ _ s _ _ _ => s
  | _ => { kind := .function, names := [], isGenerator := false, isCoroutine := false, more := [] }
def forBody : Stmt → List Stmt
  | .For _ _ b _ _ => b
  | _ => []
/-- the law's text: its body, its scope, the bodies of its two loops, its last statements -/
noncomputable def lawDef : Stmt := PR.main.body.getLast?.getD (.Pass ⟨0, 0, 0, 0⟩)
noncomputable def lawScope : Scope := fnScope lawDef
noncomputable def body1 : List Stmt := forBody ((fnBody lawDef).getD 2 (.Pass ⟨0, 0, 0, 0⟩))
noncomputable def body2 : List Stmt := forBody ((fnBody lawDef).getD 3 (.Pass ⟨0, 0, 0, 0⟩))
noncomputable def rest4 : List Stmt := (fnBody lawDef).drop 4
noncomputable abbrev lawEnv (L fa : Addr) (cdv : Value) : Env := envOfC (Str.ofString "law") lawScope L fa cdv
theorem data_ne {h : Heap} {a b : Addr} {oa ob : Obj} {v : Option Value} {xs : Array Value} {n : Nat} (ea : h.get? a = some oa) (eb : h.get? b = some ob) (ca : oa.data = .cell v) (cb : ob.data = .seq xs n) : b ≠ a := by
  rintro rfl
  rw [ea] at eb
  cases eb
  rw [ca] at cb
  cases cb
theorem letters_led {g h : Heap} {L fd : Addr} {m : Str → Option Value} {led : List (Addr × Obj)} {vs : List Value} {nv : Nat} {ls : List Letter} (F : Fr g L h m) (N : News g L h led) (H : LettersAt h g fd vs nv ls) (hled : ∀ p ∈ led, ∃ v, p.2.data = .cell v) :
    ∃ tups, LetsIn tups vs ls ∧ News g L h ((fd, listO vs nv) :: (led ++ tups)) ∧ (∀ p ∈ led, ∀ q ∈ tups, q.1 ≠ p.1) ∧ (∀ p ∈ led, @Ne Nat fd p.1) := by
  obtain ⟨tups, h1, h2⟩ := H.tups
  obtain ⟨oL, es, ep, hLo, hd, _⟩ := F.ns
  have neL : ∀ (a : Addr) (o : Obj) (xs : Array Value) (n : Nat), h.get? a = some o → o.data = .seq xs n → a ≠ L := by
    rintro a o xs n e c rfl
    rw [hLo] at e
    cases e
    rw [hd] at c
    cases c
  refine ⟨tups, h1, fun p hp => ?_, fun p hp q hq => ?_, fun p hp => ?_⟩
  · rcases List.mem_cons.mp hp with rfl | hp
    · exact ⟨H.list, neL _ _ _ _ H.list rfl, H.new⟩
    · rcases List.mem_append.mp hp with hp | hp
      · exact N p hp
      · obtain ⟨a, b, xs, n, c⟩ := h2 p hp
        exact ⟨a, neL _ _ _ _ a c, b⟩
  · obtain ⟨a, b, xs, n, c⟩ := h2 q hq
    obtain ⟨v, hv⟩ := hled p hp
    exact data_ne (N p hp).1 a hv c
  · obtain ⟨v, hv⟩ := hled p hp
    exact data_ne (N p hp).1 H.list hv rfl
theorem after_UH {g h h' : Heap} {L U H : Addr} {m : Str → Option Value} {oU oH oU' oH' : Obj} {rest : List (Addr × Obj)} (F : Fr g L h m) (N : News g L h ((U, oU) :: (H, oH) :: rest)) (hh : Has g h' [(U, oU'), (H, oH')]) (off : Off [U, H] h h') (hr : ∀ p ∈ rest, p.1 ∉ [U, H]) :
    Fr g L h' m ∧ News g L h' ((U, oU') :: (H, oH') :: rest) := by
  have hU := N (U, oU) (.head _)
  have hH := N (H, oH) (.tail _ (.head _))
  refine ⟨after_F F off (fun q => ?_) (fun a ha => ?_), fun p hp => ?_⟩
  · simp only [List.mem_cons, List.not_mem_nil, or_false] at q
    rcases q with e | e
    · exact hU.2.1 e.symm
    · exact hH.2.1 e.symm
  · simp only [List.mem_cons, List.not_mem_nil, or_false] at ha
    rcases ha with rfl | rfl
    · exact hU.2.2
    · exact hH.2.2
  · rcases List.mem_cons.mp hp with rfl | hp
    · exact ⟨(hh _ (.head _)).1, hU.2⟩
    · rcases List.mem_cons.mp hp with rfl | hp
      · exact ⟨(hh _ (.tail _ (.head _))).1, hH.2⟩
      · exact after_N (Mine.News.subs N (l' := rest) fun p hp => .tail _ (.tail _ hp)) off hr p hp
theorem par_keys (st : Fam) : st.par.map (·.1) = st.nm := by
  unfold Fam.par
  rw [List.map_map]
  show st.nm.zipIdx.map (fun p => p.1) = st.nm
  simp
theorem has4 {g h : Heap} {L : Addr} {news : List (Addr × Obj)} (N : News g L h news) {a b c d : Addr × Obj} (ha : a ∈ news) (hb : b ∈ news) (hc : c ∈ news) (hd : d ∈ news) : Has g h [a, b, c, d] := fun p hp => by
  simp only [List.mem_cons, List.not_mem_nil, or_false] at hp
  rcases hp with rfl | rfl | rfl | rfl
  · exact ⟨(N _ ha).1, (N _ ha).2.2⟩
  · exact ⟨(N _ hb).1, (N _ hb).2.2⟩
  · exact ⟨(N _ hc).1, (N _ hc).2.2⟩
  · exact ⟨(N _ hd).1, (N _ hd).2.2⟩
theorem pos_add {st : Fam} (G : Good st) (n : Int) (x : Str) (refs : List Str) : 0 < (st.add n x refs).nm.length := by
  rw [add_nm]
  have := (refd_ok G n x refs).2.1
  omega
theorem key_up {w : World} {st : Fam} {kvs : List (Str × Value)} {i : Nat} {v : Value} (hf : FlatPairs PyData.str kvs (encS st.par)) (h : ∃ k y, kvs[i]? = some (k, y) ∧ (PySem.strKind PR w).is k v = true) : ∃ x t, st.nm[i]? = some x ∧ st.nm.contains x = true ∧ v = .str x t := by
  obtain ⟨x, dv, t, hD, rfl⟩ := key_at hf h
  rw [par_at] at hD
  obtain ⟨x', hx', he⟩ := Option.map_eq_some_iff.mp hD
  cases he
  exact ⟨x, t, hx', by simpa using List.mem_of_getElem? hx', rfl⟩
/-- small numbers made by a comprehension -/
def SmallJ (b : Int) (i : Nat) (ys : List Value) (tups : List (Addr × Obj)) : Prop := tups = [] ∧ ∃ ns : List Int, IntsAre ys ns ∧ ns.length = i ∧ ∀ n ∈ ns, n ≤ b
theorem SmallJ.snoc {b : Int} {i : Nat} {ys : List Value} {tups : List (Addr × Obj)} {n : Int} {t : Tok} (x : SmallJ b i ys tups) (h : n ≤ b) : SmallJ b (i + 1) (ys ++ [.int n t]) tups := by
  obtain ⟨e, ns, a, c, d⟩ := x
  refine ⟨e, ns ++ [n], a.append (.cons _ _ .nil), by simp [c], fun q hq => ?_⟩
  rcases List.mem_append.mp hq with hq | hq
  · exact d q hq
  · rw [List.mem_singleton.mp hq]; exact h

theorem ne_tup2 {w : World} {A : Around} {E : Value → Shared → Prop} {s : Shared} {g : Heap} {L a b : Addr} {news : List (Addr × Obj)} {x y : Int} {t1 t2 u1 u2 : Tok} {n1 n2 : Nat} {Q : Value → Shared → Prop}
    (N : News g L s.heap news) (h1 : (a, tupO [.int x t1, .int y t2] n1) ∈ news) (h2 : (b, tupO [.int x u1, .int y u2] n2) ∈ news) (hu : A.units + 64 < cLine) (h : Q (.bool false) s) :
    wpAny (model PR w) A (compareOp .NotEq (.ref a) (.ref b)) Q E s := by
  have r1 : Reads s.heap (.ref a) (.tuple ([x, y].map .int)) [] := reads_tuple_ints ⟨_, (N _ h1).1, rfl, n1, rfl⟩ (.cons _ _ (.cons _ _ .nil))
  have r2 : Reads s.heap (.ref b) (.tuple ([x, y].map .int)) [] := reads_tuple_ints ⟨_, (N _ h2).1, rfl, n2, rfl⟩ (.cons _ _ (.cons _ _ .nil))
  have hs : SeqAt.shaped (.tuple ([x, y].map PyData.int)) = true := by simp [SeqAt.shaped, PyData.canLay0, PyData.canLayAll0, PyData.depth, PyData.depthAll]
  refine ne_dataH_same r1 r2 hs hs hu (SeqAt.noMix_of_shape (.tuples .int) rfl _ _ (tuples_map_has fun _ => rfl) (tuples_map_has fun _ => rfl)) ?_
  have e : Spec.same (.tuple ([x, y].map PyData.int)) (.tuple ([x, y].map PyData.int)) = true := by simp [Spec.same, Spec.sameAll]
  rw [e]; exact h
theorem after_news {g h h' : Heap} {L : Addr} {m : Str → Option Value} {led l' : List (Addr × Obj)} (F : Fr g L h m) (N : News g L h led) (off : Off [] h h') (hh : Has g h' l') (hfr : ∀ p ∈ l', h.get? p.1 = none) :
    Fr g L h' m ∧ News g L h' (l' ++ led) ∧ (∀ p ∈ l', ∀ q ∈ led, @Ne Nat q.1 p.1) := by
  refine ⟨after_F F off (fun q => nomatch q) (fun a ha => nomatch ha), fun p hp => ?_, fun p hp q hq e => ?_⟩
  · rcases List.mem_append.mp hp with hp | hp
    · refine ⟨(hh p hp).1, fun e => ?_, (hh p hp).2⟩
      obtain ⟨oL, _, _, hLo, _⟩ := F.ns
      have := hfr p hp
      rw [e, hLo] at this; cases this
    · exact after_N N off (fun p _ q => nomatch q) p hp
  · have e' : q.1 = p.1 := e
    have := (N q hq).1
    rw [e', hfr p hp] at this; cases this
/-- numbers made by a comprehension over names -/
def NumsJ (f : Str → Int) (ss : List Str) (i : Nat) (ys : List Value) (tups : List (Addr × Obj)) : Prop := tups = [] ∧ IntsAre ys ((ss.take i).map f)
theorem NumsJ.snoc {f : Str → Int} {ss : List Str} {i : Nat} {ys : List Value} {tups : List (Addr × Obj)} {x : Str} {t : Tok} (h : NumsJ f ss i ys tups) (hx : ss[i]? = some x) : NumsJ f ss (i + 1) (ys ++ [.int (f x) t]) tups := by
  refine ⟨h.1, ?_⟩
  rw [List.take_add_one, hx, List.map_append]
  exact h.2.append (.cons _ _ .nil)
theorem key_held {w : World} {st : Fam} {held : List (Str × Int)} {kvs : List (Str × Value)} {i : Nat} {v : Value} (FI : Fine st held) (hf : FlatPairs PyData.str kvs (encI held)) (h : ∃ k y, kvs[i]? = some (k, y) ∧ (PySem.strKind PR w).is k v = true) : ∃ x t, st.nm.contains x = true ∧ v = .str x t := by
  obtain ⟨x, dv, t, hD, rfl⟩ := key_at hf h
  refine ⟨x, t, ?_, rfl⟩
  rw [encI_map, List.getElem?_map] at hD
  obtain ⟨p, hp, he⟩ := Option.map_eq_some_iff.mp hD
  have hx : p.1 = x := by
    have := congrArg Prod.fst he
    injection this
  have hm := List.mem_of_getElem? hp
  have hs : (asc held x).isSome = true := by
    unfold asc
    rw [Option.isSome_map, List.find?_isSome]
    exact ⟨p, hm, by simp [hx]⟩
  rw [FI.held] at hs
  cases q : st.nm.contains x with
  | true => rfl
  | false => rw [q] at hs; simp at hs

theorem fillL1 : (fun (_ : OpenLaw) (_ : Params → Frag) => True) PySem.Challenge.rw_nz0269_01 hd.heap_39 := by
  w_top off
  k_fill
  trivial
set_option maxHeartbeats 0
local macro_rules
  | `(tactic| walk_at "eval Name") => `(tactic| (k_here; (with_reducible show wpAny _ _ (eval (Expr.Name _ _) (envOfC _ _ _ _ _)) _ _ _); k_dflt (refine' nameX_L ?F ?v ?_ ?a ?b; (case F => k_asm); (case a => rfl); (case b => rfl); (case v => first | with_reducible assumption | assumption); k_whole)))
  | `(tactic| walk_at "exec For Tuple Name cons nil") => `(tactic| refine Hold.mk ?_)
  | `(tactic| walk_at "exec For Name Name cons nil") => `(tactic| refine Hold.mk ?_)
  | `(tactic| walk_at "call ref") => `(tactic| refine Hold.mk ?_)
  | `(tactic| walk_at "compareOp NotEq ref ref") => `(tactic| refine Hold.mk ?_)
  | `(tactic| walk_at "compareOp Eq ref ref") => `(tactic| refine Hold.mk ?_)
  | `(tactic| walk_at "call builtin:max") => `(tactic| refine Hold.mk ?_)
  | `(tactic| walk_at "call builtin:sorted") => `(tactic| refine Hold.mk ?_)
theorem turn1 {w : World} {dp un : Nat} {fr : Option (List Env)} {gd : Option (List Code)} {s : Shared} {g : Heap} {L fa0 : Addr} {cdv : Value} {m : Str → Option Value} {Q : Flow → Shared → Prop} {E : Value → Shared → Prop}
    {fa : FA} {st st' : Fam} {held held' : List (Str × Int)} {U H rl : Addr} {oU oH oc2 oc1 : Obj} {l tl : List (Addr × Obj)} {kvu kvh : List (Str × Value)} {n : Int} {own : Str} {refs : List Str} {vr : List Value} {nr : Nat} {tn to : Tok}
    (G : Gr w g) (F : Fr g L s.heap m) (N : News g L s.heap (l ++ ((U, oU) :: (H, oH) :: (rl, listO vr nr) :: (L + 1 + 1, oc2) :: (L + 1, oc1) :: tl)))
    (HF : FamIn w st fa l) (qU : oU.IsDictOf (PySem.strKind PR w) kvu) (qD : FlatPairs PyData.str kvu (encS st.par)) (qH : oH.IsDictOf (PySem.strKind PR w) kvh) (qE : FlatPairs PyData.str kvh (encI held))
    (loU : (U == sysModules) = false) (loH : (H == sysModules) = false) (hr : StrsAre vr refs)
    (m1 : m (Str.ofString "family") = some (.ref fa.fam)) (m2 : m (Str.ofString "number") = some (.int n tn)) (m3 : m (Str.ofString "own") = some (.str own to)) (m4 : m (Str.ofString "names") = some (.ref rl))
    (dc2 : oc2.data = Data.cell (some (Value.ref H))) (dc1 : oc1.data = Data.cell (some (Value.ref U)))
    (dF : ∀ p ∈ ((U, oU) :: (H, oH) :: (rl, listO vr nr) :: (L + 1 + 1, oc2) :: (L + 1, oc1) :: tl), p.1 ∉ fa.all) (dU : ∀ a ∈ fa.all, a ∉ [U, H]) (dT : ∀ p ∈ ((L + 1 + 1, oc2) :: (L + 1, oc1) :: tl), p.1 ∉ [U, H])
    (hUH : @Ne Nat U H) (hUr : @Ne Nat U rl) (hHr : @Ne Nat H rl)
    (FI : Fine st held) (FI' : Fine st' held') (hfs : st' = st.add n own refs) (hst : linkedUp st.par (mineOf held n own) refs = st'.par) (hsh : putA held (mineOf held n own) n = held')
    (n0 : 0 < n) (n1 : n < 100) (hrl : refs.length ≤ 4) (hro : Oks refs) (hdp : dp + 10 < recursionLimit) (hu : un + 300 < cLine)
    (ret : ∀ h' tk l' oU' oH' kvu' kvh', Fr g L h' m → News g L h' (l' ++ ((U, oU') :: (H, oH') :: (L + 1 + 1, oc2) :: (L + 1, oc1) :: tl)) → FamIn w st' fa l' →
      oU'.IsDictOf (PySem.strKind PR w) kvu' → FlatPairs PyData.str kvu' (encS st'.par) → oH'.IsDictOf (PySem.strKind PR w) kvh' → FlatPairs PyData.str kvh' (encI held') → Q .next { s with heap := h', toks := tk }) :
    wpAny (model PR w) (AR dp un fr gd) (execs body1 (lawEnv L fa0 cdv)) Q E s := by
  conv in body1 => whnf
  unfold lawEnv
  conv in lawScope => whnf
  obtain ⟨fam, dx, pl, nu, pa⟩ := fa
  have HF0 := HF
  refine FamIn.elimO HF fun t1' t2' t3' nd' oQ n1' n2' vn' vp' kvs' el hPq hDq hNq hAq => ?_
  subst el
  dsimp only [List.cons_append, List.nil_append] at N m1 ⊢
  have T := G.T
  have KX := G.K
  obtain ⟨mean, mg, mb, T⟩ := T
  repeat' (walk1)
  all_goals try k_data
  refine Hold.out ?_
  have hFl : ∀ p ∈ ([(fam, instObj 73 dx), (dx, dictOf (famD w t1' t2' t3' pl nu pa) nd'), (pl, oQ), (nu, listO vn' n1'), (pa, listO vp' n2')] ++ [(rl, listO vr nr)] : List (Addr × Obj)), p ∈ ((fam, instObj 73 dx) :: (dx, dictOf (famD w t1' t2' t3' pl nu pa) nd') :: (pl, oQ) :: (nu, listO vn' n1') :: (pa, listO vp' n2') :: (U, oU) :: (H, oH) :: (rl, listO vr nr) :: (L + 1 + 1, oc2) :: (L + 1, oc1) :: tl) := fun p hp => by
    simp only [List.cons_append, List.nil_append, List.mem_cons, List.not_mem_nil, or_false] at hp ⊢
    rcases hp with h | h | h | h | h | h <;> simp only [h, eq_self, true_or, or_true]
  refine wpAny_call (add_c (nr := nr) (fa := ⟨fam, dx, pl, nu, pa⟩) G F.keep HF0 ((Has.of_news N).sub hFl) hr (dF (rl, listO vr nr) (.tail _ (.tail _ (.head _)))) FI.good (by have := FI.len; omega) n0 n1 (by first | omega | (simp only [depth_deeper]; omega) | (dsimp only; omega)) ?_)
  intro h3 tk3 l3 hl3 hh3 off3
  rw [← hfs] at hl3
  obtain ⟨F9, N9⟩ := after_famR (rest := ((U, oU) :: (H, oH) :: (rl, listO vr nr) :: (L + 1 + 1, oc2) :: (L + 1, oc1) :: tl)) HF0 hl3 F N (hh3.sub fun p hp => List.mem_append_left _ hp) off3 dF
  clear F N hFl
  have hl30 := hl3
  refine FamIn.elimO hl3 fun t1' t2' t3' nd' oQ n1' n2' vn' vp' kvs' el hPq hDq hNq hAq => ?_
  subst el
  dsimp only [List.cons_append, List.nil_append] at N9 ⊢
  repeat' (walk1)
  all_goals try k_data
  rename_i D7 h7 F7 N7 lD
  refine Hold.out ?_
  refine wpAny_call (linked_c (U := U) (H := H) (T := D7) (rl := rl) (nr := nr) (own := own) (up := st.par) (held := held) G F7.keep (has4 N7 (.tail _ (.tail _ (.tail _ (.tail _ (.tail _ (.tail _ (.head _))))))) (.tail _ (.tail _ (.tail _ (.tail _ (.tail _ (.tail _ (.tail _ (.head _)))))))) (.head _) (.tail _ (.tail _ (.tail _ (.tail _ (.tail _ (.tail _ (.tail _ (.tail _ (.head _)))))))))) qU qD qH qE loU loH hr hro hUH (Nat.ne_of_lt lD.2.2.2.2.2.1) hUr (Nat.ne_of_lt lD.2.2.2.2.2.2.1) hHr (Nat.ne_of_gt lD.2.2.2.2.2.2.2.1)
    (closed_par FI.good) (by have := FI.len; rw [Fam.par_length]; omega) (by have := FI.heldLen; omega) n0 n1 (by first | omega | (simp only [depth_deeper]; omega) | (dsimp only; omega)) (by first | omega | (simp only [Around.deeper_units]; omega) | (dsimp only; omega)) ?_)
  intro h4 tk4 oU' oH' kvu' kvh' rU rD rH rE hh4 off4
  rw [hst] at rD
  rw [hsh] at rE
  have N8 : News g L h7 ((U, oU) :: (H, oH) :: (fam, instObj 73 dx) :: (dx, dictOf (famD w t1' t2' t3' pl nu pa) nd') :: (pl, oQ) :: (nu, listO vn' n1') :: (pa, listO vp' n2') :: (L + 1 + 1, oc2) :: (L + 1, oc1) :: tl) := fun p hp => N7 p (by
    simp only [List.mem_cons] at hp ⊢
    rcases hp with h | h | h | h | h | h | h | h | h | h <;> simp only [h, eq_self, true_or, or_true])
  obtain ⟨F9, N9⟩ := after_UH F7 N8 hh4 off4 (fun p hp => by
    rcases List.mem_append.mp (show p ∈ ([(fam, instObj 73 dx), (dx, dictOf (famD w t1' t2' t3' pl nu pa) nd'), (pl, oQ), (nu, listO vn' n1'), (pa, listO vp' n2')] ++ ((L + 1 + 1, oc2) :: (L + 1, oc1) :: tl)) from hp) with hp | hp
    · exact dU p.1 (by rw [← hl30.map]; exact List.mem_map_of_mem hp)
    · exact dT p hp)
  clear F7 N7 N8
  repeat' (walk1)
  all_goals try k_data
  rename Fr _ _ _ _ => F7
  rename News _ _ _ _ => N7
  refine Hold.out ?_
  refine wpAny_call (parents_c (fa := ⟨fam, dx, pl, nu, pa⟩) G F7.keep hl30 ((Has.of_news N7).sub (fun p hp => ?_)) FI'.good (by have := FI'.len; omega) (by first | omega | (simp only [depth_deeper]; omega) | (dsimp only; omega)) ?_)
  · simp only [List.mem_cons, List.not_mem_nil, or_false] at hp ⊢
    rcases hp with h | h | h | h | h <;> simp only [h, eq_self, true_or, or_true]
  intro h5 tk5 d od kvd hh5 lowd hfrd rdd rdf off5
  obtain ⟨F9, N9, ne9⟩ := after_new F7 N7 off5 (hh5 (d, _) (.head _)) hfrd
  clear F7 N7
  dsimp only at F9 N9 ⊢
  repeat' (walk1)
  all_goals try k_data
  refine Hold.out ?_
  rename Fr _ _ _ _ => F7
  rename News _ _ _ _ => N7
  have hnodup : (st'.par.map (·.1)).Nodup := by rw [par_keys]; exact FI'.good.nd
  refine ne_up N7 (.head _) (.tail _ (.head _)) rdd rU lowd loU rdf rD hnodup (by first | omega | (simp only [Around.deeper_units]; omega) | (dsimp only; omega)) ?_
  repeat' (walk1)
  all_goals try k_data
  refine Hold.out ?_
  have N8 := Mine.News.subs N7 (l' := ((U, oU') :: (H, oH') :: (fam, instObj 73 dx) :: (dx, dictOf (famD w t1' t2' t3' pl nu pa) nd') :: (pl, oQ) :: (nu, listO vn' n1') :: (pa, listO vp' n2') :: (L + 1 + 1, oc2) :: (L + 1, oc1) :: tl)) (fun p hp => .tail _ hp)
  clear N7
  have hpos : 0 < st'.nm.length := by rw [hfs]; exact pos_add FI.good _ _ _
  have kl : kvu'.length = st'.nm.length := by rw [← rD.length, encS_length, Fam.par_length]
  have hlen15 := FI'.len
  refine comp_dict F7 ((U, oU') :: (H, oH') :: (fam, instObj 73 dx) :: (dx, dictOf (famD w t1' t2' t3' pl nu pa) nd') :: (pl, oQ) :: (nu, listO vn' n1') :: (pa, listO vp' n2') :: (L + 1 + 1, oc2) :: (L + 1, oc1) :: tl) (SmallJ (st'.nm.length : Int)) rfl loU (.head _) rU (by rw [kl, sizeLine_eq]; omega) ⟨rfl, [], .nil, rfl, fun n hn => nomatch hn⟩ ?_ (by with_unfolding_all rfl) (by decide) (by rfl) (by decide) (by rfl)
  repeat' (first | (k_here; (with_reducible show wpAny _ _ (call (Value.builtin "len") [Value.ref _]) _ _ _); first | (k_dflt (refine' len_any (by k_asm) (by k_mem) (by omega) ?_; k_whole)) | refine Hold.mk ?_) | walk1)
  all_goals try k_data
  · exact F7
  · exact N8
  · intro i2 v2 I2 oI C oC D2 mm h tk2 ys tps E' hv hj hoC hmx F2 N2 off ne
    obtain ⟨x, t, hx', hxc, rfl⟩ := key_up rD hv
    have hj0 := hj
    obtain ⟨rfl, -⟩ := hj
    rw [List.append_nil] at N2 off
    clear hv N8 F7
    repeat' (first | (k_here; (with_reducible show wpAny _ _ (call (Value.builtin "len") [Value.ref _]) _ _ _); first | (k_dflt (refine' len_any (by k_asm) (by k_mem) (by omega) ?_; k_whole)) | refine Hold.mk ?_) | walk1)
    all_goals try k_data
    rename Fr _ _ _ _ => F7
    rename News _ _ _ _ => N7
    refine Hold.out ?_
    refine wpAny_call (way_c G F7.keep ((Has.of_news N7).sub (fun p hp => by rw [List.mem_singleton.mp hp]; exact .tail _ (.tail _ (.tail _ (.head _))))) rU rD loU (closed_par FI'.good) (by rw [has_par]; exact hxc) (by first | omega | (simp only [depth_deeper]; omega) | (dsimp only; omega)) ?_)
    intro h6 tk6 fl vw nw hSw hhw hfl off6
    obtain ⟨F8, N8, ne8⟩ := after_new F7 N7 off6 (hhw (fl, _) (.tail _ (.head _))) hfl
    clear F7 N7
    have hvl := strs_len hSw
    have hwl := way_len_par FI'.good FI'.ne (by omega) hxc
    rw [Fam.par_length] at hwl
    dsimp only at F8 N8 ⊢
    repeat' (first | (k_here; (with_reducible show wpAny _ _ (call (Value.builtin "len") [Value.ref _]) _ _ _); first | (k_dflt (refine' len_any (by k_asm) (by k_mem) (by omega) ?_; k_whole)) | refine Hold.mk ?_) | walk1)
    all_goals try k_data
    rename Fr _ _ _ _ => F7
    rename News _ _ _ _ => N7
    dsimp only
    refine turn_val (l := ((U, oU') :: (H, oH') :: (fam, instObj 73 dx) :: (dx, dictOf (famD w t1' t2' t3' pl nu pa) nd') :: (pl, oQ) :: (nu, listO vn' n1') :: (pa, listO vp' n2') :: (L + 1 + 1, oc2) :: (L + 1, oc1) :: tl)) (tups := []) F7 (Mine.News.subs N7 (fun p hp => ?_)) (by rw [List.append_nil]; exact off) (hj0.snoc (by omega))
    rw [List.append_nil] at hp
    exact .tail _ hp
  · rename Fr _ _ _ _ => F9
    rename News _ _ _ _ => N9
    rename SmallJ _ _ _ _ => hj
    obtain ⟨rfl, ns, hns, hnl, hnb⟩ := hj
    refine Hold.out ?_
    refine kso_max F9 N9 ⟨_, (N9 _ (.head _)).1, rfl, _, rfl⟩ hns (by omega) rfl ?_
    intro h6 Mx tx tk6 F10 N10 hM hMle
    have hMb := hnb _ hM
    clear F9 N9 F7 N8
    have N11 := Mine.News.subs N10 (fun p hp => .tail _ hp)
    clear N10
    rw [List.append_nil] at N11
    repeat' (first | (k_here; (with_reducible show wpAny _ _ (call (Value.builtin "len") [Value.ref _]) _ _ _); first | (k_dflt (refine' len_any (by k_asm) (by k_mem) (by omega) ?_; k_whole)) | refine Hold.mk ?_) | walk1)
    all_goals try k_data
    refine Hold.out ?_
    refine call_len_dict loU (Heap.dictOf_iff.mpr ⟨oU', (N11 _ (.head _)).1, rU⟩) (by rw [kl]; omega) ?_
    rw [kl]
    repeat' (first | (k_here; (with_reducible show wpAny _ _ (call (Value.builtin "len") [Value.ref _]) _ _ _); first | (k_dflt (refine' len_any (by k_asm) (by k_mem) (by omega) ?_; k_whole)) | refine Hold.mk ?_) | walk1)
    all_goals try k_data
    refine ret h6 _ _ oU' oH' kvu' kvh' F10 (Mine.News.subs N11 (fun p hp => ?_)) hl30 rU rD rH rE
    simp only [List.cons_append, List.nil_append, List.mem_cons] at hp ⊢
    rcases hp with h | h | h | h | h | h | h | h | h | h <;> simp only [h, eq_self, true_or, or_true]

theorem fillL2 : (fun (_ : OpenLaw) (_ : Params → Frag) => True) PySem.Challenge.rw_nz0269_01 hd.heap_39 := by
  w_top off
  k_fill
  trivial
set_option maxHeartbeats 0
theorem turn2 {w : World} {dp un : Nat} {fr : Option (List Env)} {gd : Option (List Code)} {s : Shared} {g : Heap} {L fa0 : Addr} {cdv : Value} {m : Str → Option Value} {Q : Flow → Shared → Prop} {E : Value → Shared → Prop}
    {fa : FA} {st : Fam} {held : List (Str × Int)} {U H fd : Addr} {oU oH oc2 oc1 : Obj} {l tl : List (Addr × Obj)} {kvu kvh : List (Str × Value)} {x : Str} {tx : Tok}
    (G : Gr w g) (F : Fr g L s.heap m) (N : News g L s.heap (l ++ ((U, oU) :: (H, oH) :: (L + 1 + 1, oc2) :: (L + 1, oc1) :: tl)))
    (HF : FamIn w st fa l) (qU : oU.IsDictOf (PySem.strKind PR w) kvu) (qD : FlatPairs PyData.str kvu (encS st.par)) (qH : oH.IsDictOf (PySem.strKind PR w) kvh) (qE : FlatPairs PyData.str kvh (encI held))
    (loU : (U == sysModules) = false) (loH : (H == sysModules) = false)
    (m1 : m (Str.ofString "family") = some (.ref fa.fam)) (m2 : m (Str.ofString "name") = some (.str x tx)) (m3 : m (Str.ofString "letters") = some (.ref fd))
    (dc2 : oc2.data = Data.cell (some (Value.ref H))) (dc1 : oc1.data = Data.cell (some (Value.ref U)))
    (FI : Fine st held) (hx : st.nm.contains x = true) (hdp : dp + 10 < recursionLimit) (hu : un + 300 < cLine)
    (ret : ∀ h' tk m', Fr g L h' m' → News g L h' (l ++ ((U, oU) :: (H, oH) :: (L + 1 + 1, oc2) :: (L + 1, oc1) :: tl)) → m' (Str.ofString "family") = some (.ref fa.fam) → m' (Str.ofString "letters") = some (.ref fd) → Q .next { s with heap := h', toks := tk }) :
    wpAny (model PR w) (AR dp un fr gd) (execs body2 (lawEnv L fa0 cdv)) Q E s := by
  conv in body2 => whnf
  unfold lawEnv
  conv in lawScope => whnf
  obtain ⟨fam, dx, pl, nu, pa⟩ := fa
  have HF0 := HF
  refine FamIn.elimO HF fun t1' t2' t3' nd' oQ n1' n2' vn' vp' kvs' el hPq hDq hNq hAq => ?_
  subst el
  have low := HF0.low
  dsimp only [List.cons_append, List.nil_append] at N m1 low ret ⊢
  have T := G.T
  have KX := G.K
  obtain ⟨mean, mg, mb, T⟩ := T
  obtain ⟨k, hk, hnear, hlast⟩ := near_up FI hx
  have hlk : Spec.lookup (.str x) (encI (plc st.nm)) = some (.int ((st.nm.idxOf x : Nat) : Int)) := by
    rw [lookup_encI, asc_plc, if_pos hx]; rfl
  have hlk2 : Spec.lookup (.str (lnear st.par held x).2) (encI (plc st.nm)) = some (.int ((st.nm.idxOf (lnear st.par held x).2 : Nat) : Int)) := by
    rw [lookup_encI, asc_plc, if_pos hlast]; rfl
  have hil : st.nm.idxOf x < st.nm.length := List.idxOf_lt_length_iff.mpr (by simpa using hx)
  have hps := FI.good.e2
  have hns := FI.good.e1
  have hlen := FI.len
  repeat' (walk1)
  all_goals try k_data
  rename Fr _ _ _ _ => F7
  rename News _ _ _ _ => N7
  refine Hold.out ?_
  refine wpAny_call (nearest_c (k := k) (fa := ⟨fam, dx, pl, nu, pa⟩) G F7.keep HF0 ((Has.of_news N7).sub (fun p hp => ?_)) (by omega) (by omega) (by omega) (by omega) (by rw [Int.toNat_natCast]; exact hk) (by first | omega | (simp only [depth_deeper]; omega) | (dsimp only; omega)) ?_)
  · simp only [List.mem_cons, List.not_mem_nil, or_false] at hp ⊢
    rcases hp with h | h | h | h | h <;> simp only [h, eq_self, true_or, or_true]
  intro h3 tk3 tl3 n3 ta tb hh3 hf3 off3
  rw [Int.toNat_natCast, hnear] at hh3
  obtain ⟨F8, N8, ne8⟩ := after_new F7 N7 off3 (hh3 (tl3, _) (.head _)) hf3
  clear F7 N7
  dsimp only at F8 N8 ⊢
  repeat' (walk1)
  all_goals try k_data
  rename Fr _ _ _ _ => F7
  rename News _ _ _ _ => N7
  refine Hold.out ?_
  refine wpAny_call (lnearest_c (up := st.par) (held := held) G F7.keep ((Has.of_news N7).sub (fun p hp => ?_)) qU qD qH qE loU loH (closed_par FI.good) (by rw [has_par]; exact hx) (by first | omega | (simp only [depth_deeper]; omega) | (dsimp only; omega)) ?_)
  · simp only [List.mem_cons, List.not_mem_nil, or_false] at hp ⊢
    rcases hp with h | h <;> simp only [h, eq_self, true_or, or_true]
  intro h4 tk4 tl4 n4 tc td hh4 hf4 off4
  obtain ⟨F8, N8, ne8⟩ := after_new F7 N7 off4 (hh4 (tl4, _) (.head _)) hf4
  clear F7 N7
  dsimp only at F8 N8 ⊢
  repeat' (walk1)
  all_goals try k_data
  rename Fr _ _ _ _ => F7
  rename News _ _ _ _ => N7
  refine Hold.out ?_
  refine wpAny_call (lnearest_c (up := st.par) (held := held) G F7.keep ((Has.of_news N7).sub (fun p hp => ?_)) qU qD qH qE loU loH (closed_par FI.good) (by rw [has_par]; exact hx) (by first | omega | (simp only [depth_deeper]; omega) | (dsimp only; omega)) ?_)
  · simp only [List.mem_cons, List.not_mem_nil, or_false] at hp ⊢
    rcases hp with h | h <;> simp only [h, eq_self, true_or, or_true]
  intro h5 tk5 tl5 n5 te tf hh5 hf5 off5
  obtain ⟨F8, N8, ne8⟩ := after_new F7 N7 off5 (hh5 (tl5, _) (.head _)) hf5
  clear F7 N7
  dsimp only at F8 N8 ⊢
  repeat' (walk1)
  all_goals try k_data
  rename Fr _ _ _ _ => F7
  rename News _ _ _ _ => N7
  refine Hold.out ?_
  refine ne_tup2 N7 (.tail _ (.tail _ (.tail _ (.head _)))) (.head _) (by first | omega | (simp only [Around.deeper_units]; omega) | (dsimp only; omega)) ?_
  repeat' (walk1)
  all_goals try k_data
  exact ret _ _ _ F7 (Mine.News.subs N7 (fun p hp => .tail _ (.tail _ (.tail _ (.tail _ (.tail _ hp)))))) m1 m3

theorem fillL3 : (fun (_ : OpenLaw) (_ : Params → Frag) => True) PySem.Challenge.rw_nz0269_01 hd.heap_39 := by
  w_top off
  k_fill
  trivial
set_option maxHeartbeats 0
theorem last4 {w : World} {dp un : Nat} {fr : Option (List Env)} {gd : Option (List Code)} {s : Shared} {g : Heap} {L fa0 : Addr} {cdv : Value} {m : Str → Option Value} {Q : Flow → Shared → Prop} {E : Value → Shared → Prop}
    {ls : List Letter} {held : List (Str × Int)} {U H fd : Addr} {oU oH oc3 oc2 oc1 : Obj} {tups : List (Addr × Obj)} {kvu kvh : List (Str × Value)} {vs : List Value} {nv : Nat} {v3 : Option Value}
    (G : Gr w g) (F : Fr g L s.heap m) (N : News g L s.heap ((U, oU) :: (H, oH) :: (fd, listO vs nv) :: (L + 1 + 1 + 1, oc3) :: (L + 1 + 1, oc2) :: (L + 1, oc1) :: tups))
    (qU : oU.IsDictOf (PySem.strKind PR w) kvu) (qD : FlatPairs PyData.str kvu (encS (famOf ls).par)) (qH : oH.IsDictOf (PySem.strKind PR w) kvh) (qE : FlatPairs PyData.str kvh (encI held))
    (loU : (U == sysModules) = false) (loH : (H == sysModules) = false) (hLI : LetsIn tups vs ls) (hok : LettersOk ls)
    (m3 : m (Str.ofString "letters") = some (.ref fd)) (dc3 : oc3.data = Data.cell v3)
    (dc2 : oc2.data = Data.cell (some (Value.ref H))) (dc1 : oc1.data = Data.cell (some (Value.ref U)))
    (nU : @Ne Nat U (L + 1 + 1 + 1)) (nH : @Ne Nat H (L + 1 + 1 + 1)) (nF : @Ne Nat fd (L + 1 + 1 + 1)) (nT : ∀ q ∈ tups, q.1 ≠ L + 1 + 1 + 1)
    (FI : Fine (famOf ls) held) (hdp : dp + 10 < recursionLimit) (hu : un + 300 < cLine)
    (ret : ∀ h' tk m', Fr g L h' m' → Q (.ret (.bool true)) { s with heap := h', toks := tk }) :
    wpAny (model PR w) (AR dp un fr gd) (execs rest4 (lawEnv L fa0 cdv)) Q E s := by
  conv in rest4 => whnf
  unfold lawEnv
  conv in lawScope => whnf
  have T := G.T
  have KX := G.K
  obtain ⟨mean, mg, mb, T⟩ := T
  repeat' (walk1)
  all_goals try k_data
  rename Fr _ _ _ _ => F7
  rename News _ _ _ _ => N7
  refine Hold.out ?_
  have hLA : LettersAt s.heap g fd vs nv ls := LetsIn.at hLI (Mine.News.subs N7 (fun p hp => by
    simp only [List.mem_cons] at hp ⊢
    rcases hp with h | h <;> simp only [h, eq_self, true_or, or_true]))
  refine wpAny_call (family_of_c G F7.keep hLA hok (by first | omega | (simp only [depth_deeper]; omega) | (dsimp only; omega)) ?_)
  intro h3 tk3 fa l3 hf3 hh3 hfr3 off3
  obtain ⟨F8, N8, ne8⟩ := after_news F7 N7 off3 hh3 (fun p hp => hfr3 p.1 (by rw [← hf3.map]; exact List.mem_map_of_mem hp))
  clear F7 N7 hLA
  obtain ⟨fam, dx, pl, nu, pa⟩ := fa
  have HF0 := hf3
  refine FamIn.elimO hf3 fun t1' t2' t3' nd' oQ n1' n2' vn' vp' kvs' el hPq hDq hNq hAq => ?_
  subst el
  have low := HF0.low
  have ne9 : ∀ p ∈ [(fam, instObj 73 dx), (dx, dictOf (famD w t1' t2' t3' pl nu pa) nd'), (pl, oQ), (nu, listO vn' n1'), (pa, listO vp' n2')], @Ne Nat (L + 1 + 1 + 1) p.1 := fun p hp => ne8 p hp (L + 1 + 1 + 1, oc3) (.tail _ (.tail _ (.tail _ (.head _))))
  simp only [List.mem_cons, List.not_mem_nil, or_false, forall_eq_or_imp, forall_eq] at ne9
  obtain ⟨b1, b2, b3, b4, b5⟩ := ne9
  dsimp only [List.cons_append, List.nil_append] at N8 low ⊢
  repeat' (walk1)
  all_goals try k_data
  rename_i h7 oc7 F7 N7 dc7
  refine Hold.out ?_
  refine wpAny_call (parents_c (fa := ⟨fam, dx, pl, nu, pa⟩) G F7.keep HF0 ((Has.of_news N7).sub (fun p hp => ?_)) FI.good (by have := FI.len; omega) (by first | omega | (simp only [depth_deeper]; omega) | (dsimp only; omega)) ?_)
  · simp only [List.mem_cons, List.not_mem_nil, or_false] at hp ⊢
    rcases hp with h | h | h | h | h <;> simp only [h, eq_self, true_or, or_true]
  intro h5 tk5 d od kvd hh5 lowd hfrd rdd rdf off5
  obtain ⟨F9, N9, ne10⟩ := after_new F7 N7 off5 (hh5 (d, _) (.head _)) hfrd
  clear F7 N7
  dsimp only at F9 N9 ⊢
  repeat' (walk1)
  all_goals try k_data
  refine Hold.out ?_
  rename Fr _ _ _ _ => F7
  rename News _ _ _ _ => N7
  have hnodup : ((famOf ls).par.map (·.1)).Nodup := by rw [par_keys]; exact FI.good.nd
  refine eq_up N7 (.head _) (.tail _ (.tail _ (.tail _ (.tail _ (.tail _ (.tail _ (.head _))))))) rdd qU lowd loU rdf qD hnodup (by first | omega | (simp only [Around.deeper_units]; omega) | (dsimp only; omega)) ?_
  repeat' (walk1)
  all_goals try k_data
  refine Hold.out ?_
  have N8 := Mine.News.subs N7 (l' := (fam, instObj 73 dx) :: (dx, dictOf (famD w t1' t2' t3' pl nu pa) nd') :: (pl, oQ) :: (nu, listO vn' n1') :: (pa, listO vp' n2') :: (U, oU) :: (H, oH) :: (fd, listO vs nv) :: (L + 1 + 1 + 1, oc7) :: (L + 1 + 1, oc2) :: (L + 1, oc1) :: tups) (fun p hp => .tail _ hp)
  clear N7
  have kl : kvu.length = (famOf ls).nm.length := by rw [← qD.length, encS_length, Fam.par_length]
  have kk : kvu.map (·.1) = (famOf ls).nm := keys_of_flat qD (by rw [encS_map, List.map_map]; show (famOf ls).par.map (fun p => PyData.str p.1) = _; rw [← par_keys, List.map_map]; rfl)
  have hlen15 := FI.len
  have hns := FI.good.e1
  refine comp_list (m := m) (L := L) (h₀ := g) rfl ?_ (by with_unfolding_all rfl) (by decide) (by rfl) (by decide) (by rfl)
  repeat' (walk1)
  all_goals try k_data
  refine Hold.out ?_
  refine sorted_dict rfl F7 N8 (.tail _ (.tail _ (.tail _ (.tail _ (.tail _ (.head _)))))) qU loU (by omega) ?_
  intro c1 vc1 ss1 e1 h6 tk6 F10 N10 lt10 hS1 hP1 hO1
  rw [kk] at hP1
  clear F7 N8
  refine ⟨c1, vc1, e1, _, NumsJ (fun x => (famOf ls).ns.getD ((famOf ls).nm.idxOf x) 0) ss1, rfl, F10, N10, .head _, ?_, ⟨rfl, .nil⟩, ?_, ?_⟩
  · have := strs_len hS1; have := hP1.length_eq; rw [sizeLine_eq]; omega
  · intro gx i2 v2 I2 oI C oC D2 mm h tk2 ys tps E' hv hj hoC hmx F2 N2 off ne
    obtain ⟨x, tx, rfl, hx⟩ := strs_get hS1 i2 hv
    have hxm : x ∈ (famOf ls).nm := hP1.mem_iff.mp (List.mem_of_getElem? hx)
    have hxc : (famOf ls).nm.contains x = true := by simpa using hxm
    have hil : (famOf ls).nm.idxOf x < (famOf ls).nm.length := List.idxOf_lt_length_iff.mpr hxm
    have hlk : Spec.lookup (.str x) (encI (plc (famOf ls).nm)) = some (.int (((famOf ls).nm.idxOf x : Nat) : Int)) := by
      rw [lookup_encI, asc_plc, if_pos hxc]; rfl
    have hj0 := hj
    obtain ⟨rfl, -⟩ := hj
    rw [List.append_nil] at N2 off
    clear hv F10 N10
    repeat' (walk1)
    all_goals try k_data
    exact turn_val (tups := []) F2 (by rw [List.append_nil]; exact N2) (by rw [List.append_nil]; exact off) (hj0.snoc hx)
  · intro D1 h8 tk8 ys1 tps1 F11 N11 off1 hj1
    obtain ⟨rfl, hI1⟩ := hj1
    rw [List.append_nil] at N11
    have hvl1 := strs_len hS1
    rw [hvl1, List.take_length] at hI1
    clear F10 N10
    repeat' (walk1)
    all_goals try k_data
    refine Hold.out ?_
    refine comp_list (m := m) (L := L) (h₀ := g) rfl ?_ (by with_unfolding_all rfl) (by decide) (by rfl) (by decide) (by rfl)
    repeat' (walk1)
    all_goals try k_data
    refine Hold.out ?_
    refine sorted_dict rfl F11 N11 (.tail _ (.tail _ (.tail _ (.tail _ (.tail _ (.tail _ (.tail _ (.head _)))))))) qU loU (by omega) ?_
    intro c2 vc2 ss2 e2 h9 tk9 F12 N12 lt12 hS2 hP2 hO2
    rw [kk] at hP2
    have hss : ss1 = ss2 := sorted_unique _ _ (hP1.trans hP2.symm) hO1 hO2
    clear F11 N11
    refine ⟨c2, vc2, e2, _, NumsJ (fun x => (asc held x).getD 0) ss2, rfl, F12, N12, .head _, ?_, ⟨rfl, .nil⟩, ?_, ?_⟩
    · have := strs_len hS2; have := hP2.length_eq; rw [sizeLine_eq]; omega
    · intro gx i2 v2 I2 oI C oC D2 mm h tk2 ys tps E' hv hj hoC hmx F2 N2 off ne
      obtain ⟨x, tx, rfl, hx⟩ := strs_get hS2 i2 hv
      have hj0 := hj
      obtain ⟨rfl, -⟩ := hj
      rw [List.append_nil] at N2 off
      clear hv F12 N12
      have hsn : ∀ (v : Int) (t : Tok), (asc held x).getD 0 = v → NumsJ (fun x => (asc held x).getD 0) ss2 (i2 + 1) (ys ++ [.int v t]) [] := fun v t e => by
        rw [← e]; exact hj0.snoc hx
      cases hya : asc held x with
      | some v =>
        have hya' : Spec.lookup (PyData.str x) (encI held) = some (.int v) := by rw [lookup_encI, hya]; rfl
        repeat' (walk1)
        all_goals try k_data
        exact turn_val (tups := []) F2 (by rw [List.append_nil]; exact N2) (by rw [List.append_nil]; exact off) (hsn v _ (by rw [hya]; rfl))
      | none =>
        have hya' : Spec.lookup (PyData.str x) (encI held) = none := by rw [lookup_encI, hya]; rfl
        repeat' (walk1)
        all_goals try k_data
        exact turn_val (tups := []) F2 (by rw [List.append_nil]; exact N2) (by rw [List.append_nil]; exact off) (hsn 0 _ (by rw [hya]; rfl))
    · intro D2 h10 tk10 ys2 tps2 F13 N13 off2 hj2
      obtain ⟨rfl, hI2⟩ := hj2
      rw [List.append_nil] at N13
      have hvl2 := strs_len hS2
      rw [hvl2, List.take_length] at hI2
      clear F12 N12
      have heq : ss1.map (fun x => (famOf ls).ns.getD ((famOf ls).nm.idxOf x) 0) = ss2.map (fun x => (asc held x).getD 0) := by
        rw [← hss]
        refine List.map_congr_left fun x hx => ?_
        have hxm : x ∈ (famOf ls).nm := hP1.mem_iff.mp hx
        have hxc : (famOf ls).nm.contains x = true := by simpa using hxm
        have h1 := FI.held x
        have h2 := FI.num x
        rw [h1, hxc]
        show (famOf ls).numAt x = _
        by_cases q : 0 < (famOf ls).numAt x
        · simp [q]
        · simp [q]; omega
      repeat' (walk1)
      all_goals try k_data
      refine Hold.out ?_
      refine ke_eq_ints ⟨_, (N13 (D1, _) (.tail _ (.tail _ (.head _)))).1, rfl, _, rfl⟩ ⟨_, (N13 (D2, _) (.head _)).1, rfl, _, rfl⟩ hI1 hI2 (by first | omega | (simp only [Around.deeper_units]; omega) | (dsimp only; omega)) ?_
      rw [decide_eq_true heq]
      repeat' (walk1)
      all_goals try k_data
      exact ret _ _ _ F13

theorem fillL4 : (fun (_ : OpenLaw) (_ : Params → Frag) => True) PySem.Challenge.rw_nz0269_01 hd.heap_39 := by
  w_top off
  k_fill
  trivial
set_option maxHeartbeats 0
theorem law_holds : PySem.Challenge.rw_nz0269_01.Holds := hd (by
  k_go0
  rename_i w s0 sg mg mb G0 Y fa0 o0 pm doc ho0 hg0 KX X0 V GL T B TE TW x12 x11 M cdv x9 hcd xs hs hlay0 hL1 hr1 hl2 x7 x6 sc vsc x3 hL ra w1 r0 hIs hr0 hcond hcond2 K0 hD0 h01 tk01 F0 oc3 oc20 oc10 dc3 dc20 dc10 N0 XC0
  all_goals try k_fold
  repeat' (walk1)
  all_goals try k_data
  refine Hold.out ?_
  rename Fr _ _ _ _ => F
  rename News _ _ _ _ => N
  have G : Gr _ _ := ⟨KX, _, _, _, T⟩
  rename IntsAre _ (List.take _ _ ++ _) => hI
  rename (List.take _ _).length = _ => hC
  generalize hcs : List.take 7 _ ++ _ = cs at hI
  have hz : cs.length ≤ 9 := by
    rw [← hcs, List.length_append, hC]
    simp only [List.length_cons, List.length_nil]; omega
  refine wpAny_call (letters_c G F.keep (N _ (.head _)).1 hI hz (by decide) ?_)
  intro h2 tk2 fd vs nv hLA off hfd
  dsimp only at off ⊢
  have F2 := after_F F off (fun q => nomatch q) (fun a ha => nomatch ha)
  have N1 := after_N (Mine.News.subs N (fun p hp => .tail _ (.tail _ (.tail _ (.tail _ hp))))) off (fun p _ q => nomatch q)
  clear F N
  obtain ⟨tups, hLI, N2, nt, nf⟩ := letters_led F2 N1 hLA (allc ⟨_, by assumption⟩ (allc ⟨_, by assumption⟩ (allc ⟨_, by assumption⟩ alln)))
  clear N1
  have nt1 := nt _ (.head _); have nt2 := nt _ (.tail _ (.head _)); have nt3 := nt _ (.tail _ (.tail _ (.head _)))
  have nf1 := neN (nf _ (.head _)); have nf2 := neN (nf _ (.tail _ (.head _))); have nf3 := neN (nf _ (.tail _ (.tail _ (.head _))))
  dsimp only [List.cons_append, List.nil_append] at N2 nt1 nt2 nt3 nf1 nf2 nf3
  clear nt nf
  generalize hlg : lettersOf cs = ls at hLI
  have hok : LettersOk ls := hlg ▸ letters_ok hz
  repeat' (walk1)
  all_goals try k_data
  refine Hold.out ?_
  rename Fr _ _ _ _ => F
  rename News _ _ _ _ => N
  refine new_fam KX T F N (by decide) ?_
  intro h3 tk3 fa l' hf F3 N3 hne
  clear F N
  have hf0 := hf
  refine FamIn.elim hf fun t1 t2 t3 nd oP n1 n2 vn vp kvs el hP hD hN hA hnd low => ?_
  subst el
  clear hf
  obtain ⟨fam, dx, pl, nu, pa⟩ := fa
  have nfd : fd ∉ (⟨fam, dx, pl, nu, pa⟩ : FA).all := fun q => hne _ (.head _) _ q rfl
  have nc3 : sg.heap.objs.size + 1 + 1 + 1 ∉ (⟨fam, dx, pl, nu, pa⟩ : FA).all := fun q => hne _ (.tail _ (.head _)) _ q rfl
  have nc2 : sg.heap.objs.size + 1 + 1 ∉ (⟨fam, dx, pl, nu, pa⟩ : FA).all := fun q => hne _ (.tail _ (.tail _ (.head _))) _ q rfl
  have nc1 : sg.heap.objs.size + 1 ∉ (⟨fam, dx, pl, nu, pa⟩ : FA).all := fun q => hne _ (.tail _ (.tail _ (.tail _ (.head _)))) _ q rfl
  have ntf : ∀ q ∈ tups, q.1 ∉ (⟨fam, dx, pl, nu, pa⟩ : FA).all := fun p hp q => hne p (.tail _ (.tail _ (.tail _ (.tail _ hp)))) _ q rfl
  clear hne
  refine ne5 nfd fun a1 a2 a3 a4 a5 => ?_
  refine ne5 nc3 fun b1 b2 b3 b4 b5 => ?_
  refine ne5 nc2 fun c1 c2 c3 c4 c5 => ?_
  refine ne5 nc1 fun e1 e2 e3 e4 e5 => ?_
  have hnd0 := hnd
  refine nodup5 hnd fun f1 f2 f3 f4 f5 f6 f7 f8 f9 f10 => ?_
  clear hnd
  dsimp only [List.cons_append, List.nil_append] at N3 ⊢
  repeat' (walk1)
  all_goals try k_data
  rename_i U h6 o3 loU hs1 fs1 hi1 fi1 l12 H h5 o2 loH hs2 fs2 hi2 fi2 l11 D h4 l10 h3x h2x h1x oc1 dc1 hx oc2 Fx Nx dc2
  refine Hold.out ?_
  refine wpAny_For ?_
  walk1
  have hU := Mine.AllLt.mem l12.2.2.2.2.2.2.2.2.2
  have hH := Mine.AllLt.mem l11.2.2.2.2.2.2.2.2.2.2
  have nU : U ∉ (⟨fam, dx, pl, nu, pa⟩ : FA).all := not_all_of (Nat.ne_of_gt l12.1) (Nat.ne_of_gt l12.2.1) (Nat.ne_of_gt l12.2.2.1) (Nat.ne_of_gt l12.2.2.2.1) (Nat.ne_of_gt l12.2.2.2.2.1)
  have nH : H ∉ (⟨fam, dx, pl, nu, pa⟩ : FA).all := not_all_of (Nat.ne_of_gt l11.2.1) (Nat.ne_of_gt l11.2.2.1) (Nat.ne_of_gt l11.2.2.2.1) (Nat.ne_of_gt l11.2.2.2.2.1) (Nat.ne_of_gt l11.2.2.2.2.2.1)
  have hUa : ∀ a ∈ (⟨fam, dx, pl, nu, pa⟩ : FA).all, a ∉ [U, H] := allc (not2 (Nat.ne_of_lt l12.1) (Nat.ne_of_lt l11.2.1)) (allc (not2 (Nat.ne_of_lt l12.2.1) (Nat.ne_of_lt l11.2.2.1)) (allc (not2 (Nat.ne_of_lt l12.2.2.1) (Nat.ne_of_lt l11.2.2.2.1))
    (allc (not2 (Nat.ne_of_lt l12.2.2.2.1) (Nat.ne_of_lt l11.2.2.2.2.1)) (allc (not2 (Nat.ne_of_lt l12.2.2.2.2.1) (Nat.ne_of_lt l11.2.2.2.2.2.1)) alln))))
  have vfd : fd ∉ [U, H] := not2 (Nat.ne_of_lt l12.2.2.2.2.2.1) (Nat.ne_of_lt l11.2.2.2.2.2.2.1)
  have vc3 : sg.heap.objs.size + 1 + 1 + 1 ∉ [U, H] := not2 (Nat.ne_of_lt l12.2.2.2.2.2.2.1) (Nat.ne_of_lt l11.2.2.2.2.2.2.2.1)
  have vc2 : sg.heap.objs.size + 1 + 1 ∉ [U, H] := not2 (Nat.ne_of_lt l12.2.2.2.2.2.2.2.1) (Nat.ne_of_lt l11.2.2.2.2.2.2.2.2.1)
  have vc1 : sg.heap.objs.size + 1 ∉ [U, H] := not2 (Nat.ne_of_lt l12.2.2.2.2.2.2.2.2.1) (Nat.ne_of_lt l11.2.2.2.2.2.2.2.2.2.1)
  have hfine : ∀ i, i ≤ ls.length → Fine (famOf (ls.take i)) (heldOf (ls.take i)) := by
    intro i hi; rw [← hlg] at hi ⊢; exact fine_at hz i (by rw [lettersOf_len] at hi; exact hi)
  have hstep : ∀ i a, ls[i]? = some a → linkedUp (famOf (ls.take i)).par (mineOf (heldOf (ls.take i)) a.n a.own) a.refs = (famOf (ls.take (i + 1))).par := by
    intro i a ha; rw [← hlg] at ha ⊢; exact step_up hz ha
  clear hlg hcs hI off hfd hLA hf0
  have hsz := Mine.News.allLt Nx
  have zH := hsz.2.1; have zU := hsz.2.2.1; have z1 := hsz.2.2.2.1; have z2 := hsz.2.2.2.2.1; have z3 := hsz.2.2.2.2.2.1; have z4 := hsz.2.2.2.2.2.2.1; have z5 := hsz.2.2.2.2.2.2.2.1
  have z6 := hsz.2.2.2.2.2.2.2.2.1; have z7 := hsz.2.2.2.2.2.2.2.2.2.1; have z8 := hsz.2.2.2.2.2.2.2.2.2.2.1; have z9 := hsz.2.2.2.2.2.2.2.2.2.2.2.1
  have zt := Mine.AllLt.mem hsz.2.2.2.2.2.2.2.2.2.2.2.2
  have N5 : News sg.heap sg.heap.objs.size hx ([(fam, instObj 73 dx), (dx, dictOf (famD w t1 t2 t3 pl nu pa) nd), (pl, oP), (nu, listO vn n1), (pa, listO vp n2)] ++ ((U, o3) :: (H, o2) :: (fd, listO vs nv) :: (sg.heap.objs.size + 1 + 1 + 1, oc3) :: (sg.heap.objs.size + 1 + 1, oc2) :: (sg.heap.objs.size + 1, oc1) :: tups)) := Mine.News.pick Nx [3, 4, 5, 6, 7, 2, 1, 8, 9, 10, 11] 12
  clear Nx
  refine for_list (vs := vs) (lo := listO vs nv) rfl (N5 (fd, _) (by k_mem)).1 rfl ⟨nv, rfl⟩ (fun i h => ∃ m l' oU oH kvu kvh, Fr sg.heap sg.heap.objs.size h m ∧
    News sg.heap sg.heap.objs.size h (l' ++ ((U, oU) :: (H, oH) :: (fd, listO vs nv) :: (sg.heap.objs.size + 1 + 1 + 1, oc3) :: (sg.heap.objs.size + 1 + 1, oc2) :: (sg.heap.objs.size + 1, oc1) :: tups)) ∧
    FamIn w (famOf (ls.take i)) ⟨fam, dx, pl, nu, pa⟩ l' ∧ oU.IsDictOf (PySem.strKind PR w) kvu ∧ FlatPairs PyData.str kvu (encS (famOf (ls.take i)).par) ∧ oH.IsDictOf (PySem.strKind PR w) kvh ∧ FlatPairs PyData.str kvh (encI (heldOf (ls.take i))) ∧
    m (Str.ofString "family") = some (.ref fam) ∧ m (Str.ofString "letters") = some (.ref fd)) ?_ ?_ ?_ ?_ ?_
  · intro it _
    exact ⟨_, _, o3, o2, [], [], Fx.push it, News.pushed N5 it, ⟨⟨t1, t2, t3, nd, oP, n1, n2, vn, vp, kvs, rfl, hP, hD, hN, hA⟩, hnd0, low⟩, hs1, fs1, hs2, fs2, rfl, rfl⟩
  · intro i h h' hInv off
    refine ex6 hInv fun m l' oU oH kvu kvh hQ => an4 hQ fun F N HF q => ?_
    clear hQ hInv
    obtain ⟨F', N'⟩ := stable_up F N off Fx (fun a ha => by rw [List.mem_singleton.mp ha]; exact Nat.le_refl _) (fun a ha => by
      rw [List.map_append, HF.map] at ha
      exact News.lt_top N5 a ha)
    exact ⟨m, l', oU, oH, kvu, kvh, F', N', HF, q⟩
  · intro i h hInv
    refine ex6 hInv fun m l' oU oH kvu kvh hQ => an4 hQ fun F N HF q => ?_
    clear hQ hInv
    exact (N (fd, _) (List.mem_append_right _ (.tail _ (.tail _ (.head _))))).1
  · intro i v h tk it hv hic hit hInv
    refine ex6 hInv fun m l' oU oH kvu kvh hQ => an9 hQ fun F N HF qU qD qH qE m1 m2 => ?_
    clear hQ hInv
    have hi : i < ls.length := by rw [← hLI.1]; exact (List.getElem?_eq_some_iff.mp hv).1
    have hlt : ls[i]? = some ls[i] := List.getElem?_eq_getElem hi
    obtain ⟨Ta, rl, tn, to, na, nr, vr, ev, mT, mr, hr⟩ := hLI.2 i _ hlt
    rw [ev] at hv
    cases hv
    have ho := hok.each ls[i] (List.getElem_mem _)
    have FI := hfine i (by omega)
    have FI' := hfine (i + 1) (by omega)
    have hst := hstep i _ hlt
    have hsh := step_held hlt
    have hfs := famOf_succ hlt
    have hok9 := hok.len
    have hIL := ltN Fx.ns.lt
    have hIg := none_above Fx (Nat.le_refl _)
    dsimp only at hit hIL hIg ⊢
    have hzt := fun q hq => ltN (zt q hq)
    generalize hx.objs.size = I at hit hIL hIg hzt zH zU z1 z2 z3 z4 z5 z6 z7 z8 z9 ⊢
    have hTl := hU _ mT
    have hrl := hU _ mr
    have hTh := hH _ mT
    have hrh := hH _ mr
    have hTl := hU _ mT
    have hrl := hU _ mr
    have hrh := hH _ mr
    have N6 : News sg.heap sg.heap.objs.size h ((Ta, tupO [Value.int ls[i].n tn, Value.str ls[i].own to, Value.ref rl] na) :: (l' ++ ((U, oU) :: (H, oH) :: (rl, listO vr nr) :: (sg.heap.objs.size + 1 + 1, oc2) :: (sg.heap.objs.size + 1, oc1) :: (I, it) :: (fd, listO vs nv) :: (sg.heap.objs.size + 1 + 1 + 1, oc3) :: tups))) :=
      Mine.News.cons (Mine.News.right N _ (.tail _ (.tail _ (.tail _ (.tail _ (.tail _ (.tail _ mT))))))) (Mine.News.both (Mine.News.left N)
        (Mine.News.pick (Mine.News.cons (p := (rl, listO vr nr)) (Mine.News.right N _ (.tail _ (.tail _ (.tail _ (.tail _ (.tail _ (.tail _ mr))))))) (Mine.News.cons (p := (I, it)) ⟨hit, Nat.ne_of_gt hIL, hIg⟩ (Mine.News.right N))) [2, 3, 0, 6, 7, 1, 4, 5] 8))
    clear N
    have HF0 := HF
    refine FamIn.elimO HF fun t1' t2' t3' nd' oQ n1' n2' vn' vp' kvs' el hPq hDq hNq hAq => ?_
    subst el
    dsimp only [List.cons_append, List.nil_append] at N6
    clear N5 Fx
    repeat (fail_if_success (with_reducible show wpAny _ _ (execs _ _) _ _ _)
            walk1)
    rename Fr _ _ _ _ => F7
    rename News _ _ _ _ => N70
    have N7 := Mine.News.subs N70 (fun p hp => .tail _ hp)
    have nI : I ∉ (⟨fam, dx, pl, nu, pa⟩ : FA).all := not_all_of (Nat.ne_of_gt z1) (Nat.ne_of_gt z2) (Nat.ne_of_gt z3) (Nat.ne_of_gt z4) (Nat.ne_of_gt z5)
    have nIU : I ∉ [U, H] := not2 (Nat.ne_of_gt zU) (Nat.ne_of_gt zH)
    have ntU : ∀ q ∈ tups, q.1 ∉ [U, H] := fun q hq => not2 (Nat.ne_of_lt (hU _ hq)) (Nat.ne_of_lt (hH _ hq))
    refine turn1 (L := sg.heap.objs.size) (fa := ⟨fam, dx, pl, nu, pa⟩) (st := famOf (ls.take i)) (st' := famOf (ls.take (i + 1))) (held := heldOf (ls.take i)) (held' := heldOf (ls.take (i + 1))) (U := U) (H := H) (rl := rl)
      (tl := (I, it) :: (fd, listO vs nv) :: (sg.heap.objs.size + 1 + 1 + 1, oc3) :: tups) (n := ls[i].n) (own := ls[i].own) (refs := ls[i].refs) (nr := nr) G F7 N7 HF0 qU qD qH qE loU loH hr m1 rfl rfl rfl dc2 dc1 ?dF ?dU ?dT (Nat.ne_of_lt l11.1) (Nat.ne_of_gt hrl) (Nat.ne_of_gt hrh) FI FI' hfs hst hsh ho.1 ho.2.1 ho.2.2.1 ho.2.2.2 (by decide) (by decide) ?ret
    case dF => exact allc nU (allc nH (allc (ntf _ mr) (allc nc2 (allc nc1 (allc nI (allc nfd (allc nc3 ntf)))))))
    case dU => exact hUa
    case dT => exact allc vc2 (allc vc1 (allc nIU (allc vfd (allc vc3 ntU))))
    case ret =>
      intro h8 tk8 l8 oU' oH' kvu' kvh' F8 N8 HF8 rU rD rH rE
      dsimp only
      refine Hold.out ⟨h8, tk8, rfl, (N8 (I, it) (List.mem_append_right _ (.tail _ (.tail _ (.tail _ (.tail _ (.head _))))))).1, _, l8, oU', oH', kvu', kvh', F8, Mine.News.both (Mine.News.left N8) (Mine.News.pick (Mine.News.right N8) [0, 1, 5, 6, 2, 3] 7), HF8, rU, rD, rH, rE, m1, m2⟩
  · intro h tk hInv
    refine ex6 hInv fun m l' oU oH kvu kvh hQ => an9 hQ fun F N HF qU qD qH qE m1 m2 => ?_
    clear hQ hInv
    rw [hLI.1, List.take_length] at HF qD qE
    have FI := hfine ls.length (Nat.le_refl _)
    rw [List.take_length] at FI
    clear Fx N5
    dsimp only
    repeat' (walk1)
    all_goals try k_data
    refine Hold.out ?_
    refine wpAny_For ?_
    walk1
    have hszF := News.lt_top N
    have hFL := ltN F.ns.lt
    refine for_dict (knd := PySem.strKind PR w) (kvs := kvh) (od := oH) rfl loH (N (H, oH) (List.mem_append_right _ (.tail _ (.head _)))).1 qH (fun i h => ∃ m, Fr sg.heap sg.heap.objs.size h m ∧
      News sg.heap sg.heap.objs.size h (l' ++ ((U, oU) :: (H, oH) :: (fd, listO vs nv) :: (sg.heap.objs.size + 1 + 1 + 1, oc3) :: (sg.heap.objs.size + 1 + 1, oc2) :: (sg.heap.objs.size + 1, oc1) :: tups)) ∧
      m (Str.ofString "family") = some (.ref fam) ∧ m (Str.ofString "letters") = some (.ref fd)) ?_ ?_ ?_ ?_ ?_
    · intro it _
      exact ⟨m, F.push it, News.pushed N it, m1, m2⟩
    · intro i h2 h' hInv off
      refine Exists.elim hInv fun m hQ => an3 hQ fun F2 N2 q => ?_
      clear hQ hInv
      obtain ⟨F', N'⟩ := stable_up F2 N2 off F (fun a ha => by rw [List.mem_singleton.mp ha]; exact Nat.le_refl _) (fun a ha => hszF a ha)
      exact ⟨m, F', N', q⟩
    · intro i h2 hInv
      refine Exists.elim hInv fun m hQ => an3 hQ fun F2 N2 q => ?_
      clear hQ hInv
      exact (N2 (H, oH) (List.mem_append_right _ (.tail _ (.head _)))).1
    · intro i k y v h2 tk2 it hk hkv hic hit hInv
      refine Exists.elim hInv fun m hQ => an4 hQ fun F2 N2 m1 m2 => ?_
      clear hQ hInv
      obtain ⟨x, tx, hxc, rfl⟩ := key_held FI qE ⟨k, y, hk, hkv⟩
      have hIg := none_above F (Nat.le_refl _)
      dsimp only at hit hszF hFL hIg ⊢
      generalize h.objs.size = I at hit hszF hFL hIg ⊢
      have N6 : News sg.heap sg.heap.objs.size h2 (l' ++ ((U, oU) :: (H, oH) :: (sg.heap.objs.size + 1 + 1, oc2) :: (sg.heap.objs.size + 1, oc1) :: (I, it) :: (fd, listO vs nv) :: (sg.heap.objs.size + 1 + 1 + 1, oc3) :: tups)) :=
        Mine.News.both (Mine.News.left N2) (Mine.News.pick (Mine.News.cons (p := (I, it)) ⟨hit, Nat.ne_of_gt hFL, hIg⟩ (Mine.News.right N2)) [1, 2, 5, 6, 0, 3, 4] 7)
      clear N2 N F hszF
      have HF0 := HF
      refine FamIn.elimO HF fun t1' t2' t3' nd' oQ n1' n2' vn' vp' kvs' el hPq hDq hNq hAq => ?_
      subst el
      dsimp only [List.cons_append, List.nil_append] at N6
      repeat (fail_if_success (with_reducible show wpAny _ _ (execs _ _) _ _ _)
              walk1)
      rename Fr _ _ _ _ => F7
      rename News _ _ _ _ => N7
      refine turn2 (L := sg.heap.objs.size) (fa := ⟨fam, dx, pl, nu, pa⟩) (st := famOf ls) (held := heldOf ls) (U := U) (H := H) (fd := fd) (x := x) (tl := (I, it) :: (fd, listO vs nv) :: (sg.heap.objs.size + 1 + 1 + 1, oc3) :: tups) G F7 N7 HF0 qU qD qH qE loU loH m1 rfl m2 dc2 dc1 FI hxc (by decide) (by decide) ?_
      intro h8 tk8 m8 F8 N8 p1 p2
      dsimp only
      refine Hold.out ⟨h8, tk8, rfl, (N8 (I, it) (List.mem_append_right _ (.tail _ (.tail _ (.tail _ (.tail _ (.head _))))))).1, m8, F8, Mine.News.both (Mine.News.left N8) (Mine.News.pick (Mine.News.right N8) [0, 1, 5, 6, 2, 3] 7), p1, p2⟩
    · intro h2 tk2 hInv
      refine Exists.elim hInv fun m hQ => an4 hQ fun F2 N2 m1 m2 => ?_
      clear hQ hInv
      dsimp only
      have nc3' : ∀ a : Addr, a < U → True := fun _ _ => trivial
      have k3 : sg.heap.objs.size + 1 + 1 + 1 < U := l12.2.2.2.2.2.2.1
      have k4 : sg.heap.objs.size + 1 + 1 + 1 < H := l11.2.2.2.2.2.2.2.1
      refine last4 (L := sg.heap.objs.size) (ls := ls) (held := heldOf ls) (U := U) (H := H) (fd := fd) (tups := tups) (vs := vs) (nv := nv) G F2 (Mine.News.subs N2 (fun p hp => List.mem_append_right _ hp)) qU qD qH qE loU loH hLI hok m2 dc3 dc2 dc1 (Nat.ne_of_gt k3) (Nat.ne_of_gt k4) nf1 nt1 FI (by decide) (by decide) ?_
      intro h8 tk8 m8 F8
      refine goodW_bool (m := m8) F8 hg0 (fun _ => rfl) (by with_unfolding_all rfl))

end Mine
theorem PySem.Challenge.cw_nz0269_01_holds : PySem.Challenge.rw_nz0269_01.Holds :=
  Mine.law_holds
