import PyProof.Rows.All
import Wide.All
import OpenK.AllK
import Wide.FinOn
import HandS.ForMost
import HandS.DictComp
import HandS.IsInst
import HandS.FStr
import HandS.Wide
import HandS.WideBits
import HandS.Defaults
import HandS.Conv
import HandS.Walk
import HandS.More
import HandS.ListItems
import KE.KOpsOwn
import PyProof.DictUpdate
import PyProof.TwoTypes
import HandS.WordsDict
import HandS.Ends
import HandS.SlotsOwn
import HandS.Style
import PySem.Challenge.RW_bindspan_k30_env_parts
set_option Elab.async false
set_option linter.all false
set_option maxRecDepth 100000
set_option maxHeartbeats 0
/-! D-layer: heap-free readings over HandS. Data D, slots SD, lifts. -/
namespace DL
open PySem L2

/-- deep data; `cls a`: an object known by its address alone -/
inductive D where
  | non | bl (b : Bool) | int (i : Int) | str (s : Str) | ty (n : String) | cls (a : Addr)
  | tup (xs : List D) | lst (xs : List D) | dct (kvs : List (Key × D)) | obj (C : Addr) (fs : List (Str × D)) | scr (ns : List Int)

section
variable (K : PySem.W.Frag) (nf : Addr → Nat) (H : Hp)
/-- a list that is read and never written any more -/
def FzL (a : Addr) (xs : List V) : Prop := ∃ o, H a = some (.frz o (.lst xs))
/-- the law's script: a list that nobody writes, or one of the module -/
def ScrL (a : Addr) (xs : List V) : Prop := FzL H a xs ∨ ∃ (o : Obj) (its : Array Value) (n : Nat), K.lookup a = some o ∧ o.cls = .type "list" ∧ o.dict = none ∧ o.data = .seq its n ∧ its.size ≤ sizeLine ∧ Vals xs its.toList
mutual
inductive Rel : V → D → Prop
  | non : Rel .non .non
  | bl (b : Bool) : Rel (.bl b) (.bl b)
  | int (i : Int) : Rel (.int i) (.int i)
  | str (s : Str) : Rel (.str s) (.str s)
  | ty (n : String) : Rel (.ty n) (.ty n)
  | cls (a : Addr) : Rel (.ref a) (.cls a)
  | tup {a : Addr} {vs : List V} {ds : List D} : SqT K H a vs → Rels vs ds → Rel (.ref a) (.tup ds)
  | lst {a : Addr} {vs : List V} {ds : List D} : FzL H a vs → Rels vs ds → Rel (.ref a) (.lst ds)
  | dct {a : Addr} {o : Obj} {kvs : List (Key × V)} {kds : List (Key × D)} : H a = some (.frz o (.dK kvs)) → RelK kvs kds → Rel (.ref a) (.dct kds)
  | obj {a C dx : Addr} {fs : List (Str × V)} {fds : List (Str × D)} : H a = some (.ins C dx fs) → nf C ≠ 0 → fs.length = nf C → RelF fs fds → Rel (.ref a) (.obj C fds)
  | scr {a : Addr} {ns : List Int} : ScrL K H a (ns.map .int) → Rel (.ref a) (.scr ns)
inductive Rels : List V → List D → Prop
  | nil : Rels [] []
  | cons {v : V} {vs : List V} {d : D} {ds : List D} : Rel v d → Rels vs ds → Rels (v :: vs) (d :: ds)
inductive RelK : List (Key × V) → List (Key × D) → Prop
  | nil : RelK [] []
  | cons {k : Key} {v : V} {vs : List (Key × V)} {d : D} {ds : List (Key × D)} : Rel v d → RelK vs ds → RelK ((k, v) :: vs) ((k, d) :: ds)
inductive RelF : List (Str × V) → List (Str × D) → Prop
  | nil : RelF [] []
  | cons {k : Str} {v : V} {vs : List (Str × V)} {d : D} {ds : List (Str × D)} : Rel v d → RelF vs ds → RelF ((k, v) :: vs) ((k, d) :: ds)
end
end

/-- never written any more -/
def Fzn (nf : Addr → Nat) : HO → Prop
  | .tup _ => True
  | .frz _ _ => True
  | .ins C _ fs => nf C ≠ 0 ∧ fs.length = nf C
  | _ => False
def Stp (nf : Addr → Nat) (H H' : Hp) : Prop := ∀ a u, H a = some u → Fzn nf u → H' a = some u

section
variable {K : PySem.W.Frag} {nf : Addr → Nat} {H H' H1 H2 : Hp}
theorem Stp.refl : Stp nf H H := fun _ _ h _ => h
theorem Stp.trans (a : Stp nf H H1) (b : Stp nf H1 H2) : Stp nf H H2 := fun x u h f => b x u (a x u h f) f
theorem FzL.mono {a : Addr} {xs : List V} (e : Stp nf H H') (h : FzL H a xs) : FzL H' a xs := by
  obtain ⟨o, h⟩ := h
  exact ⟨o, e _ _ h trivial⟩
theorem FzL.rd {a : Addr} {xs : List V} (h : FzL H a xs) : Rd H a (.lst xs) := .inr h
theorem FzL.sq {a : Addr} {xs : List V} (h : FzL H a xs) : SqL K H a xs := .inl (.inr h)
theorem ScrL.mono {a : Addr} {xs : List V} (e : Stp nf H H') (h : ScrL K H a xs) : ScrL K H' a xs := h.imp (fun z => z.mono e) id
theorem ScrL.sq {a : Addr} {xs : List V} (h : ScrL K H a xs) : SqL K H a xs := by
  rcases h with h | h
  · exact h.sq
  · exact .inr h
theorem ScrL.of {a : Addr} {xs : List V} (h : SqL K H a xs) (hO : ∀ b, H b = none ∨ ∃ o xs, H b = some (.frz o (.lst xs))) : ScrL K H a xs := by
  rcases h with (h | h) | h
  · rcases hO a with z | ⟨o, ys, z⟩
    · rw [h] at z; cases z
    · rw [h] at z; cases z
  · exact .inl h
  · exact .inr h
theorem sqT_mono {a : Addr} {xs : List V} (e : Stp nf H H') (h : SqT K H a xs) : SqT K H' a xs := by
  rcases h with (h | ⟨o, h⟩) | h
  · exact .inl (.inl (e _ _ h trivial))
  · exact .inl (.inr ⟨o, e _ _ h trivial⟩)
  · exact .inr h
mutual
theorem Rel.mono (e : Stp nf H H') : ∀ {v : V} {d : D}, Rel K nf H v d → Rel K nf H' v d
  | _, _, .non => .non
  | _, _, .bl b => .bl b
  | _, _, .int i => .int i
  | _, _, .str s => .str s
  | _, _, .ty n => .ty n
  | _, _, .cls a => .cls a
  | _, _, .tup h r => .tup (sqT_mono e h) (Rels.mono e r)
  | _, _, .lst h r => .lst (h.mono e) (Rels.mono e r)
  | _, _, .dct h r => .dct (e _ _ h trivial) (RelK.mono e r)
  | _, _, .obj h n l r => .obj (e _ _ h ⟨n, l⟩) n l (RelF.mono e r)
  | _, _, .scr h => .scr (h.mono e)
theorem Rels.mono (e : Stp nf H H') : ∀ {vs : List V} {ds : List D}, Rels K nf H vs ds → Rels K nf H' vs ds
  | _, _, .nil => .nil
  | _, _, .cons h r => .cons (Rel.mono e h) (Rels.mono e r)
theorem RelK.mono (e : Stp nf H H') : ∀ {vs : List (Key × V)} {ds : List (Key × D)}, RelK K nf H vs ds → RelK K nf H' vs ds
  | _, _, .nil => .nil
  | _, _, .cons h r => .cons (Rel.mono e h) (RelK.mono e r)
theorem RelF.mono (e : Stp nf H H') : ∀ {vs : List (Str × V)} {ds : List (Str × D)}, RelF K nf H vs ds → RelF K nf H' vs ds
  | _, _, .nil => .nil
  | _, _, .cons h r => .cons (Rel.mono e h) (RelF.mono e r)
end
theorem Rels.length : ∀ {vs : List V} {ds : List D}, Rels K nf H vs ds → vs.length = ds.length
  | _, _, .nil => rfl
  | _, _, .cons _ r => by rw [List.length_cons, List.length_cons, Rels.length r]
theorem Rels.get : ∀ {vs : List V} {ds : List D} {i : Nat} {d : D}, Rels K nf H vs ds → ds[i]? = some d → ∃ v, vs[i]? = some v ∧ Rel K nf H v d
  | _, _, _, _, .nil, e => by simp at e
  | _, _, 0, _, .cons h _, e => by simp at e; subst e; exact ⟨_, rfl, h⟩
  | _, _, i + 1, d, .cons _ r, e => by
    obtain ⟨v, h1, h2⟩ := Rels.get (i := i) (d := d) r (by simpa using e)
    exact ⟨v, by simpa using h1, h2⟩
theorem Rels.getV : ∀ {vs : List V} {ds : List D} {i : Nat} {v : V}, Rels K nf H vs ds → vs[i]? = some v → ∃ d, ds[i]? = some d ∧ Rel K nf H v d
  | _, _, _, _, .nil, e => by simp at e
  | _, _, 0, _, .cons h _, e => by simp at e; subst e; exact ⟨_, rfl, h⟩
  | _, _, i + 1, d, .cons _ r, e => by
    obtain ⟨v, h1, h2⟩ := Rels.getV (i := i) (v := d) r (by simpa using e)
    exact ⟨v, by simpa using h1, h2⟩
theorem Rels.append : ∀ {vs ws : List V} {ds es : List D}, Rels K nf H vs ds → Rels K nf H ws es → Rels K nf H (vs ++ ws) (ds ++ es)
  | _, _, _, _, .nil, s => s
  | _, _, _, _, .cons h r, s => .cons h (Rels.append r s)
theorem Rels.take : ∀ {vs : List V} {ds : List D} (n : Nat), Rels K nf H vs ds → Rels K nf H (vs.take n) (ds.take n)
  | _, _, 0, _ => .nil
  | _, _, _ + 1, .nil => .nil
  | _, _, n + 1, .cons h r => .cons h (Rels.take n r)
theorem Rels.drop : ∀ {vs : List V} {ds : List D} (n : Nat), Rels K nf H vs ds → Rels K nf H (vs.drop n) (ds.drop n)
  | _, _, 0, r => r
  | _, _, _ + 1, .nil => .nil
  | _, _, n + 1, .cons _ r => Rels.drop n r

/-! ### slots -/
/-- an owned thing: its value, the addresses that it owns, what is true of the heap there -/
structure OA (nf : Addr → Nat) where
  inv : V → List Addr → Hp → Prop
  frame : ∀ {v fp H H'}, inv v fp H → (∀ a ∈ fp, H' a = H a) → Stp nf H H' → inv v fp H'
  trk : ∀ {v fp H}, inv v fp H → ∀ a ∈ fp, ∃ u, H a = some u ∧ ¬ Fzn nf u
  nd : ∀ {v fp H}, inv v fp H → fp.Nodup
inductive SD (nf : Addr → Nat) where
  | un | fz (d : D) | ow (v : V) (A : OA nf) | fr (v : V) (d : D)
def SlotR (K : PySem.W.Frag) (nf : Addr → Nat) (H : Hp) (o : Option V) (fp : List Addr) : SD nf → Prop
  | .un => fp = []
  | .fz d => fp = [] ∧ ∃ v, o = some v ∧ Rel K nf H v d
  | .ow v A => o = some v ∧ A.inv v fp H
  | .fr v d => fp = [] ∧ o = some v ∧ Rel K nf H v d
inductive EnvL (K : PySem.W.Frag) (nf : Addr → Nat) (H : Hp) : List (Option V) → List (SD nf) → List Addr → Prop
  | nil : EnvL K nf H [] [] []
  | cons {o σ s env fp fq} : SlotR K nf H o fp s → EnvL K nf H σ env fq → (∀ a ∈ fp, a ∉ fq) → EnvL K nf H (o :: σ) (s :: env) (fp ++ fq)
/-- what may change: the owned objects; new ones may come -/
structure Ch (fp : List Addr) (H : Hp) (fp' : List Addr) (H' : Hp) : Prop where
  keep : ∀ a u, H a = some u → a ∉ fp → H' a = some u
  sub : ∀ a ∈ fp', a ∈ fp ∨ H a = none
  there : ∀ a, H' a = none → H a = none
theorem Ch.refl {fp : List Addr} : Ch fp H fp H := ⟨fun _ _ h _ => h, fun _ h => .inl h, fun _ h => h⟩
theorem Ch.trans {fp fp1 fp2 : List Addr} (x : Ch fp H fp1 H1) (y : Ch fp1 H1 fp2 H2) : Ch fp H fp2 H2 := by
  refine ⟨fun a u h n => y.keep a u (x.keep a u h n) fun m => ?_, fun a m => ?_, fun a h => x.there a (y.there a h)⟩
  · rcases x.sub a m with q | q
    · exact n q
    · rw [q] at h; cases h
  · rcases y.sub a m with q | q
    · exact x.sub a q
    · exact .inr (x.there a q)
theorem SlotR.frame {o : Option V} {fp : List Addr} {s : SD nf} (h : SlotR K nf H o fp s) (k : ∀ a ∈ fp, H' a = H a) (st : Stp nf H H') : SlotR K nf H' o fp s := by
  cases s with
  | un => exact h
  | fz d => obtain ⟨e, v, ev, r⟩ := h; exact ⟨e, v, ev, r.mono st⟩
  | ow v A => exact ⟨h.1, A.frame h.2 k st⟩
  | fr v d => exact ⟨h.1, h.2.1, h.2.2.mono st⟩
theorem SlotR.trk {o : Option V} {fp : List Addr} {s : SD nf} (h : SlotR K nf H o fp s) : ∀ a ∈ fp, ∃ u, H a = some u ∧ ¬ Fzn nf u := by
  cases s with
  | un => cases (show fp = [] from h); intro a m; cases m
  | fz d => obtain ⟨e, _⟩ := h; subst e; intro a m; cases m
  | ow v A => exact A.trk h.2
  | fr v d => obtain ⟨e, _⟩ := h; subst e; intro a m; cases m
theorem SlotR.nd {o : Option V} {fp : List Addr} {s : SD nf} (h : SlotR K nf H o fp s) : fp.Nodup := by
  cases s with
  | un => cases (show fp = [] from h); exact List.nodup_nil
  | fz d => obtain ⟨e, _⟩ := h; subst e; exact List.nodup_nil
  | ow v A => exact A.nd h.2
  | fr v d => obtain ⟨e, _⟩ := h; subst e; exact List.nodup_nil
theorem EnvL.trk {σ : List (Option V)} {env : List (SD nf)} {fp : List Addr} (h : EnvL K nf H σ env fp) : ∀ a ∈ fp, ∃ u, H a = some u ∧ ¬ Fzn nf u := by
  induction h with
  | nil => intro a m; cases m
  | cons s _ _ ih =>
    intro a m
    rcases List.mem_append.mp m with m | m
    · exact s.trk a m
    · exact ih a m
theorem EnvL.frame {σ : List (Option V)} {env : List (SD nf)} {fp : List Addr} (h : EnvL K nf H σ env fp) (k : ∀ a ∈ fp, H' a = H a) (st : Stp nf H H') : EnvL K nf H' σ env fp := by
  induction h with
  | nil => exact .nil
  | cons s _ d ih => exact .cons (s.frame (fun a m => k a (List.mem_append_left _ m)) st) (ih fun a m => k a (List.mem_append_right _ m)) d
theorem EnvL.length {σ : List (Option V)} {env : List (SD nf)} {fp : List Addr} (h : EnvL K nf H σ env fp) : σ.length = env.length := by
  induction h with
  | nil => rfl
  | cons _ _ _ ih => rw [List.length_cons, List.length_cons, ih]
/-- the owned objects are no frozen ones: all that is frozen stands behind a change -/
theorem Ch.stpL {fp fp' : List Addr} {σ : List (Option V)} {env : List (SD nf)} (c : Ch fp H fp' H') (h : EnvL K nf H σ env fp) : Stp nf H H' := fun a u e f => c.keep a u e fun m => by
  obtain ⟨u', e', nf'⟩ := h.trk a m
  rw [e] at e'; cases e'
  exact nf' f
/-- all stands, new things may have come -/
def Xt (H H' : Hp) : Prop := ∀ a u, H a = some u → H' a = some u
theorem Xt.refl : Xt H H := fun _ _ h => h
theorem Xt.trans (a : Xt H H1) (b : Xt H1 H2) : Xt H H2 := fun x u h => b x u (a x u h)
theorem Xt.stp (x : Xt H H') : Stp nf H H' := fun a u e _ => x a u e
theorem Xt.new {p : Addr} {o : HO} (h : H p = none) : Xt H (upd H p o) := fun a u e => by rw [upd_ne (ne_of_none e h)]; exact e
theorem Xt.ch {fp : List Addr} (x : Xt H H') : Ch fp H fp H' := ⟨fun a u h _ => x a u h, fun _ h => .inl h, fun a h => by
  cases q : H a with
  | none => rfl
  | some u => rw [x a u q] at h; cases h⟩
theorem EnvL.ext {σ : List (Option V)} {env : List (SD nf)} {fp : List Addr} (h : EnvL K nf H σ env fp) (x : Xt H H') : EnvL K nf H' σ env fp :=
  h.frame (fun a m => by obtain ⟨u, e, _⟩ := h.trk a m; rw [e, x a u e]) x.stp
/-- THE SLOT i: what it holds, and how it is replaced -/
theorem EnvL.at {σ : List (Option V)} {env : List (SD nf)} {fp : List Addr} (h : EnvL K nf H σ env fp) : ∀ {i : Nat} {s : SD nf}, env[i]? = some s →
    ∃ o fi, σ[i]? = some o ∧ SlotR K nf H o fi s ∧ (∀ a ∈ fi, a ∈ fp) ∧
      ∀ H' o' s' fi', SlotR K nf H' o' fi' s' → (∀ a u, H a = some u → a ∉ fi → H' a = some u) → (∀ a ∈ fi', a ∈ fi ∨ H a = none) → Stp nf H H' →
        ∃ fp', EnvL K nf H' (σ.set i o') (env.set i s') fp' ∧ ∀ a ∈ fp', a ∈ fp ∨ H a = none := by
  induction h with
  | nil => intro i s e; simp at e
  | @cons o σ s env fp fq hs he hd ih =>
    intro i s0 e
    cases i with
    | zero =>
      simp at e
      subst e
      refine ⟨o, fp, rfl, hs, fun a m => List.mem_append_left _ m, fun H' o' s' fi' hs' k sub st => ?_⟩
      have kq : ∀ a ∈ fq, H' a = H a := fun a m => by
        obtain ⟨u, eu, _⟩ := he.trk a m
        rw [eu]
        exact k a u eu fun z => hd a z m
      refine ⟨fi' ++ fq, .cons hs' (he.frame kq st) fun a m z => ?_, fun a m => ?_⟩
      · rcases sub a m with q | q
        · exact hd a q z
        · obtain ⟨u, eu, _⟩ := he.trk a z
          rw [q] at eu; cases eu
      · rcases List.mem_append.mp m with m | m
        · exact (sub a m).imp (List.mem_append_left _) id
        · exact .inl (List.mem_append_right _ m)
    | succ i =>
      obtain ⟨o1, fi, e1, s1, sub1, rep⟩ := ih (i := i) (s := s0) (by simpa using e)
      refine ⟨o1, fi, by simpa using e1, s1, fun a m => List.mem_append_right _ (sub1 a m), fun H' o' s' fi' hs' k sub st => ?_⟩
      obtain ⟨fp', he', sub'⟩ := rep H' o' s' fi' hs' k sub st
      have kp : ∀ a ∈ fp, H' a = H a := fun a m => by
        obtain ⟨u, eu, _⟩ := hs.trk a m
        rw [eu]
        exact k a u eu fun z => hd a m (sub1 a z)
      refine ⟨fp ++ fp', .cons (hs.frame kp st) he' fun a m z => ?_, fun a m => ?_⟩
      · rcases sub' a z with q | q
        · exact hd a m q
        · obtain ⟨u, eu, _⟩ := hs.trk a m
          rw [q] at eu; cases eu
      · rcases List.mem_append.mp m with m | m
        · exact .inl (List.mem_append_left _ m)
        · exact (sub' a m).imp (List.mem_append_right _) id
end
/-! ### the anchor: what is true of the owned addresses and the heap since the body began -/
class Anch where
  p : List Addr → Hp → Prop
  up : ∀ {fp H fp' H'}, p fp H → Ch fp H fp' H' → p fp' H'
def Anch.triv : Anch := ⟨fun _ _ => True, fun _ _ => trivial⟩
instance (priority := low) anchTriv : Anch := Anch.triv
/-- slots against the heap, under the anchor -/
def EnvR [Anch] (K : PySem.W.Frag) (nf : Addr → Nat) (H : Hp) (σ : List (Option V)) (env : List (SD nf)) (fp : List Addr) : Prop := EnvL K nf H σ env fp ∧ Anch.p fp H
section
variable [Anch] {K : PySem.W.Frag} {nf : Addr → Nat} {H H' H1 H2 : Hp} {σ : List (Option V)} {env : List (SD nf)} {fp fp' : List Addr}
theorem EnvR.l (R : EnvR K nf H σ env fp) : EnvL K nf H σ env fp := R.1
theorem EnvR.trk (R : EnvR K nf H σ env fp) : ∀ a ∈ fp, ∃ u, H a = some u ∧ ¬ Fzn nf u := R.1.trk
theorem EnvR.length (R : EnvR K nf H σ env fp) : σ.length = env.length := R.1.length
theorem Ch.stp {env : List (SD nf)} (c : Ch fp H fp' H') (R : EnvR K nf H σ env fp) : Stp nf H H' := c.stpL R.1
theorem EnvR.ext (R : EnvR K nf H σ env fp) (x : Xt H H') : EnvR K nf H' σ env fp := ⟨R.1.ext x, Anch.up R.2 x.ch⟩
theorem Ch.put {p : Addr} {o : HO} (c : Ch fp H fp' H') (hp : H p = none) : Ch fp H fp' (upd H' p o) := ⟨fun a u e n => by rw [upd_ne (ne_of_none e hp)]; exact c.keep a u e n, c.sub, fun a e => c.there a (by
  by_cases ha : a = p
  · subst ha; rw [upd_same] at e; cases e
  · rw [upd_ne ha] at e; exact e)⟩
theorem EnvR.re {σ' : List (Option V)} {env' : List (SD nf)} (R : EnvR K nf H σ env fp) (R' : EnvL K nf H' σ' env' fp') (c : Ch fp H fp' H') : EnvR K nf H' σ' env' fp' := ⟨R', Anch.up R.2 c⟩
theorem EnvR.rex {σ' : List (Option V)} {env' : List (SD nf)} (R : EnvR K nf H σ env fp) (R' : EnvL K nf H' σ' env' fp') (c : Ch fp H fp' H') : ∃ fp', EnvR K nf H' σ' env' fp' ∧ Ch fp H fp' H' := ⟨fp', R.re R' c, c⟩
/-- the owned ones stand; the anchor by a change from further back -/
theorem EnvR.frame {fp0 : List Addr} {H0 : Hp} (R : EnvR K nf H σ env fp) (k : ∀ a ∈ fp, H' a = H a) (st : Stp nf H H') (p0 : Anch.p fp0 H0) (c : Ch fp0 H0 fp H') : EnvR K nf H' σ env fp := ⟨R.1.frame k st, Anch.up p0 c⟩
theorem EnvR.at (R : EnvR K nf H σ env fp) : ∀ {i : Nat} {s : SD nf}, env[i]? = some s →
    ∃ o fi, σ[i]? = some o ∧ SlotR K nf H o fi s ∧ (∀ a ∈ fi, a ∈ fp) ∧
      ∀ H' o' s' fi', SlotR K nf H' o' fi' s' → (∀ a u, H a = some u → a ∉ fi → H' a = some u) → (∀ a ∈ fi', a ∈ fi ∨ H a = none) → Stp nf H H' →
        ∃ fp', EnvL K nf H' (σ.set i o') (env.set i s') fp' ∧ ∀ a ∈ fp', a ∈ fp ∨ H a = none := R.1.at
end
end DL

namespace DL
open PySem L2
abbrev EV (nf : Addr → Nat) := List (SD nf)
abbrev DT (nf : Addr → Nat) := EV nf → (D → EV nf → Prop) → Prop
abbrev DB (nf : Addr → Nat) := EV nf → (Bool → EV nf → Prop) → Prop
abbrev DAs (nf : Addr → Nat) := EV nf → (List D → EV nf → Prop) → Prop
structure EndsD (nf : Addr → Nat) where
  nx : EV nf → Prop
  rt : D → EV nf → Prop
  bk : EV nf → Prop := fun _ => False
  ct : EV nf → Prop := fun _ => False
  ro : V → OA nf → EV nf → Prop := fun _ _ _ => False
abbrev DTS (nf : Addr → Nat) := EndsD nf → EV nf → Prop

section
variable [Anch] (K : PySem.W.Frag) (nf : Addr → Nat)
def lift (td : DT nf) : TE := fun σ H Q => ∃ env fp Qd, EnvR K nf H σ env fp ∧ td env Qd ∧ ∀ v H' d env' fp', Rel K nf H' v d → EnvR K nf H' σ env' fp' → Ch fp H fp' H' → Qd d env' → Q v H'
def liftB (td : DB nf) : TT := fun σ H Q => ∃ env fp Qd, EnvR K nf H σ env fp ∧ td env Qd ∧ ∀ b H' env' fp', EnvR K nf H' σ env' fp' → Ch fp H fp' H' → Qd b env' → Q b H'
def liftA (td : DAs nf) : TA := fun σ H Q => ∃ env fp Qd, EnvR K nf H σ env fp ∧ td env Qd ∧ ∀ vs H' ds env' fp', Rels K nf H' vs ds → EnvR K nf H' σ env' fp' → Ch fp H fp' H' → Qd ds env' → Q vs H'
structure Br (H : Hp) (fp : List Addr) (De : EndsD nf) (E : Ends) : Prop where
  nx : ∀ σ' H' env' fp', EnvR K nf H' σ' env' fp' → Ch fp H fp' H' → De.nx env' → E.nx σ' H'
  rt : ∀ v d σ' H' env' fp', Rel K nf H' v d → EnvR K nf H' σ' env' fp' → Ch fp H fp' H' → De.rt d env' → E.rt v H'
  bk : ∀ σ' H' env' fp', EnvR K nf H' σ' env' fp' → Ch fp H fp' H' → De.bk env' → E.bk σ' H'
  ct : ∀ σ' H' env' fp', EnvR K nf H' σ' env' fp' → Ch fp H fp' H' → De.ct env' → E.ct σ' H'
  ro : ∀ v A σ' H' env' fp' fi, A.inv v fi H' → EnvR K nf H' σ' env' fp' → (∀ a ∈ fi, a ∉ fp') → Ch fp H (fi ++ fp') H' → De.ro v A env' → E.rt v H'
def liftS (td : DTS nf) : TS := fun E σ H => ∃ env fp De, EnvR K nf H σ env fp ∧ td De env ∧ Br K nf H fp De E
end

section
variable [Anch] {X : Cx} {nf : Addr → Nat} {K : PySem.W.Frag}
theorem pe_imp {e : Expr} {t t' : TE} (h : PE X e t) (i : ∀ σ H Q, t' σ H Q → t σ H Q) : PE X e t' := ⟨fun pins s σ H Q I q => h.run pins s σ H Q I (i σ H Q q)⟩
theorem pt_imp {e : Expr} {t t' : TT} (h : PT X e t) (i : ∀ σ H Q, t' σ H Q → t σ H Q) : PT X e t' := ⟨fun pins s σ H Q I q => h.run pins s σ H Q I (i σ H Q q)⟩
theorem pw_imp {e : Expr} {t t' : TT} (h : PW X e t) (i : ∀ σ H Q, t' σ H Q → t σ H Q) : PW X e t' := ⟨fun w pins s σ H Q I q => h.run w pins s σ H Q I (i σ H Q q)⟩
theorem pa_imp {es : List Expr} {t t' : TA} (h : PA X es t) (i : ∀ σ H Q, t' σ H Q → t σ H Q) : PA X es t' := ⟨fun p pins s σ H Q I q => h.run p pins s σ H Q I (i σ H Q q)⟩
theorem ps_imp {st : Stmt} {t t' : TS} (h : PS X st t) (i : ∀ E σ H, t' E σ H → t E σ H) : PS X st t' := ⟨fun pins s σ H E I q => h.run pins s σ H E I (i E σ H q)⟩
theorem pss_imp {st : List Stmt} {t t' : TS} (h : PSs X st t) (i : ∀ E σ H, t' E σ H → t E σ H) : PSs X st t' := ⟨fun pins s σ H E I q => h.run pins s σ H E I (i E σ H q)⟩

variable (X nf)
abbrev DE (e : Expr) (td : DT nf) : Prop := PE X e (lift X.K nf td)
abbrev DC (e : Expr) (td : DB nf) : Prop := PT X e (liftB X.K nf td)
abbrev DW (e : Expr) (td : DB nf) : Prop := PW X e (liftB X.K nf td)
abbrev DA (es : List Expr) (td : DAs nf) : Prop := PA X es (liftA X.K nf td)
abbrev DS (st : Stmt) (td : DTS nf) : Prop := PS X st (liftS X.K nf td)
abbrev DSs (st : List Stmt) (td : DTS nf) : Prop := PSs X st (liftS X.K nf td)
variable {X nf}

/-! ### use of a lifted reading -/
theorem lift_run {td : DT nf} {σ : St} {H : Hp} {Q : VK} {env : EV nf} {fp : List Addr} {Qd : D → EV nf → Prop} (R : EnvR K nf H σ env fp) (h : td env Qd)
    (k : ∀ v H' d env' fp', Rel K nf H' v d → EnvR K nf H' σ env' fp' → Ch fp H fp' H' → Qd d env' → Q v H') : lift K nf td σ H Q := ⟨env, fp, Qd, R, h, k⟩

/-! ### names and constants -/
def dVar (i : Nat) : DT nf := fun env Q => ∃ d, env[i]? = some (.fz d) ∧ Q d env
theorem de_var {i : Nat} {e : Expr} (h : PE X e (tVar i)) : DE X nf e (dVar i) := pe_imp h fun σ H Q ⟨env, fp, Qd, R, ⟨d, e, q⟩, k⟩ => by
  obtain ⟨o, fi, e1, ⟨_, v, ev, r⟩, _⟩ := R.at e
  subst ev
  exact ⟨v, e1, k v H d env fp r R Ch.refl q⟩
theorem dv (i : Nat) {x : Str} {pos : Pos} (hN : X.N[i]? = some x := by rfl) (hv : Vis X.env.scope x := by first | exact Or.inl rfl | exact Or.inr (Or.inl rfl) | exact Or.inr (Or.inr rfl)) (hd : (x == ("__debug__" : Str)) = false := by decide)
    (hcd : (x == ("__classdict__" : Str)) = false := by decide) : DE X nf (.Name x pos) (dVar i) := de_var (pv i hN hv hd hcd)
def dC (d : D) : DT nf := fun env Q => Q d env
theorem de_c {e : Expr} {v : V} {d : D} (h : PE X e (tC v)) (r : ∀ H, Rel X.K nf H v d) : DE X nf e (dC d) := pe_imp h fun σ H Q ⟨env, fp, Qd, R, q, k⟩ => k v H d env fp (r H) R Ch.refl q
theorem de_int {i j pos} : DE X nf (.Constant (.int i) j pos) (dC (.int i)) := de_c pe_int fun _ => .int i
theorem de_bl {b j pos} : DE X nf (.Constant (.bool b) j pos) (dC (.bl b)) := de_c pe_bl fun _ => .bl b
theorem de_non {j pos} : DE X nf (.Constant .none j pos) (dC .non) := de_c pe_non fun _ => .non
theorem de_str {x j pos} : DE X nf (.Constant (.str x) j pos) (dC (.str x)) := de_c pe_str fun _ => .str x

/-! ### operations on values -/
/-- r on values that stand for x, y gives one that stands for z; new things may come -/
def OpD (K : PySem.W.Frag) (nf : Addr → Nat) (r : R2) (f : D → D → D → Prop) : Prop := ∀ H v w x y z, Rel K nf H v x → Rel K nf H w y → f x y z → ∀ Q : VK, (∀ u H', Rel K nf H' u z → Xt H H' → Q u H') → r v w H Q
def dOp (f : D → D → D → Prop) (da db : DT nf) : DT nf := fun env Q => da env fun x env1 => db env1 fun y env2 => ∃ z, f x y z ∧ Q z env2
theorem lift_op {r : R2} {f : D → D → D → Prop} {da db : DT nf} (o : OpD K nf r f) (σ : St) (H : Hp) (Q : VK) (h : lift K nf (dOp f da db) σ H Q) : tOp r (lift K nf da) (lift K nf db) σ H Q := by
  obtain ⟨env, fp, Qd, R, h, k⟩ := h
  refine lift_run R h fun v H1 x env1 fp1 r1 R1 c1 h1 => ?_
  refine lift_run R1 h1 fun w H2 y env2 fp2 r2 R2 c2 ⟨z, hz, q⟩ => ?_
  refine o H2 v w x y z (r1.mono (c2.stp R1)) r2 hz Q fun u H3 r3 x3 => ?_
  exact k u H3 z env2 fp2 r3 (R2.ext x3) ((c1.trans c2).trans x3.ch) q
theorem de_op {a b : Expr} {op : Operator} {pos : Pos} {r : R2} {f : D → D → D → Prop} {da db : DT nf} (ho : OpR X (binaryOp op) r) (o : OpD X.K nf r f) (ha : DE X nf a da) (hb : DE X nf b db) : DE X nf (.BinOp a op b pos) (dOp f da db) :=
  pe_imp (pe_op ho ha hb) (lift_op o)
theorem de_cmp {a b : Expr} {op : CmpOp} {pos : Pos} {r : R2} {f : D → D → D → Prop} {da db : DT nf} (ho : OpR X (compareOp op) r) (o : OpD X.K nf r f) (ha : DE X nf a da) (hb : DE X nf b db) (hm : behindInMarks op b = false) : DE X nf (.Compare a [op] [b] pos) (dOp f da db) :=
  pe_imp (pe_cmpR ho ha hb hm) (lift_op o)
theorem de_ix {a b : Expr} {pos : Pos} {r : R2} {f : D → D → D → Prop} {da db : DT nf} (ho : IxR X r) (o : OpD X.K nf r f) (ha : DE X nf a da) (hb : DE X nf b db) (hs : PlainIx b) : DE X nf (.Subscript a b pos) (dOp f da db) :=
  pe_imp (pe_ix ho ha hb hs) (lift_op o)

/-! ### tests -/
def dBv (da : DT nf) : DB nf := fun env Q => da env fun x env1 => ∃ b, x = .bl b ∧ Q b env1
theorem rel_bl {H : Hp} {v : V} {b : Bool} (h : Rel K nf H v (.bl b)) : v = .bl b := by cases h; rfl
theorem rel_int {H : Hp} {v : V} {b : Int} (h : Rel K nf H v (.int b)) : v = .int b := by cases h; rfl
theorem rel_str {H : Hp} {v : V} {b : Str} (h : Rel K nf H v (.str b)) : v = .str b := by cases h; rfl
theorem rel_non {H : Hp} {v : V} (h : Rel K nf H v .non) : v = .non := by cases h; rfl
theorem lift_B {da : DT nf} (σ : St) (H : Hp) (Q : Bool → Hp → Prop) (h : liftB K nf (dBv da) σ H Q) : tB (lift K nf da) σ H Q := by
  obtain ⟨env, fp, Qd, R, h, k⟩ := h
  refine lift_run R h fun v H1 x env1 fp1 r1 R1 c1 ⟨b, e, q⟩ => ?_
  subst e
  exact ⟨b, rel_bl r1, k b H1 env1 fp1 R1 c1 q⟩
/-- an expression of a bool, as a test (not a comparison, and, or, not) -/
theorem dc_val {e : Expr} {da : DT nf} (h : DE X nf e da) (he : ∀ whole, isTrue e X.env whole = (do let v ← whole; standAt e.pos; holding [v] (truthy v)) := by intro _; rfl) : DC X nf e (dBv da) := pt_imp (pt_val h he) lift_B
def dAnd (a b : DB nf) : DB nf := fun env Q => a env fun c env1 => if c = true then b env1 Q else Q false env1
def dOr (a b : DB nf) : DB nf := fun env Q => a env fun c env1 => if c = true then Q true env1 else b env1 Q
def dNot (a : DB nf) : DB nf := fun env Q => a env fun c env1 => Q (!c) env1
theorem lift_and {a b : DB nf} (σ : St) (H : Hp) (Q : Bool → Hp → Prop) (h : liftB K nf (dAnd a b) σ H Q) : tAnd (liftB K nf a) (liftB K nf b) σ H Q := by
  obtain ⟨env, fp, Qd, R, h, k⟩ := h
  refine ⟨env, fp, _, R, h, fun c H1 env1 fp1 R1 c1 q => ?_⟩
  cases c with
  | true => exact ⟨env1, fp1, Qd, R1, q, fun b H2 env2 fp2 R2 c2 q2 => k b H2 env2 fp2 R2 (c1.trans c2) q2⟩
  | false => exact k false H1 env1 fp1 R1 c1 q
theorem lift_or {a b : DB nf} (σ : St) (H : Hp) (Q : Bool → Hp → Prop) (h : liftB K nf (dOr a b) σ H Q) : tOr (liftB K nf a) (liftB K nf b) σ H Q := by
  obtain ⟨env, fp, Qd, R, h, k⟩ := h
  refine ⟨env, fp, _, R, h, fun c H1 env1 fp1 R1 c1 q => ?_⟩
  cases c with
  | false => exact ⟨env1, fp1, Qd, R1, q, fun b H2 env2 fp2 R2 c2 q2 => k b H2 env2 fp2 R2 (c1.trans c2) q2⟩
  | true => exact k true H1 env1 fp1 R1 c1 q
theorem lift_not {a : DB nf} (σ : St) (H : Hp) (Q : Bool → Hp → Prop) (h : liftB K nf (dNot a) σ H Q) : tNot (liftB K nf a) σ H Q := by
  obtain ⟨env, fp, Qd, R, h, k⟩ := h
  exact ⟨env, fp, _, R, h, fun c H1 env1 fp1 R1 c1 q => k (!c) H1 env1 fp1 R1 c1 q⟩
section
variable {a b : Expr} {rest : List Expr} {pos : Pos} {ta tb : DB nf}
theorem dw_and1 (h : DC X nf a ta) : DW X nf (.BoolOp .And [a] pos) ta := pw_and1 h
theorem dw_or1 (h : DC X nf a ta) : DW X nf (.BoolOp .Or [a] pos) ta := pw_or1 h
theorem dw_and (ha : DC X nf a ta) (hb : DW X nf (.BoolOp .And (b :: rest) pos) tb) : DW X nf (.BoolOp .And (a :: b :: rest) pos) (dAnd ta tb) := pw_imp (pw_and ha hb) lift_and
theorem dw_or (ha : DC X nf a ta) (hb : DW X nf (.BoolOp .Or (b :: rest) pos) tb) : DW X nf (.BoolOp .Or (a :: b :: rest) pos) (dOr ta tb) := pw_imp (pw_or ha hb) lift_or
theorem dc_not (ha : DC X nf a ta) : DC X nf (.UnaryOp .Not a pos) (dNot ta) := pt_imp (pt_not ha) lift_not
theorem DW.dc (h : DW X nf a ta) : DC X nf a ta := h.pt
end
/-- a comparison as a test -/
theorem dc_cmp {a b : Expr} {op : CmpOp} {pos : Pos} {r : R2} {f : D → D → D → Prop} {da db : DT nf} (ho : OpR X (compareOp op) r) (o : OpD X.K nf r f) (ha : DE X nf a da) (hb : DE X nf b db) (hm : behindInMarks op b = false) : DC X nf (.Compare a [op] [b] pos) (dBv (dOp f da db)) :=
  pt_imp (pt_cmpR ho ha hb hm) fun σ H Q h => by
    obtain ⟨env, fp, Qd, R, h, k⟩ := h
    refine lift_op o σ H _ (lift_run R h fun v H1 x env1 fp1 r1 R1 c1 ⟨b, e, q⟩ => ?_)
    subst e
    exact ⟨b, rel_bl r1, k b H1 env1 fp1 R1 c1 q⟩
/-! and, or, not as values of bools -/
def dAndV (a b : DT nf) : DT nf := fun env Q => a env fun x env1 => ∃ c, x = .bl c ∧ if c = true then b env1 Q else Q (.bl false) env1
def dOrV (a b : DT nf) : DT nf := fun env Q => a env fun x env1 => ∃ c, x = .bl c ∧ if c = true then Q (.bl true) env1 else b env1 Q
def dNotV (a : DT nf) : DT nf := fun env Q => a env fun x env1 => ∃ c, x = .bl c ∧ Q (.bl (!c)) env1
section
variable {a b : Expr} {rest : List Expr} {pos : Pos} {da db : DT nf}
theorem de_one {op} (h : DE X nf a da) : DE X nf (.BoolOp op [a] pos) da := pe_one h
theorem de_and (ha : DE X nf a da) (hb : DE X nf (.BoolOp .And (b :: rest) pos) db) : DE X nf (.BoolOp .And (a :: b :: rest) pos) (dAndV da db) := pe_imp (pe_and ha hb) fun σ H Q h => by
  obtain ⟨env, fp, Qd, R, h, k⟩ := h
  refine lift_run R h fun v H1 x env1 fp1 r1 R1 c1 ⟨c, e, q⟩ => ?_
  subst e
  refine ⟨c, rel_bl r1, ?_⟩
  cases c with
  | true => exact ⟨env1, fp1, Qd, R1, q, fun v H2 d env2 fp2 r2 R2 c2 q2 => k v H2 d env2 fp2 r2 R2 (c1.trans c2) q2⟩
  | false => exact k _ H1 _ env1 fp1 (.bl false) R1 c1 q
theorem de_or (ha : DE X nf a da) (hb : DE X nf (.BoolOp .Or (b :: rest) pos) db) : DE X nf (.BoolOp .Or (a :: b :: rest) pos) (dOrV da db) := pe_imp (pe_or ha hb) fun σ H Q h => by
  obtain ⟨env, fp, Qd, R, h, k⟩ := h
  refine lift_run R h fun v H1 x env1 fp1 r1 R1 c1 ⟨c, e, q⟩ => ?_
  subst e
  refine ⟨c, rel_bl r1, ?_⟩
  cases c with
  | false => exact ⟨env1, fp1, Qd, R1, q, fun v H2 d env2 fp2 r2 R2 c2 q2 => k v H2 d env2 fp2 r2 R2 (c1.trans c2) q2⟩
  | true => exact k _ H1 _ env1 fp1 (.bl true) R1 c1 q
theorem de_not (ha : DE X nf a da) : DE X nf (.UnaryOp .Not a pos) (dNotV da) := pe_imp (pe_not ha) fun σ H Q h => by
  obtain ⟨env, fp, Qd, R, h, k⟩ := h
  refine lift_run R h fun v H1 x env1 fp1 r1 R1 c1 ⟨c, e, q⟩ => ?_
  subst e
  exact ⟨c, rel_bl r1, k _ H1 _ env1 fp1 (.bl _) R1 c1 q⟩
def dIf (t : DB nf) (a b : DT nf) : DT nf := fun env Q => t env fun c env1 => if c = true then a env1 Q else b env1 Q
theorem de_if {c : Expr} {tc : DB nf} (hc : DC X nf c tc) (ha : DE X nf a da) (hb : DE X nf b db) : DE X nf (.IfExp c a b pos) (dIf tc da db) := pe_imp (pe_ifExp hc ha hb) fun σ H Q h => by
  obtain ⟨env, fp, Qd, R, h, k⟩ := h
  refine ⟨env, fp, _, R, h, fun c H1 env1 fp1 R1 c1 q => ?_⟩
  cases c with
  | true => exact ⟨env1, fp1, Qd, R1, q, fun v H2 d env2 fp2 r2 R2 c2 q2 => k v H2 d env2 fp2 r2 R2 (c1.trans c2) q2⟩
  | false => exact ⟨env1, fp1, Qd, R1, q, fun v H2 d env2 fp2 r2 R2 c2 q2 => k v H2 d env2 fp2 r2 R2 (c1.trans c2) q2⟩
end

/-! ### argument lists -/
def aNil : DAs nf := fun env Q => Q [] env
def aCons (a : DT nf) (r : DAs nf) : DAs nf := fun env Q => a env fun x env1 => r env1 fun xs env2 => Q (x :: xs) env2
theorem da_nil : DA X nf [] aNil := pa_imp pa_nil fun σ H Q ⟨env, fp, Qd, R, q, k⟩ => k [] H [] env fp .nil R Ch.refl q
theorem da_cons {e : Expr} {es : List Expr} {a : DT nf} {r : DAs nf} (ha : DE X nf e a) (hr : DA X nf es r) (hs : starEach (e :: es) X.env = (false, eval e X.env) :: starEach es X.env := by rfl) : DA X nf (e :: es) (aCons a r) :=
  pa_imp (pa_cons ha hr hs) fun σ H Q h => by
    obtain ⟨env, fp, Qd, R, h, k⟩ := h
    refine lift_run R h fun v H1 x env1 fp1 r1 R1 c1 q1 => ?_
    exact ⟨env1, fp1, _, R1, q1, fun vs H2 ds env2 fp2 r2 R2 c2 q2 => k (v :: vs) H2 (x :: ds) env2 fp2 (.cons (r1.mono (c2.stp R1)) r2) R2 (c1.trans c2) q2⟩

/-! ### freezing -/
/-- behind e the thing that it gives is frozen -/
def tFz (t : TE) : TE := fun σ H Q => t σ H fun v H' => ∃ p u, v = .ref p ∧ H' p = some u ∧ Mut (some u) ∧ ∀ o, Q v (upd H' p (.frz o u))
theorem pe_fz {e : Expr} {t : TE} (h : PE X e t) : PE X e (tFz t) := by
  refine ⟨fun pins s σ H Q I hw => ?_⟩
  refine thn (h.run pins s σ H _ I hw) fun v s1 ⟨x, H1, I1, r, p, u, ex, hp, mu, q⟩ => ?_
  obtain ⟨o, I2⟩ := I1.lock hp mu
  exact ⟨x, _, I2, r, q o⟩
/-- what freezing a new thing does -/
theorem xt_fz {H H' : Hp} {p : Addr} {u : HO} (x : Xt H H') (hp : H p = none) {o : Obj} : Xt H (upd H' p (.frz o u)) := fun a w e => by rw [upd_ne (ne_of_none e hp)]; exact x a w e

/-! ### displays -/
def dTup (r : DAs nf) : DT nf := fun env Q => r env fun xs env1 => xs.length ≤ 1000000 ∧ Q (.tup xs) env1
theorem sz_ok {n : Nat} (h : n ≤ 1000000) : n ≤ sizeLine := Nat.le_trans h (by decide)
theorem de_tup {es : List Expr} {r : DAs nf} {x1} {pos : Pos} (h : DA X nf es r) : DE X nf (.Tuple es x1 pos) (dTup r) := pe_imp (pe_tup h) fun σ H Q h => by
  obtain ⟨env, fp, Qd, R, h, k⟩ := h
  refine ⟨env, fp, _, R, h, fun vs H1 ds env1 fp1 r1 R1 c1 ⟨hl, q⟩ => ⟨by rw [r1.length]; exact sz_ok hl, fun p hp => ?_⟩⟩
  have x : Xt H1 (upd H1 p (.tup vs)) := Xt.new hp
  exact k _ _ _ env1 fp1 (.tup (SqT.of upd_same) (r1.mono x.stp)) (R1.ext x) (c1.trans x.ch) q
def dLst (r : DAs nf) : DT nf := fun env Q => r env fun xs env1 => xs.length ≤ 1000000 ∧ Q (.lst xs) env1
/-- a list display, frozen at once -/
theorem de_lst {es : List Expr} {r : DAs nf} {pos : Pos} (h : DA X nf es r) : DE X nf (.List es pos) (dLst r) := pe_imp (pe_fz (pe_lst h)) fun σ H Q h => by
  obtain ⟨env, fp, Qd, R, h, k⟩ := h
  refine ⟨env, fp, _, R, h, fun vs H1 ds env1 fp1 r1 R1 c1 ⟨hl, q⟩ => ⟨by rw [r1.length]; exact sz_ok hl, fun p hp => ⟨p, _, rfl, upd_same, trivial, fun o => ?_⟩⟩⟩
  have x : Xt H1 (upd (upd H1 p (.lst vs)) p (.frz o (.lst vs))) := xt_fz (Xt.new hp) hp
  exact k _ _ _ env1 fp1 (.lst ⟨o, upd_same⟩ (r1.mono x.stp)) (R1.ext x) (c1.trans x.ch) q
end
end DL

namespace DL
open PySem L2
section
variable [Anch] {X : Cx} {nf : Addr → Nat} {K : PySem.W.Frag}
theorem Br.up {H H1 : Hp} {fp fp1 : List Addr} {De : EndsD nf} {E : Ends} (b : Br K nf H fp De E) (c : Ch fp H fp1 H1) : Br K nf H1 fp1 De E :=
  ⟨fun σ' H' env' fp' r c' q => b.nx σ' H' env' fp' r (c.trans c') q, fun v d σ' H' env' fp' r e c' q => b.rt v d σ' H' env' fp' r e (c.trans c') q,
   fun σ' H' env' fp' r c' q => b.bk σ' H' env' fp' r (c.trans c') q, fun σ' H' env' fp' r c' q => b.ct σ' H' env' fp' r (c.trans c') q,
   fun v A σ' H' env' fp' fi i r n c' q => b.ro v A σ' H' env' fp' fi i r n (c.trans c') q⟩

/-! ### blocks -/
def sNext : DTS nf := fun De env => De.nx env
def sSeq (a b : DTS nf) : DTS nf := fun De env => a { De with nx := b De } env
theorem ds_nil : DSs X nf [] sNext := pss_imp pss_nil fun E σ H ⟨env, fp, De, R, q, b⟩ => b.nx σ H env fp R Ch.refl q
theorem ds_cons {st : Stmt} {rest : List Stmt} {a b : DTS nf} (h1 : DS X nf st a) (h2 : DSs X nf rest b) : DSs X nf (st :: rest) (sSeq a b) := pss_imp (pss_cons h1 h2) fun E σ H ⟨env, fp, De, R, q, br⟩ =>
  ⟨env, fp, { De with nx := b De }, R, q, ⟨fun σ' H' env' fp' R' c q' => ⟨env', fp', De, R', q', br.up c⟩, br.rt, br.bk, br.ct, br.ro⟩⟩
theorem ds_one {st : Stmt} {a : DTS nf} (h1 : DS X nf st a) : DSs X nf [st] a := pss_one h1
def sBrk : DTS nf := fun De env => De.bk env
def sCnt : DTS nf := fun De env => De.ct env
theorem ds_pass {pos} : DS X nf (.Pass pos) sNext := ps_imp ps_pass fun E σ H ⟨env, fp, De, R, q, b⟩ => b.nx σ H env fp R Ch.refl q
theorem ds_brk {pos} : DS X nf (.Break pos) sBrk := ps_imp ps_break fun E σ H ⟨env, fp, De, R, q, b⟩ => b.bk σ H env fp R Ch.refl q
theorem ds_cnt {pos} : DS X nf (.Continue pos) sCnt := ps_imp ps_continue fun E σ H ⟨env, fp, De, R, q, b⟩ => b.ct σ H env fp R Ch.refl q
def sNever : DTS nf := fun _ _ => False
theorem ds_never {st : Stmt} : DS X nf st sNever := ps_imp ps_never fun E σ H ⟨env, fp, De, R, q, b⟩ => q.elim
theorem dss_never {st : List Stmt} : DSs X nf st sNever := pss_imp pss_never fun E σ H ⟨env, fp, De, R, q, b⟩ => q.elim
def sIf (c : DB nf) (a b : DTS nf) : DTS nf := fun De env => c env fun k env1 => if k = true then a De env1 else b De env1
theorem ds_if {c : Expr} {p q : List Stmt} {pos : Pos} {tc : DB nf} {a b : DTS nf} (hc : DC X nf c tc) (ha : DSs X nf p a) (hb : DSs X nf q b) : DS X nf (.If c p q pos) (sIf tc a b) := ps_imp (ps_if hc ha hb) fun E σ H ⟨env, fp, De, R, q, br⟩ =>
  ⟨env, fp, _, R, q, fun k H1 env1 fp1 R1 c1 q1 => by
    cases k with
    | true => exact ⟨env1, fp1, De, R1, q1, br.up c1⟩
    | false => exact ⟨env1, fp1, De, R1, q1, br.up c1⟩⟩
def sRet (a : DT nf) : DTS nf := fun De env => a env De.rt
theorem ds_ret {e : Expr} {a : DT nf} {pos : Pos} (h : DE X nf e a) : DS X nf (.Return (some e) pos) (sRet a) := ps_imp (ps_ret h) fun E σ H ⟨env, fp, De, R, q, br⟩ =>
  ⟨env, fp, _, R, q, fun v H1 d env1 fp1 r1 R1 c1 q1 => br.rt v d σ H1 env1 fp1 r1 R1 c1 q1⟩
def sRetN : DTS nf := fun De env => De.rt .non env
theorem ds_retN {pos : Pos} : DS X nf (.Return none pos) sRetN := ps_imp ps_retN fun E σ H ⟨env, fp, De, R, q, br⟩ => br.rt .non .non σ H env fp .non R Ch.refl q
def sDrop (a : DT nf) : DTS nf := fun De env => a env fun _ env1 => De.nx env1
theorem ds_expr {e : Expr} {a : DT nf} {pos : Pos} (h : DE X nf e a) (hs : swapsWith e none pos.line X.env = pure false := by rfl) : DS X nf (.Expr e pos) (sDrop a) := ps_imp (ps_expr h hs) fun E σ H ⟨env, fp, De, R, q, br⟩ =>
  ⟨env, fp, _, R, q, fun v H1 d env1 fp1 r1 R1 c1 q1 => br.nx σ H1 env1 fp1 R1 c1 q1⟩

/-! ### a name is stored -/
theorem EnvR.setFz {H : Hp} {σ : St} {env : EV nf} {fp : List Addr} (R : EnvR K nf H σ env fp) {i : Nat} {v : V} {d : D} (hi : i < env.length) (r : Rel K nf H v d) :
    ∃ fp', EnvR K nf H (σ.set i (some v)) (env.set i (.fz d)) fp' ∧ Ch fp H fp' H := by
  obtain ⟨o, fi, _, _, _, rep⟩ := R.at (i := i) (s := env[i]) (by simp [hi])
  obtain ⟨fp', R', sub⟩ := rep H (some v) (.fz d) [] ⟨rfl, v, rfl, r⟩ (fun a u e _ => e) (fun a m => by cases m) Stp.refl
  exact R.rex R' ⟨fun a u e _ => e, sub, fun a e => e⟩
/-- x = e -/
def sSet (i : Nat) (a : DT nf) : DTS nf := fun De env => a env fun d env1 => i < env1.length ∧ De.nx (env1.set i (.fz d))
theorem ds_set {i : Nat} {x : Str} {e : Expr} {a : DT nf} {pos pos' : Pos} (hN : X.N.Nodup) (hi : X.N[i]? = some x) (hx : Loc X.env.scope x) (h : DE X nf e a) (hs : swapsWith e (some (.Name x pos')) pos.line X.env = pure false := by rfl)
    (hf : X.fn x = true ∨ X.env.scope.names.lookup x = some .local := by first | exact .inl rfl | exact .inr rfl | assumption) : DS X nf (.Assign [.Name x pos'] e pos) (sSet i a) :=
  ps_imp (ps_set hN hi hx h hs hf) fun E σ H ⟨env, fp, De, R, q, br⟩ => ⟨env, fp, _, R, q, fun v H1 d env1 fp1 r1 R1 c1 ⟨hl, q1⟩ => by
    obtain ⟨fp2, R2, c2⟩ := R1.setFz hl r1
    exact br.nx _ H1 _ fp2 R2 (c1.trans c2) q1⟩
/-- a target by what it does with a value -/
abbrev DG (nf : Addr → Nat) := D → EV nf → (EV nf → Prop) → Prop
def liftG (K : PySem.W.Frag) (nf : Addr → Nat) (js : List Nat) (g : DG nf) : TG := fun v σ H Q => ∃ d env fp Qd, Rel K nf H v d ∧ EnvR K nf H σ env fp ∧ g d env Qd ∧ ∀ σ' env' fp', wipe σ' js = wipe σ js → EnvR K nf H σ' env' fp' → Ch fp H fp' H → Qd env' → Q σ' H
theorem wipe_set1 (σ : St) (i : Nat) (v : Option V) : wipe (σ.set i v) [i] = wipe σ [i] := by
  show (σ.set i v).set i none = σ.set i none
  rw [List.set_set]
theorem wipe_set_comm (σ : St) (i j : Nat) (a : Option V) : (σ.set i none).set j none = (σ.set j none).set i none := by
  by_cases h : i = j
  · subst h; rfl
  · exact List.set_comm _ _ h
theorem wipe_app (σ : St) : ∀ (js ks : List Nat), wipe σ (js ++ ks) = wipe (wipe σ ks) js
  | [], _ => rfl
  | j :: js, ks => by show (wipe σ (js ++ ks)).set j none = (wipe (wipe σ ks) js).set j none; rw [wipe_app σ js ks]
theorem wipe_out (σ : St) (i : Nat) : ∀ (js : List Nat), wipe (σ.set i none) js = (wipe σ js).set i none
  | [] => rfl
  | j :: js => by
    show (wipe (σ.set i none) js).set j none = ((wipe σ js).set j none).set i none
    rw [wipe_out σ i js]
    exact wipe_set_comm _ _ _ none
theorem wipe_comm (σ : St) : ∀ (js ks : List Nat), wipe (wipe σ ks) js = wipe (wipe σ js) ks
  | [], _ => rfl
  | j :: js, ks => by
    show (wipe (wipe σ ks) js).set j none = wipe ((wipe σ js).set j none) ks
    rw [wipe_out, wipe_comm σ js ks]
theorem pg_imp {e : Expr} {t t' : TG} (h : PG X e t) (i : ∀ v σ H Q, t' v σ H Q → t v σ H Q) : PG X e t' := ⟨fun pins s σ H v u Q I r q => h.run pins s σ H v u Q I r (i v σ H Q q)⟩
variable (X nf) in
abbrev DGo (e : Expr) (js : List Nat) (g : DG nf) : Prop := PG X e (liftG X.K nf js g)
def gN (i : Nat) : DG nf := fun d env Q => i < env.length ∧ Q (env.set i (.fz d))
theorem dg_name {i : Nat} {x : Str} {pos : Pos} (hN : X.N.Nodup) (hi : X.N[i]? = some x) (hx : Loc X.env.scope x) (hf : X.fn x = true ∨ X.env.scope.names.lookup x = some .local := by first | exact .inl rfl | exact .inr rfl | assumption) : DGo X nf (.Name x pos) [i] (gN i) :=
  pg_imp (pg_name hN hi hx hf) fun v σ H Q ⟨d, env, fp, Qd, r, R, ⟨hl, q⟩, k⟩ => by
    obtain ⟨fp2, R2, c2⟩ := R.setFz hl r
    exact k _ _ fp2 (wipe_set1 σ i _) R2 c2 q
abbrev DGs (nf : Addr → Nat) := List D → EV nf → (EV nf → Prop) → Prop
def liftGs (K : PySem.W.Frag) (nf : Addr → Nat) (js : List Nat) (g : DGs nf) : TGs := fun vs σ H Q => ∃ ds env fp Qd, Rels K nf H vs ds ∧ EnvR K nf H σ env fp ∧ g ds env Qd ∧ ∀ σ' env' fp', wipe σ' js = wipe σ js → EnvR K nf H σ' env' fp' → Ch fp H fp' H → Qd env' → Q σ' H
theorem pgs_imp {es : List Expr} {t t' : TGs} (h : PGs X es t) (i : ∀ v σ H Q, t' v σ H Q → t v σ H Q) : PGs X es t' := ⟨fun pins s σ H v u Q I r q => h.run pins s σ H v u Q I r (i v σ H Q q)⟩
variable (X nf) in
abbrev DGos (es : List Expr) (js : List Nat) (g : DGs nf) : Prop := PGs X es (liftGs X.K nf js g)
def gsNil : DGs nf := fun ds env Q => ds = [] ∧ Q env
def gsCons (g : DG nf) (r : DGs nf) : DGs nf := fun ds env Q => ∃ d rs, ds = d :: rs ∧ g d env fun env1 => r rs env1 Q
theorem dgs_nil : DGos X nf [] [] gsNil := pgs_imp pgs_nil fun vs σ H Q ⟨ds, env, fp, Qd, r, R, ⟨e, q⟩, k⟩ => by
  subst e
  cases r
  exact ⟨rfl, k _ _ fp rfl R Ch.refl q⟩
theorem dgs_cons {e : Expr} {es : List Expr} {js ks : List Nat} {g : DG nf} {r : DGs nf} (h1 : DGo X nf e js g) (h2 : DGos X nf es ks r) (hs : (assignEach (e :: es) X.env).map (·.2) = assign e X.env :: (assignEach es X.env).map (·.2) := by rfl) : DGos X nf (e :: es) (js ++ ks) (gsCons g r) :=
  pgs_imp (pgs_cons h1 h2 hs) fun vs σ H Q ⟨ds, env, fp, Qd, rr, R, ⟨d, rs, e, q⟩, k⟩ => by
    subst e
    cases rr with
    | cons r1 r2 =>
      refine ⟨_, _, rfl, d, env, fp, _, r1, R, q, fun σ1 env1 fp1 w1 R1 c1 q1 => ?_⟩
      exact ⟨rs, env1, fp1, Qd, r2, R1, q1, fun σ2 env2 fp2 w2 R2 c2 q2 => k σ2 env2 fp2 (by rw [wipe_app, wipe_app, w2, wipe_comm, w1, wipe_comm]) R2 (c1.trans c2) q2⟩
def gT (n : Nat) (g : DGs nf) : DG nf := fun d env Q => ∃ ds, d = .tup ds ∧ ds.length = n ∧ g ds env Q
theorem dg_tup {es : List Expr} {k : Nat} {js : List Nat} {g : DGs nf} {n : Nat} {pos : Pos} (hc : X.calm = true) (h : DGos X nf es js g) (hn : (assignEach es X.env).length = n := by rfl) (hst : (assignEach es X.env).findIdx? (·.1) = none := by rfl) : DGo X nf (.Tuple es k pos) js (gT n g) :=
  pg_imp (pg_tup hc h hn hst) fun v σ H Q ⟨d, env, fp, Qd, r, R, ⟨ds, e, hl, q⟩, k⟩ => by
    subst e
    cases r with
    | tup hs rr => exact ⟨_, _, rfl, hs, by rw [rr.length]; exact hl, ds, env, fp, Qd, rr, R, q, k⟩
def sAsg (a : DT nf) (g : DG nf) : DTS nf := fun De env => a env fun d env1 => g d env1 De.nx
theorem ds_asg {tg e : Expr} {a : DT nf} {js : List Nat} {g : DG nf} {pos : Pos} (he : DE X nf e a) (hg : DGo X nf tg js g) (hs : swapsWithSole [tg] e pos.line X.env = pure false := by rfl) (hw : swappedStores [tg] e X.env = pure none := by rfl)
    (h1 : (assignEach [tg] X.env).map (·.2) = [assign tg X.env] := by rfl) : DS X nf (.Assign [tg] e pos) (sAsg a g) := ps_imp (ps_asg he hg hs hw h1) fun E σ H ⟨env, fp, De, R, q, br⟩ =>
  ⟨env, fp, _, R, q, fun v H1 d env1 fp1 r1 R1 c1 q1 => ⟨d, env1, fp1, _, r1, R1, q1, fun σ2 env2 fp2 _ R2 c2 q2 => br.nx σ2 H1 env2 fp2 R2 (c1.trans c2) q2⟩⟩

/-! ### owned lists -/
/-- a list of one's own that stands for xs -/
def lstA (K : PySem.W.Frag) (nf : Addr → Nat) (xs : List D) : OA nf where
  inv v fp H := ∃ p vs, v = .ref p ∧ fp = [p] ∧ H p = some (.lst vs) ∧ Rels K nf H vs xs
  frame := by
    rintro v fp H H' ⟨p, vs, e1, e2, hp, r⟩ k st
    subst e2
    exact ⟨p, vs, e1, rfl, by rw [k p (List.mem_singleton.mpr rfl)]; exact hp, r.mono st⟩
  trk := by
    rintro v fp H ⟨p, vs, e1, e2, hp, r⟩ a m
    subst e2
    rw [List.mem_singleton.mp m]
    exact ⟨_, hp, fun z => z⟩
  nd := by
    rintro v fp H ⟨p, vs, e1, e2, hp, r⟩
    subst e2
    simp
/-- x = [..], kept to be written -/
def sSetL (K : PySem.W.Frag) (i : Nat) (r : DAs nf) : DTS nf := fun De env => r env fun xs env1 => xs.length ≤ 1000000 ∧ i < env1.length ∧ ∀ p, De.nx (env1.set i (.ow (.ref p) (lstA K nf xs)))
theorem EnvR.setNew {H H' : Hp} {σ : St} {env : EV nf} {fp : List Addr} (R : EnvR K nf H σ env fp) {i : Nat} {v : V} {A : OA nf} {fi : List Addr} (hi : i < env.length) (x : Xt H H') (hA : A.inv v fi H') (hn : ∀ a ∈ fi, H a = none) :
    ∃ fp', EnvR K nf H' (σ.set i (some v)) (env.set i (.ow v A)) fp' ∧ Ch fp H fp' H' := by
  obtain ⟨o, f0, _, _, _, rep⟩ := R.at (i := i) (s := env[i]) (by simp [hi])
  obtain ⟨fp', R', sub⟩ := rep H' (some v) (.ow v A) fi ⟨rfl, hA⟩ (fun a u e _ => x a u e) (fun a m => .inr (hn a m)) x.stp
  exact R.rex R' ⟨fun a u e _ => x a u e, sub, (x.ch (fp := fp)).there⟩
theorem ds_setL {i : Nat} {x : Str} {es : List Expr} {r : DAs nf} {pos pos' lpos : Pos} (hN : X.N.Nodup) (hi : X.N[i]? = some x) (hx : Loc X.env.scope x) (h : DA X nf es r) (hs : swapsWith (.List es lpos) (some (.Name x pos')) pos.line X.env = pure false := by rfl)
    (hf : X.fn x = true ∨ X.env.scope.names.lookup x = some .local := by first | exact .inl rfl | exact .inr rfl | assumption) : DS X nf (.Assign [.Name x pos'] (.List es lpos) pos) (sSetL X.K i r) :=
  ps_imp (ps_set hN hi hx (pe_lst h) hs hf) fun E σ H ⟨env, fp, De, R, q, br⟩ => ⟨env, fp, _, R, q, fun vs H1 ds env1 fp1 r1 R1 c1 ⟨hz, hl, q1⟩ => ⟨by rw [r1.length]; exact sz_ok hz, fun p hp => by
    have x : Xt H1 (upd H1 p (.lst vs)) := Xt.new hp
    obtain ⟨fp2, R2, c2⟩ := R1.setNew (i := i) (v := .ref p) (A := lstA X.K nf ds) (fi := [p]) hl x ⟨p, vs, rfl, rfl, upd_same, r1.mono x.stp⟩ (fun a m => by rw [List.mem_singleton.mp m]; exact hp)
    exact br.nx _ _ _ fp2 R2 (c1.trans c2) (q1 p)⟩⟩
/-- changing the list that slot i owns -/
theorem EnvR.lstAt {H : Hp} {σ : St} {env : EV nf} {fp : List Addr} (R : EnvR K nf H σ env fp) {i : Nat} {v : V} {xs : List D} (e : env[i]? = some (.ow v (lstA K nf xs))) :
    ∃ p vs, v = .ref p ∧ σ[i]? = some (some (.ref p)) ∧ H p = some (.lst vs) ∧ Rels K nf H vs xs ∧
      ∀ vs' xs', Rels K nf H vs' xs' → ∃ fp', EnvR K nf (upd H p (.lst vs')) σ (env.set i (.ow v (lstA K nf xs'))) fp' ∧ Ch fp H fp' (upd H p (.lst vs')) := by
  obtain ⟨o, fi, e1, ⟨eo, p, vs, ev, ef, hp, r⟩, sub, rep⟩ := R.at e
  subst eo ev ef
  refine ⟨p, vs, rfl, e1, hp, r, fun vs' xs' r' => ?_⟩
  have st : Stp nf H (upd H p (.lst vs')) := fun a u h f => by
    by_cases ha : a = p
    · subst ha; rw [hp] at h; cases h; exact f.elim
    · rw [upd_ne ha]; exact h
  obtain ⟨fp', R', sub'⟩ := rep (upd H p (.lst vs')) (some (.ref p)) (.ow (.ref p) (lstA K nf xs')) [p] ⟨rfl, p, vs', rfl, rfl, upd_same, r'.mono st⟩ (fun a u h n => by
    rw [upd_ne (fun z => n (by rw [z]; exact List.mem_singleton.mpr rfl))]; exact h) (fun a m => .inl m) st
  have es : σ.set i (some (.ref p)) = σ := by
    obtain ⟨h1, h2⟩ := List.getElem?_eq_some_iff.mp e1
    rw [← h2]
    exact List.set_getElem_self h1
  rw [es] at R'
  refine R.rex R' ⟨fun a u h n => ?_, sub', fun a h => ?_⟩
  · rw [upd_ne (fun z => n (by rw [z]; exact sub p (List.mem_singleton.mpr rfl)))]; exact h
  · by_cases ha : a = p
    · subst ha; rw [upd_same] at h; cases h
    · rw [upd_ne ha] at h; exact h
/-- xs.append(e) -/
def sApp (K : PySem.W.Frag) (i : Nat) (a : DT nf) : DTS nf := fun De env => a env fun d env1 => ∃ v xs, env1[i]? = some (.ow v (lstA K nf xs)) ∧ xs.length < 1000000 ∧ De.nx (env1.set i (.ow v (lstA K nf (xs ++ [d]))))
theorem ds_app {i : Nat} {o e : Expr} {a : DT nf} {apos cpos pos : Pos} (ho : PE X o (tVar i)) (h : DE X nf e a)
    (hbase : attributeBase o "append" X.env (eval o X.env) = eval o X.env := by rfl)
    (hfew : ((backTo cpos (starEach [e] X.env)).all (fun x => !x.1) && (backToKw cpos (keywordEach [] X.env)).all (fun x => x.1.isSome) && decide (([e] : List Expr).length + ([] : List Keyword).length + (if ([] : List Keyword).isEmpty then 0 else 1) < 30)) = true := by rfl)
    (hline : (apos.endLine == cpos.line) = true := by rfl) (hst : starEach [e] X.env = (false, eval e X.env) :: starEach [] X.env := by rfl) (hplain : (backTo cpos (starEach [] X.env)).any (·.1) = false := by rfl)
    (hs : swapsWith (.Call (.Attribute o "append" apos) [e] [] cpos) none pos.line X.env = pure false := by rfl) : DS X nf (.Expr (.Call (.Attribute o "append" apos) [e] [] cpos) pos) (fun De env => (∃ v xs, env[i]? = some (.ow v (lstA X.K nf xs))) ∧ sApp X.K i a De env) :=
  ps_imp (ps_expr (pe_bm PySem.F.plainAttrs_list PySem.F.slot_list_append PySem.F.type_list_append mt_append ho (pa_cons h pa_nil hst) hbase hfew hline hst hplain) hs) fun E σ H ⟨env, fp, De, R, ⟨⟨v0, xs0, e0⟩, q⟩, br⟩ => by
    obtain ⟨p0, vs0, ev0, es0, hp0, _, _⟩ := R.lstAt e0
    subst ev0
    refine ⟨_, es0, Or.inl ⟨rfl, vs0, SqL.of hp0⟩, lift_run R q fun w H1 d env1 fp1 r1 R1 c1 ⟨v, xs, e1, hl, q1⟩ => ?_⟩
    obtain ⟨p, vs, ev, es, hp, rr, rep⟩ := R1.lstAt e1
    rw [es0] at es
    cases es
    obtain ⟨fp2, R2, c2⟩ := rep (vs ++ [w]) (xs ++ [d]) (rr.append (.cons r1 .nil))
    exact ⟨p0, vs, w, rfl, rfl, hp, by rw [rr.length]; exact Nat.lt_of_lt_of_le hl (by decide), br.nx σ _ _ fp2 R2 (c1.trans c2) q1⟩
/-- the list of a slot, read as a value: frozen from here on -/
def dVarF (K : PySem.W.Frag) (i : Nat) : DT nf := fun env Q => ∃ v xs, env[i]? = some (.ow v (lstA K nf xs)) ∧ Q (.lst xs) (env.set i (.fz (.lst xs)))
theorem EnvR.fzAt {H : Hp} {σ : St} {env : EV nf} {fp : List Addr} (R : EnvR K nf H σ env fp) {i : Nat} {v : V} {xs : List D} (e : env[i]? = some (.ow v (lstA K nf xs))) :
    ∃ p vs, v = .ref p ∧ σ[i]? = some (some (.ref p)) ∧ H p = some (.lst vs) ∧
      ∀ o, Rel K nf (upd H p (.frz o (.lst vs))) (.ref p) (.lst xs) ∧ ∃ fp', EnvR K nf (upd H p (.frz o (.lst vs))) σ (env.set i (.fz (.lst xs))) fp' ∧ Ch fp H fp' (upd H p (.frz o (.lst vs))) := by
  obtain ⟨o, fi, e1, ⟨eo, p, vs, ev, ef, hp, r⟩, sub, rep⟩ := R.at e
  subst eo ev ef
  refine ⟨p, vs, rfl, e1, hp, fun o => ?_⟩
  have st : Stp nf H (upd H p (.frz o (.lst vs))) := fun a u h f => by
    by_cases ha : a = p
    · subst ha; rw [hp] at h; cases h; exact f.elim
    · rw [upd_ne ha]; exact h
  have rel : Rel K nf (upd H p (.frz o (.lst vs))) (.ref p) (.lst xs) := .lst ⟨o, upd_same⟩ (r.mono st)
  obtain ⟨fp', R', sub'⟩ := rep (upd H p (.frz o (.lst vs))) (some (.ref p)) (.fz (.lst xs)) [] ⟨rfl, _, rfl, rel⟩ (fun a u h n => by
    rw [upd_ne (fun z => n (by rw [z]; exact List.mem_singleton.mpr rfl))]; exact h) (fun a m => by cases m) st
  have es : σ.set i (some (.ref p)) = σ := by
    obtain ⟨h1, h2⟩ := List.getElem?_eq_some_iff.mp e1
    rw [← h2]
    exact List.set_getElem_self h1
  rw [es] at R'
  refine ⟨rel, R.rex R' ⟨fun a u h n => ?_, sub', fun a h => ?_⟩⟩
  · rw [upd_ne (fun z => n (by rw [z]; exact sub p (List.mem_singleton.mpr rfl)))]; exact h
  · by_cases ha : a = p
    · subst ha; rw [upd_same] at h; cases h
    · rw [upd_ne ha] at h; exact h
theorem de_varF {i : Nat} {e : Expr} (h : PE X e (tVar i)) : DE X nf e (dVarF X.K i) := pe_imp (pe_fz h) fun σ H Q ⟨env, fp, Qd, R, ⟨v, xs, e, q⟩, k⟩ => by
  obtain ⟨p, vs, ev, es, hp, f⟩ := R.fzAt e
  refine ⟨_, es, p, _, rfl, hp, trivial, fun o => ?_⟩
  obtain ⟨rel, fp', R', c⟩ := f o
  exact k _ _ _ _ fp' rel R' c q
end
end DL

namespace DL
open PySem L2
section
variable [Anch] {X : Cx} {nf : Addr → Nat} {K : PySem.W.Frag}
/-! ### what is walked -/
/-- the walk J, begun at H0, gives things that stand for ds, one by one, while all that is frozen stands -/
def WalkD (K : PySem.W.Frag) (nf : Addr → Nat) (J : It) (H0 : Hp) (ds : List D) : Prop :=
  ∃ G Y, Walk J ds.length G Y ∧ (∀ H, Stp nf H0 H → G H) ∧ ∀ i H x H2, i < ds.length → Stp nf H0 H → Y i H x H2 → Xt H H2 ∧ ∃ d, ds[i]? = some d ∧ Rel K nf H2 x d
def liftI (K : PySem.W.Frag) (nf : Addr → Nat) (di : DAs nf) : TI := fun σ H R => ∃ env fp Qd, EnvR K nf H σ env fp ∧ di env Qd ∧ ∀ J ds H' env' fp', WalkD K nf J H' ds → EnvR K nf H' σ env' fp' → Ch fp H fp' H' → Qd ds env' → R J H'
theorem pi_imp {tg e : Expr} {t t' : TI} (h : PI X tg e t) (i : ∀ σ H Q, t' σ H Q → t σ H Q) : PI X tg e t' := ⟨fun pins s σ H Q I q => h.run pins s σ H Q I (i σ H Q q)⟩
variable (X nf) in
abbrev DIo (tg e : Expr) (di : DAs nf) : Prop := PI X tg e (liftI X.K nf di)
def lsOf : D → Option (List D)
  | .lst xs => some xs
  | .scr ns => some (ns.map .int)
  | _ => none
theorem ints_rels {H : Hp} : ∀ (ns : List Int), Rels K nf H (ns.map V.int) (ns.map D.int)
  | [] => .nil
  | n :: ns => .cons (.int n) (ints_rels ns)
theorem ls_of {H : Hp} {v : V} {d : D} {xs : List D} (r : Rel K nf H v d) (e : lsOf d = some xs) : ∃ a vs, v = .ref a ∧ SqL K H a vs ∧ (∀ H', Stp nf H H' → SqL K H' a vs) ∧ Rels K nf H vs xs := by
  cases r <;> simp only [lsOf] at e <;> try cases e
  · rename_i hl rr
    exact ⟨_, _, rfl, hl.sq, fun _ s => (hl.mono s).sq, rr⟩
  · rename_i h
    exact ⟨_, _, rfl, h.sq, fun _ s => (h.mono s).sq, ints_rels _⟩
def iL (da : DT nf) : DAs nf := fun env Q => da env fun d env1 => ∃ xs, lsOf d = some xs ∧ Q xs env1
theorem di_list {tg l : Expr} {da : DT nf} (h : DE X nf l da) : DIo X nf tg l (iL da) := pi_imp (pi_list h) fun σ H R ⟨env, fp, Qd, R0, q, k⟩ =>
  lift_run R0 q fun v H1 d env1 fp1 r1 R1 c1 ⟨xs, e, q1⟩ => by
    obtain ⟨a, vs, ev, hl, hs, rr⟩ := ls_of r1 e
    subst ev
    refine ⟨a, rfl, ⟨vs, hl⟩, k _ xs H1 env1 fp1 ⟨_, _, rr.length ▸ walk_list (xs := vs), fun H s => hs H s, fun i H x H2 hi s ⟨e2, y⟩ => ?_⟩ R1 c1 q1⟩
    subst e2
    obtain ⟨d, e3, r3⟩ := rr.getV y
    exact ⟨Xt.refl, d, e3, r3.mono s⟩
def iT (da : DT nf) : DAs nf := fun env Q => da env fun d env1 => ∃ xs, d = .tup xs ∧ Q xs env1
theorem di_tup {tg l : Expr} {da : DT nf} (h : DE X nf l da) : DIo X nf tg l (iT da) := pi_imp (pi_tup h) fun σ H R ⟨env, fp, Qd, R0, q, k⟩ =>
  lift_run R0 q fun v H1 d env1 fp1 r1 R1 c1 ⟨xs, e, q1⟩ => by
    subst e
    cases r1 with
    | @tup a vs _ hl rr =>
      refine ⟨a, rfl, ⟨vs, hl⟩, k _ xs H1 env1 fp1 ⟨_, _, rr.length ▸ walk_tup (xs := vs), fun H s => sqT_mono s hl, fun i H x H2 hi s ⟨e2, y⟩ => ?_⟩ R1 c1 q1⟩
      subst e2
      obtain ⟨d, e3, r3⟩ := rr.getV y
      exact ⟨Xt.refl, d, e3, r3.mono s⟩
/-- lo, lo + 1, .. -/
def rangeD (lo : Int) (n : Nat) : List D := (List.range n).map fun i => .int (lo + (i : Nat))
theorem walk_rangeD (lo : Int) (n : Nat) (H0 : Hp) : WalkD K nf (Itr lo n) H0 (rangeD lo n) := by
  have e : (rangeD lo n).length = n := by simp [rangeD]
  refine ⟨fun _ => True, YFn fun i => .int (lo + i), by rw [e]; exact walk_range, fun _ _ => trivial, fun i H x H2 hi s ⟨e2, y⟩ => ?_⟩
  subst e2 y
  refine ⟨Xt.refl, .int (lo + i), ?_, .int _⟩
  rw [e] at hi
  simp [rangeD, hi]
def iR1 (r : DAs nf) : DAs nf := fun env Q => r env fun ds env1 => ∃ n : Int, ds = [.int n] ∧ (-(2 ^ 62) ≤ n ∧ n < 2 ^ 62) ∧ Q (rangeD 0 n.toNat) env1
def iR2 (r : DAs nf) : DAs nf := fun env Q => r env fun ds env1 => ∃ a n : Int, ds = [.int a, .int n] ∧ (-(2 ^ 62) ≤ a ∧ a < 2 ^ 62 ∧ -(2 ^ 62) ≤ n ∧ n < 2 ^ 62) ∧ Q (rangeD a (n - a).toNat) env1
theorem rels1 {H : Hp} {vs : List V} {n : Int} (r : Rels K nf H vs [.int n]) : vs = [.int n] := by
  cases r with
  | cons h t => cases t; cases h; rfl
theorem rels2 {H : Hp} {vs : List V} {a n : Int} (r : Rels K nf H vs [.int a, .int n]) : vs = [.int a, .int n] := by
  cases r with
  | cons h t => cases h; rw [rels1 t]
theorem di_range1 {tg a : Expr} {r : DAs nf} {p pos : Pos} (hg : Gl X "range") (hm : X.mg "range" = none) (ha : DA X nf [a] r) (hs : starEach [a] X.env = [(false, eval a X.env)] := by rfl) : DIo X nf tg (.Call (.Name "range" p) [a] [] pos) (iR1 r) :=
  pi_imp (pi_range1 hg hm ha hs) fun σ H R ⟨env, fp, Qd, R0, q, k⟩ => ⟨env, fp, _, R0, q, fun vs H1 ds env1 fp1 r1 R1 c1 ⟨n, e, hb, q1⟩ => by
    subst e
    exact ⟨n, rels1 r1, hb.1, hb.2, k _ _ H1 env1 fp1 (walk_rangeD 0 n.toNat H1) R1 c1 q1⟩⟩
theorem di_range2 {tg a b : Expr} {r : DAs nf} {p pos : Pos} (hg : Gl X "range") (hm : X.mg "range" = none) (ha : DA X nf [a, b] r) (hs : starEach [a, b] X.env = [(false, eval a X.env), (false, eval b X.env)] := by rfl) (hs2 : starEach [b] X.env = [(false, eval b X.env)] := by rfl) :
    DIo X nf tg (.Call (.Name "range" p) [a, b] [] pos) (iR2 r) :=
  pi_imp (pi_range2 hg hm ha hs hs2) fun σ H R ⟨env, fp, Qd, R0, q, k⟩ => ⟨env, fp, _, R0, q, fun vs H1 ds env1 fp1 r1 R1 c1 ⟨a, n, e, hb, q1⟩ => by
    subst e
    exact ⟨a, n, rels2 r1, hb, k _ _ H1 env1 fp1 (walk_rangeD a (n - a).toNat H1) R1 c1 q1⟩⟩
/-- the signs of a text, each a text -/
def signsD (z : Str) : List D := z.cps.toList.map fun c => .str ⟨#[c]⟩
def iS (da : DT nf) : DAs nf := fun env Q => da env fun d env1 => ∃ z, d = .str z ∧ Q (signsD z) env1
theorem di_str {tg l : Expr} {da : DT nf} (h : DE X nf l da) : DIo X nf tg l (iS da) := pi_imp (pi_str h) fun σ H R ⟨env, fp, Qd, R0, q, k⟩ =>
  lift_run R0 q fun v H1 d env1 fp1 r1 R1 c1 ⟨z, e, q1⟩ => by
    subst e
    cases r1
    have e : (signsD z).length = z.cps.size := by simp [signsD]
    refine ⟨z, rfl, k _ _ H1 env1 fp1 ⟨_, _, e ▸ walk_str (z := z), fun _ _ => trivial, fun i H x H2 hi s ⟨e2, c, hc, y⟩ => ?_⟩ R1 c1 q1⟩
    subst e2 y
    refine ⟨Xt.refl, .str ⟨#[c]⟩, ?_, .str _⟩
    simp [signsD, hc]
/-- a key as data -/
def kD : Key → D
  | .inl i => .int i
  | .inr x => .str x
theorem rel_key {H : Hp} (k : Key) : Rel K nf H (kV k) (kD k) := by
  cases k with
  | inl i => exact .int i
  | inr x => exact .str x
theorem RelK.length : ∀ {H : Hp} {vs : List (Key × V)} {ds : List (Key × D)}, RelK K nf H vs ds → vs.length = ds.length
  | _, _, _, .nil => rfl
  | _, _, _, .cons _ r => by rw [List.length_cons, List.length_cons, RelK.length r]
theorem RelK.getV : ∀ {H : Hp} {vs : List (Key × V)} {ds : List (Key × D)} {i : Nat} {k : Key} {v : V}, RelK K nf H vs ds → vs[i]? = some (k, v) → ∃ d, ds[i]? = some (k, d) ∧ Rel K nf H v d
  | _, _, _, _, _, _, .nil, e => by simp at e
  | _, _, _, 0, _, _, .cons h _, e => by simp at e; obtain ⟨rfl, rfl⟩ := e; exact ⟨_, rfl, h⟩
  | _, _, _, i + 1, k, v, .cons _ r, e => by
    obtain ⟨d, h1, h2⟩ := RelK.getV (i := i) (k := k) (v := v) r (by simpa using e)
    exact ⟨d, by simpa using h1, h2⟩
def iK (da : DT nf) : DAs nf := fun env Q => da env fun d env1 => ∃ kds, d = .dct kds ∧ Q (kds.map fun p => kD p.1) env1
theorem di_keys {tg l : Expr} {da : DT nf} (h : DE X nf l da) : DIo X nf tg l (iK da) := pi_imp (pi_keys h) fun σ H R ⟨env, fp, Qd, R0, q, k⟩ =>
  lift_run R0 q fun v H1 d env1 fp1 r1 R1 c1 ⟨kds, e, q1⟩ => by
    subst e
    cases r1 with
    | @dct a o kvs _ ha rr =>
      have e : (kds.map fun p => kD p.1).length = kvs.length := by rw [List.length_map, rr.length]
      refine ⟨a, o, rfl, .inl ⟨kvs, ha, k _ _ H1 env1 fp1 ⟨_, _, e ▸ walk_keys (d := a) (o := o) (kvs := kvs), fun H s => s _ _ ha trivial, fun i H x H2 hi s ⟨e2, kk, v, hk, y⟩ => ?_⟩ R1 c1 q1⟩⟩
      subst e2 y
      obtain ⟨d, e3, r3⟩ := rr.getV hk
      exact ⟨Xt.refl, kD kk, by simp [e3], rel_key kk⟩
def iKV (da : DT nf) : DAs nf := fun env Q => da env fun d env1 => ∃ kds, d = .dct kds ∧ Q (kds.map fun p => .tup [kD p.1, p.2]) env1
theorem di_items {tg l : Expr} {da : DT nf} {e : Expr} (h : DE X nf l da) (hi : PE X l (lift X.K nf da) → PI X tg e (iItems (lift X.K nf da))) : DIo X nf tg e (iKV da) := pi_imp (hi h) fun σ H R ⟨env, fp, Qd, R0, q, k⟩ =>
  lift_run R0 q fun v H1 d env1 fp1 r1 R1 c1 ⟨kds, e, q1⟩ => by
    subst e
    cases r1 with
    | @dct a o kvs _ ha rr =>
      have e : (kds.map fun p => D.tup [kD p.1, p.2]).length = kvs.length := by rw [List.length_map, rr.length]
      refine ⟨a, o, kvs, rfl, ha, k _ _ H1 env1 fp1 ⟨_, _, e ▸ walk_items (d := a) (o := o) (kvs := kvs), fun H s => s _ _ ha trivial, fun i H x H2 hi s y => ?_⟩ R1 c1 q1⟩
      obtain ⟨T, x1, y1, ex, hT, e2, h1, h2⟩ := y
      subst ex e2
      have h1 : kvs[i]?.map (fun kv => kV kv.1) = some x1 := h1
      have h2 : kvs[i]?.map Prod.snd = some y1 := h2
      cases hk : kvs[i]? with
      | none => rw [hk] at h1; cases h1
      | some kv =>
        rw [hk] at h1 h2
        simp only [Option.map_some, Option.some.injEq] at h1 h2
        subst h1 h2
        obtain ⟨d, e3, r3⟩ := rr.getV (k := kv.1) (v := kv.2) hk
        have xt : Xt H (upd H T (.tup [kV kv.1, kv.2])) := Xt.new hT
        exact ⟨xt, .tup [kD kv.1, d], by simp [e3], .tup (SqT.of upd_same) (.cons (rel_key _) (.cons ((r3.mono s).mono xt.stp) .nil))⟩

/-! ### for -/
def dFor (g : DG nf) (b : DTS nf) : List D → DTS nf
  | [], De, env => De.nx env
  | x :: xs, De, env => g x env fun env1 => b { De with nx := dFor g b xs De, ct := dFor g b xs De, bk := De.nx } env1
def sFor (di : DAs nf) (g : DG nf) (b : DTS nf) : DTS nf := fun De env => di env fun ds env1 => dFor g b ds De env1
theorem drop_cons {α : Type} {xs : List α} {i : Nat} {x : α} (h : xs[i]? = some x) : xs.drop i = x :: xs.drop (i + 1) := by
  obtain ⟨h1, h2⟩ := List.getElem?_eq_some_iff.mp h
  rw [← h2]
  exact List.drop_eq_getElem_cons h1
theorem ds_for {tg iter : Expr} {body : List Stmt} {pos : Pos} {di : DAs nf} {js : List Nat} {g : DG nf} {b : DTS nf} (hp : PassesOwn (model X.prog X.w) X.A X.env X.xe) (hc : X.calm = true) (hi : DIo X nf tg iter di) (hg : DGo X nf tg js g) (hb : DSs X nf body b)
    (hs : ∀ x, foldedSetIterable iter X.env x = pure x := by intro _; rfl) : DS X nf (.For tg iter body [] pos) (sFor di g b) := ps_imp (ps_for hp hc hi hg hb hs) fun E σ H ⟨env, fp, De, R, q, br⟩ =>
  ⟨env, fp, _, R, q, fun J ds H1 env1 fp1 ⟨G, Y, w, hG, hY⟩ R1 c1 q1 => by
    refine for_it w (fun i σ' H' => ∃ env' fp', EnvR X.K nf H' σ' env' fp' ∧ Ch fp1 H1 fp' H' ∧ dFor g b (ds.drop i) De env') ⟨env1, fp1, R1, Ch.refl, q1⟩ (fun i σ' H' _ ⟨env', fp', R', c', _⟩ => hG H' (c'.stp R1)) (fun i x σ' H' H2 hi ⟨env', fp', R', c', q'⟩ y => ?_) fun σ' H' ⟨env', fp', R', c', q'⟩ => ?_
    · obtain ⟨xt, d, ed, r⟩ := hY i H' x H2 hi (c'.stp R1) y
      rw [drop_cons ed] at q'
      refine ⟨d, env', fp', _, r, R'.ext xt, q', fun σ2 env2 fp2 _ R2 c2 q2 => ?_⟩
      have c3 := (c'.trans xt.ch).trans c2
      refine ⟨env2, fp2, _, R2, q2, ⟨fun σ3 H3 env3 fp3 R3 cc q3 => ⟨env3, fp3, R3, c3.trans cc, q3⟩, fun v d σ3 H3 env3 fp3 r3 R3 cc q3 => br.rt v d σ3 H3 env3 fp3 r3 R3 (c1.trans (c3.trans cc)) q3, fun σ3 H3 env3 fp3 R3 cc q3 => br.nx σ3 H3 env3 fp3 R3 (c1.trans (c3.trans cc)) q3, fun σ3 H3 env3 fp3 R3 cc q3 => ⟨env3, fp3, R3, c3.trans cc, q3⟩, fun v A σ3 H3 env3 fp3 fi i3 R3 n3 cc q3 => br.ro v A σ3 H3 env3 fp3 fi i3 R3 n3 (c1.trans (c3.trans cc)) q3⟩⟩
    · rw [List.drop_length] at q'
      exact br.nx σ' H' env' fp' R' (c1.trans c') q'⟩

/-! ### comprehensions -/
def wipeD (env : EV nf) : List Nat → EV nf
  | [] => env
  | j :: js => (wipeD env js).set j .un
theorem EnvR.forget {H : Hp} {σ : St} {env : EV nf} {fp : List Addr} (R : EnvR K nf H σ env fp) (o : Option V) (i : Nat) : ∃ fp', EnvR K nf H (σ.set i o) (env.set i .un) fp' ∧ Ch fp H fp' H := by
  by_cases hi : i < env.length
  · obtain ⟨_, fi, _, _, _, rep⟩ := R.at (i := i) (s := env[i]) (by simp [hi])
    obtain ⟨fp', R', sub⟩ := rep H o .un [] rfl (fun a u e _ => e) (fun a m => by cases m) Stp.refl
    exact R.rex R' ⟨fun a u e _ => e, sub, fun a e => e⟩
  · rw [List.set_eq_of_length_le (by have := R.length; omega), List.set_eq_of_length_le (by have := R.length; omega)]
    exact ⟨fp, R, Ch.refl⟩
theorem EnvR.wipe {H : Hp} {σ : St} {env : EV nf} {fp : List Addr} (R : EnvR K nf H σ env fp) : ∀ js : List Nat, ∃ fp', EnvR K nf H (L2.wipe σ js) (wipeD env js) fp' ∧ Ch fp H fp' H
  | [] => ⟨fp, R, Ch.refl⟩
  | j :: js => by
    obtain ⟨fp1, R1, c1⟩ := EnvR.wipe R js
    obtain ⟨fp2, R2, c2⟩ := R1.forget none j
    exact ⟨fp2, R2, c1.trans c2⟩
theorem wipeD_len (env : EV nf) : ∀ js, (wipeD env js).length = env.length
  | [] => rfl
  | j :: js => by show ((wipeD env js).set j .un).length = _; rw [List.length_set, wipeD_len env js]
theorem EnvL.noset {H : Hp} {σ : St} {env : EV nf} {fp : List Addr} (R : EnvL K nf H σ env fp) (o : Option V) (i : Nat) (h : env[i]? = some .un ∨ env.length ≤ i) : EnvL K nf H (σ.set i o) env fp := by
  induction R generalizing i with
  | nil => exact .nil
  | @cons o1 σ1 s env1 fp1 fq hs he hd ih =>
    cases i with
    | zero =>
      rcases h with h | h
      · simp at h
        subst h
        have e : fp1 = [] := hs
        exact .cons (show SlotR K nf H o fp1 .un from e) he hd
      · simp at h
    | succ i => exact .cons hs (ih i (by simpa using h)) hd
theorem EnvR.noset {H : Hp} {σ : St} {env : EV nf} {fp : List Addr} (R : EnvR K nf H σ env fp) (o : Option V) (i : Nat) (h : env[i]? = some .un ∨ env.length ≤ i) : EnvR K nf H (σ.set i o) env fp := ⟨R.1.noset o i h, R.2⟩
/-- slots that are forgotten may hold anything -/
theorem EnvR.unwipe {H : Hp} {σ σ' : St} {env : EV nf} {fp : List Addr} : ∀ (js : List Nat), EnvR K nf H σ env fp → L2.wipe σ' js = L2.wipe σ js → (∀ j ∈ js, env[j]? = some .un ∨ env.length ≤ j) → EnvR K nf H σ' env fp := by
  intro js R e hu
  have all : ∀ (js : List Nat), (∀ j ∈ js, env[j]? = some .un ∨ env.length ≤ j) → ∀ σ1 : St, EnvR K nf H σ1 env fp → EnvR K nf H (L2.wipe σ1 js) env fp := by
    intro js
    induction js with
    | nil => intro _ σ1 R1; exact R1
    | cons j js ih => intro h σ1 R1; exact (ih (fun k m => h k (List.mem_cons_of_mem _ m)) σ1 R1).noset none j (h j List.mem_cons_self)
  have back : ∀ (js : List Nat), (∀ j ∈ js, env[j]? = some .un ∨ env.length ≤ j) → ∀ σ1 : St, EnvR K nf H (L2.wipe σ1 js) env fp → EnvR K nf H σ1 env fp := by
    intro js
    induction js with
    | nil => intro _ σ1 R1; exact R1
    | cons j js ih =>
      intro h σ1 R1
      refine ih (fun k m => h k (List.mem_cons_of_mem _ m)) σ1 ?_
      have R2 : EnvR K nf H ((L2.wipe σ1 js).set j none) env fp := R1
      by_cases hj : j < (L2.wipe σ1 js).length
      · have R3 := R2.noset ((L2.wipe σ1 js)[j]) j (h j List.mem_cons_self)
        rw [List.set_set, List.set_getElem_self hj] at R3
        exact R3
      · rw [List.set_eq_of_length_le (by omega)] at R2
        exact R2
  exact back js hu σ' (e ▸ all js hu σ R)
theorem wipeD_un (env : EV nf) : ∀ (js : List Nat), ∀ j ∈ js, (wipeD env js)[j]? = some .un ∨ (wipeD env js).length ≤ j
  | [], _, m => by cases m
  | k :: js, j, m => by
    show ((wipeD env js).set k .un)[j]? = some .un ∨ ((wipeD env js).set k .un).length ≤ j
    rw [List.length_set]
    by_cases hk : k = j
    · subst hk
      by_cases hl : k < (wipeD env js).length
      · exact .inl (List.getElem?_set_self hl)
      · exact .inr (by omega)
    · rcases List.mem_cons.mp m with e | m
      · exact absurd e.symm hk
      · rw [List.getElem?_set_ne hk]
        exact wipeD_un env js j m
def dComp (g : DG nf) (dt : DB nf) (de : DT nf) (js : List Nat) : List D → List D → EV nf → (List D → EV nf → Prop) → Prop
  | [], acc, env, Q => Q acc env
  | x :: xs, acc, env, Q => g x env fun env1 => dt env1 fun b env2 => if b = true then de env2 fun d env3 => acc.length < 1000000 ∧ dComp g dt de js xs (acc ++ [d]) (wipeD env3 js) Q else dComp g dt de js xs acc (wipeD env2 js) Q
def dYes : DB nf := fun env Q => Q true env
def dLc (di : DAs nf) (g : DG nf) (dt : DB nf) (de : DT nf) (js : List Nat) : DT nf := fun env Q => di env fun ds env1 => dComp g dt de js ds [] (wipeD env1 js) fun acc env2 => Q (.lst acc) env2
/-- the reading of a comprehension; Qe: what is wanted of the new list (not frozen yet) -/
theorem lift_lc {di : DAs nf} {g : DG nf} {dt : DB nf} {de : DT nf} {js : List Nat} {σ : St} {H : Hp} {Q : VK} {env : EV nf} {fp : List Addr} {Qd : List D → EV nf → Prop} (R : EnvR K nf H σ env fp)
    (h : di env fun ds env1 => dComp g dt de js ds [] (wipeD env1 js) Qd)
    (k : ∀ p vs H' ds env' fp', H p = none → H' p = some (.lst vs) → p ∉ fp' → Rels K nf H' vs ds → EnvR K nf H' σ env' fp' → Ch fp H fp' H' → Qd ds env' → Q (.ref p) H') :
    tLc (liftI K nf di) (liftG K nf js g) (liftB K nf dt) (lift K nf de) js σ H Q := by
  refine ⟨env, fp, _, R, h, fun J ds H1 env1 fp1 ⟨G, Y, w, hG, hY⟩ R1 c1 q1 => fun Dl hD => ?_⟩
  obtain ⟨fpw, Rw, cw⟩ := R1.wipe js
  have x0 : Xt H1 (upd H1 Dl (.lst [])) := Xt.new hD
  refine lc_it w (fun i H' => ∃ env' fp' vs acc, EnvR K nf H' (L2.wipe σ js) env' fp' ∧ Ch fp1 H1 fp' H' ∧ Dl ∉ fp' ∧ H' Dl = some (.lst vs) ∧ Rels K nf H' vs acc ∧ (∀ j ∈ js, env'[j]? = some .un ∨ env'.length ≤ j) ∧ dComp g dt de js (ds.drop i) acc env' Qd)
    ⟨_, fpw, [], [], Rw.ext x0, cw.trans x0.ch, (fun m => by obtain ⟨u, e, _⟩ := Rw.trk Dl m; rw [hD] at e; cases e), upd_same, .nil, wipeD_un env1 js, q1⟩
    (fun i H' _ ⟨env', fp', _, _, R', c', _⟩ => hG H' (c'.stp R1)) (fun i x H' H2 hi ⟨env', fp', vs, acc, R', c', nD, hDl, rr, hu, q'⟩ y => ?_) fun H' ⟨env', fp', vs, acc, R', c', nD, hDl, rr, hu, q'⟩ => ?_
  · obtain ⟨xt, d, ed, r⟩ := hY i H' x H2 hi (c'.stp R1) y
    rw [drop_cons ed] at q'
    refine ⟨d, env', fp', _, r, R'.ext xt, q', fun σ2 env2 fp2 hw R2 c2 q2 => ⟨by rw [hw]; exact wipe_wipe σ js, ?_⟩⟩
    have c3 := (c'.trans xt.ch).trans c2
    have nD2 : Dl ∉ fp2 := fun m => by
      rcases (xt.ch.trans c2).sub Dl m with z | z
      · exact nD z
      · rw [hDl] at z; cases z
    have hD2 : H2 Dl = some (.lst vs) := xt _ _ hDl
    refine ⟨env2, fp2, _, R2, q2, fun b H3 env3 fp3 R3 c4 q3 => ?_⟩
    have nD3 : Dl ∉ fp3 := fun m => by
      rcases c4.sub Dl m with z | z
      · exact nD2 z
      · rw [hD2] at z; cases z
    have hD3 : H3 Dl = some (.lst vs) := c4.keep _ _ hD2 nD2
    have st3 : Stp nf H' H3 := xt.stp.trans (c4.stp R2)
    cases b with
    | true =>
      show lift K nf de σ2 H3 _
      refine lift_run R3 q3 fun v H4 d4 env4 fp4 r4 R4 c5 ⟨hlen, q4⟩ => ?_
      have nD4 : Dl ∉ fp4 := fun m => by
        rcases c5.sub Dl m with z | z
        · exact nD3 z
        · rw [hD3] at z; cases z
      have hD4 : H4 Dl = some (.lst vs) := c5.keep _ _ hD3 nD3
      have rr4 : Rels K nf H4 vs acc := rr.mono (st3.trans (c5.stp R3))
      obtain ⟨fp5, R5, c6⟩ := R4.wipe js
      have nD5 : Dl ∉ fp5 := fun m => by
        rcases c6.sub Dl m with z | z
        · exact nD4 z
        · rw [hD4] at z; cases z
      have st5 : Stp nf H4 (upd H4 Dl (.lst (vs ++ [v]))) := fun a u e f => by
        by_cases ha : a = Dl
        · subst ha; rw [hD4] at e; cases e; exact f.elim
        · rw [upd_ne ha]; exact e
      have R6 := R5.frame (H' := upd H4 Dl (.lst (vs ++ [v]))) (fun a m => upd_ne fun z => nD5 (z ▸ m)) st5 R1.2 ((((c3.trans c4).trans c5).trans c6).put hD)
      have hw' : L2.wipe σ2 js = L2.wipe σ js := by rw [hw]; exact wipe_wipe σ js
      rw [hw'] at R6
      refine ⟨vs, hD4, by rw [rr4.length]; exact Nat.lt_of_lt_of_le hlen (by decide), _, fp5, vs ++ [v], acc ++ [d4], R6, ?_, nD5, upd_same, (rr4.append (.cons r4 .nil)).mono st5, wipeD_un _ _, q4⟩
      have cc := ((c3.trans c4).trans c5).trans c6
      exact ⟨fun a u e n => by rw [upd_ne (ne_of_none e hD)]; exact cc.keep a u e n, cc.sub, fun a e => cc.there a (by
        by_cases ha : a = Dl
        · subst ha; rw [upd_same] at e; cases e
        · rw [upd_ne ha] at e; exact e)⟩
    | false =>
      obtain ⟨fp5, R5, c6⟩ := R3.wipe js
      have hw' : L2.wipe σ2 js = L2.wipe σ js := by rw [hw]; exact wipe_wipe σ js
      rw [hw'] at R5
      refine ⟨_, fp5, vs, acc, R5, (c3.trans c4).trans c6, fun m => ?_, hD3, rr.mono st3, wipeD_un _ _, q3⟩
      rcases c6.sub Dl m with z | z
      · exact nD3 z
      · rw [hD3] at z; cases z
  · rw [List.drop_length] at q'
    have R7 : EnvR K nf H' σ env' fp' := EnvR.unwipe js R' (wipe_wipe σ js).symm hu
    have hDn : H Dl = none := c1.there Dl hD
    exact k Dl vs H' acc env' fp' hDn hDl nD rr R7 (c1.trans c') q'
where
  wipe_wipe (σ : St) : ∀ js : List Nat, L2.wipe (L2.wipe σ js) js = L2.wipe σ js
    | [] => rfl
    | j :: js => by
      show (L2.wipe ((L2.wipe σ js).set j none) js).set j none = (L2.wipe σ js).set j none
      rw [wipe_out, List.set_set, wipe_wipe σ js]
end
end DL

namespace DL
open PySem L2
section
variable [Anch] {X : Cx} {nf : Addr → Nat} {K : PySem.W.Frag}
/-! ### the footprints slot by slot -/
structure EnvF (K : PySem.W.Frag) (nf : Addr → Nat) (H : Hp) (σ : St) (env : EV nf) (f : Nat → List Addr) : Prop where
  len : σ.length = env.length
  slot : ∀ i s, env[i]? = some s → ∃ o, σ[i]? = some o ∧ SlotR K nf H o (f i) s
  apart : ∀ i j, i < env.length → j < env.length → i ≠ j → ∀ a ∈ f i, a ∉ f j
theorem EnvL.toF {H : Hp} {σ : St} {env : EV nf} {fp : List Addr} (R : EnvL K nf H σ env fp) : ∃ f, EnvF K nf H σ env f ∧ ∀ a, a ∈ fp ↔ ∃ i, i < env.length ∧ a ∈ f i := by
  induction R with
  | nil => exact ⟨fun _ => [], ⟨rfl, fun i s e => (by simp at e), fun i j h => (by simp at h)⟩, fun a => ⟨fun m => (by cases m), fun ⟨i, h, _⟩ => (by simp at h)⟩⟩
  | @cons o σ s env fp fq hs he hd ih =>
    obtain ⟨f, F, hm⟩ := ih
    refine ⟨fun i => match i with | 0 => fp | i + 1 => f i, ⟨by simp [F.len], fun i s' e => ?_, fun i j hi hj hij a ha => ?_⟩, fun a => ⟨fun m => ?_, fun ⟨i, hi, m⟩ => ?_⟩⟩
    · cases i with
      | zero => simp at e; subst e; exact ⟨o, rfl, hs⟩
      | succ i => exact F.slot i s' (by simpa using e)
    · cases i with
      | zero =>
        cases j with
        | zero => exact absurd rfl hij
        | succ j => exact fun z => hd a ha ((hm a).mpr ⟨j, by simpa using hj, z⟩)
      | succ i =>
        cases j with
        | zero => exact fun z => hd a z ((hm a).mpr ⟨i, by simpa using hi, ha⟩)
        | succ j => exact F.apart i j (by simpa using hi) (by simpa using hj) (fun e => hij (by rw [e])) a ha
    · rcases List.mem_append.mp m with m | m
      · exact ⟨0, by simp, m⟩
      · obtain ⟨i, hi, mi⟩ := (hm a).mp m
        exact ⟨i + 1, by simp; omega, mi⟩
    · cases i with
      | zero => exact List.mem_append_left _ m
      | succ i => exact List.mem_append_right _ ((hm a).mpr ⟨i, by simpa using hi, m⟩)
theorem EnvF.toR : ∀ {H : Hp} {σ : St} {env : EV nf} {f : Nat → List Addr}, EnvF K nf H σ env f → ∃ fp, EnvL K nf H σ env fp ∧ ∀ a, a ∈ fp ↔ ∃ i, i < env.length ∧ a ∈ f i
  | _, [], [], _, _ => ⟨[], .nil, fun a => ⟨fun m => (by cases m), fun ⟨i, h, _⟩ => (by simp at h)⟩⟩
  | _, [], _ :: _, _, F => by have := F.len; simp at this
  | _, _ :: _, [], _, F => by have := F.len; simp at this
  | H, o :: σ, s :: env, f, F => by
    obtain ⟨fq, R, hm⟩ := EnvF.toR (H := H) (σ := σ) (env := env) (f := fun i => f (i + 1)) ⟨by have := F.len; simpa using this, fun i s' e => by
      obtain ⟨o', e', h'⟩ := F.slot (i + 1) s' (by simpa using e)
      exact ⟨o', by simpa using e', h'⟩, fun i j hi hj hij a ha => F.apart (i + 1) (j + 1) (by simp; omega) (by simp; omega) (by omega) a ha⟩
    obtain ⟨o', e', h'⟩ := F.slot 0 s rfl
    simp at e'
    subst e'
    refine ⟨f 0 ++ fq, .cons h' R fun a ha hq => ?_, fun a => ⟨fun m => ?_, fun ⟨i, hi, m⟩ => ?_⟩⟩
    · obtain ⟨i, hi, mi⟩ := (hm a).mp hq
      exact F.apart 0 (i + 1) (by simp) (by simp; omega) (by omega) a ha mi
    · rcases List.mem_append.mp m with m | m
      · exact ⟨0, by simp, m⟩
      · obtain ⟨i, hi, mi⟩ := (hm a).mp m
        exact ⟨i + 1, by simp; omega, mi⟩
    · cases i with
      | zero => exact List.mem_append_left _ m
      | succ i => exact List.mem_append_right _ ((hm a).mpr ⟨i, by simpa using hi, m⟩)

/-! ### arguments: data, or a slot as it is -/
inductive AD where
  | v (d : D) | o (i : Nat)
def resolve (env : EV nf) : AD → SD nf
  | .v d => .fz d
  | .o i => (env[i]?).getD .un
def slotsOf : List AD → List Nat
  | [] => []
  | .v _ :: r => slotsOf r
  | .o i :: r => i :: slotsOf r
def putBack : EV nf → List AD → List (SD nf) → EV nf
  | env, [], _ => env
  | env, _ :: _, [] => env
  | env, .v _ :: r, _ :: as => putBack env r as
  | env, .o i :: r, s :: as => putBack (env.set i s) r as
theorem putBack_len : ∀ (env : EV nf) (ads : List AD) (as : List (SD nf)), (putBack env ads as).length = env.length
  | env, [], _ => by simp only [putBack]
  | env, _ :: _, [] => by simp only [putBack]
  | env, .v _ :: r, _ :: as => by simp only [putBack]; exact putBack_len env r as
  | env, .o i :: r, s :: as => by simp only [putBack]; rw [putBack_len, List.length_set]
/-- what stands at i behind it: the argument's new state, or what stood -/
theorem putBack_get : ∀ (env : EV nf) (ads : List AD) (as : List (SD nf)) (i : Nat) (s : SD nf), ads.length = as.length → (slotsOf ads).Nodup → (putBack env ads as)[i]? = some s →
    (i ∉ slotsOf ads ∧ env[i]? = some s) ∨ ∃ k : Nat, ads[k]? = some (.o i) ∧ as[k]? = some s
  | env, [], _, i, s, _, _, e => by simp only [putBack] at e; exact .inl ⟨(fun m => by cases m), e⟩
  | env, a :: r, [], i, s, hl, _, e => by simp at hl
  | env, .v d :: r, _ :: as, i, s, hl, nd, e => by
    simp only [putBack] at e
    rcases putBack_get env r as i s (by simpa using hl) nd e with h | ⟨k, h1, h2⟩
    · exact .inl h
    · exact .inr ⟨k + 1, by simpa using h1, by simpa using h2⟩
  | env, .o j :: r, s0 :: as, i, s, hl, nd, e => by
    have nd' : (j :: slotsOf r).Nodup := nd
    simp only [putBack] at e
    rcases putBack_get (env.set j s0) r as i s (by simpa using hl) (List.nodup_cons.mp nd').2 e with ⟨h1, h2⟩ | ⟨k, h1, h2⟩
    · by_cases hj : j = i
      · subst hj
        by_cases hl2 : j < env.length
        · rw [List.getElem?_set_self hl2] at h2
          exact .inr ⟨0, rfl, by simpa using h2⟩
        · rw [List.getElem?_eq_none (by simpa using hl2)] at h2
          cases h2
      · rw [List.getElem?_set_ne hj] at h2
        refine .inl ⟨fun m => ?_, h2⟩
        rcases List.mem_cons.mp (show i ∈ j :: slotsOf r from m) with z | z
        · exact hj z.symm
        · exact h1 z
    · exact .inr ⟨k + 1, by simpa using h1, by simpa using h2⟩
inductive ArgsM (K : PySem.W.Frag) (nf : Addr → Nat) (H : Hp) (σ : St) : List V → List AD → Prop
  | nil : ArgsM K nf H σ [] []
  | val {v : V} {d : D} {vs ads} : Rel K nf H v d → ArgsM K nf H σ vs ads → ArgsM K nf H σ (v :: vs) (.v d :: ads)
  | slot {v : V} {i : Nat} {vs ads} : σ[i]? = some (some v) → ArgsM K nf H σ vs ads → ArgsM K nf H σ (v :: vs) (.o i :: ads)
theorem ArgsM.mono {H H' : Hp} {σ : St} (e : Stp nf H H') : ∀ {vs : List V} {ads : List AD}, ArgsM K nf H σ vs ads → ArgsM K nf H' σ vs ads
  | _, _, .nil => .nil
  | _, _, .val h r => .val (h.mono e) (r.mono e)
  | _, _, .slot h r => .slot h (r.mono e)
theorem ArgsM.len {H : Hp} {σ : St} : ∀ {vs : List V} {ads : List AD}, ArgsM K nf H σ vs ads → vs.length = ads.length
  | _, _, .nil => rfl
  | _, _, .val _ r => by rw [List.length_cons, List.length_cons, ArgsM.len r]
  | _, _, .slot _ r => by rw [List.length_cons, List.length_cons, ArgsM.len r]
theorem ArgsM.get {H : Hp} {σ : St} : ∀ {vs : List V} {ads : List AD} {k : Nat} {ad : AD}, ArgsM K nf H σ vs ads → ads[k]? = some ad → ∃ v, vs[k]? = some v ∧ match ad with | .v d => Rel K nf H v d | .o i => σ[i]? = some (some v)
  | _, _, _, _, .nil, e => by simp at e
  | _, _, 0, _, .val h _, e => by simp at e; subst e; exact ⟨_, rfl, h⟩
  | _, _, 0, _, .slot h _, e => by simp at e; subst e; exact ⟨_, rfl, h⟩
  | _, _, k + 1, ad, .val _ r, e => by
    obtain ⟨v, h1, h2⟩ := ArgsM.get (k := k) (ad := ad) r (by simpa using e)
    exact ⟨v, by simpa using h1, h2⟩
  | _, _, k + 1, ad, .slot _ r, e => by
    obtain ⟨v, h1, h2⟩ := ArgsM.get (k := k) (ad := ad) r (by simpa using e)
    exact ⟨v, by simpa using h1, h2⟩
theorem slots_mem : ∀ {ads : List AD} {k i : Nat}, ads[k]? = some (.o i) → i ∈ slotsOf ads
  | [], _, _, e => by simp at e
  | .v _ :: r, 0, i, e => by simp at e
  | .v _ :: r, k + 1, i, e => slots_mem (ads := r) (k := k) (by simpa using e)
  | .o j :: r, 0, i, e => by simp at e; subst e; exact List.mem_cons_self
  | .o j :: r, k + 1, i, e => List.mem_cons_of_mem _ (slots_mem (ads := r) (k := k) (by simpa using e))
theorem slots_inj : ∀ {ads : List AD} {k l i : Nat}, (slotsOf ads).Nodup → ads[k]? = some (.o i) → ads[l]? = some (.o i) → k = l
  | [], _, _, _, _, e, _ => by simp at e
  | .v _ :: r, 0, _, _, _, e, _ => by simp at e
  | .v _ :: r, _ + 1, 0, _, _, _, e => by simp at e
  | .v _ :: r, k + 1, l + 1, i, nd, e, e' => by rw [slots_inj (ads := r) (k := k) (l := l) nd (by simpa using e) (by simpa using e')]
  | .o j :: r, 0, 0, _, _, _, _ => rfl
  | .o j :: r, 0, l + 1, i, nd, e, e' => by
    simp at e
    subst e
    have nd' : (j :: slotsOf r).Nodup := nd
    exact absurd (slots_mem (ads := r) (k := l) (by simpa using e')) (List.nodup_cons.mp nd').1
  | .o j :: r, k + 1, 0, i, nd, e, e' => by
    simp at e'
    subst e'
    have nd' : (j :: slotsOf r).Nodup := nd
    exact absurd (slots_mem (ads := r) (k := k) (by simpa using e)) (List.nodup_cons.mp nd').1
  | .o j :: r, k + 1, l + 1, i, nd, e, e' => by
    have nd' : (j :: slotsOf r).Nodup := nd
    rw [slots_inj (ads := r) (k := k) (l := l) (List.nodup_cons.mp nd').2 (by simpa using e) (by simpa using e')]
theorem slots_idx : ∀ {ads : List AD} {i : Nat}, i ∈ slotsOf ads → ∃ k : Nat, ads[k]? = some (.o i)
  | [], _, m => by cases m
  | .v _ :: r, i, m => let ⟨k, e⟩ := slots_idx (ads := r) (i := i) m; ⟨k + 1, by simpa using e⟩
  | .o j :: r, i, m => by
    rcases List.mem_cons.mp (show i ∈ j :: slotsOf r from m) with z | z
    · subst z; exact ⟨0, rfl⟩
    · obtain ⟨k, e⟩ := slots_idx (ads := r) (i := i) z
      exact ⟨k + 1, by simpa using e⟩
/-- THE ARGUMENTS of a call taken out of the slots, and put back behind it -/
theorem EnvL.args {H : Hp} {σ : St} {env : EV nf} {fp : List Addr} (R : EnvL K nf H σ env fp) {vs : List V} {ads : List AD} (M : ArgsM K nf H σ vs ads) (nd : (slotsOf ads).Nodup) (hin : ∀ i ∈ slotsOf ads, i < env.length) :
    ∃ fpa, EnvL K nf H (vs.map some) (ads.map (resolve env)) fpa ∧ ∀ H' as fpa', as.length = ads.length → EnvL K nf H' (vs.map some) as fpa' → Ch fpa H fpa' H' → ∃ fp', EnvL K nf H' σ (putBack env ads as) fp' ∧ Ch fp H fp' H' ∧ (∀ a ∈ fp', a ∈ fpa' ∨ (a ∈ fp ∧ a ∉ fpa)) ∧ ∀ a ∈ fpa, a ∈ fp := by
  classical
  obtain ⟨f, F, hm⟩ := R.toF
  let g : Nat → List Addr := fun k => match ads[k]? with | some (.o i) => f i | _ => []
  have gv : ∀ k i, ads[k]? = some (.o i) → g k = f i := fun k i e => by show (match ads[k]? with | some (.o i) => f i | _ => []) = _; rw [e]
  have gd : ∀ k d, ads[k]? = some (.v d) → g k = [] := fun k d e => by show (match ads[k]? with | some (.o i) => f i | _ => []) = _; rw [e]
  have gmem : ∀ k a, a ∈ g k → ∃ i, ads[k]? = some (.o i) ∧ a ∈ f i := fun k a m => by
    cases e : ads[k]? with
    | none => have : g k = [] := by show (match ads[k]? with | some (.o i) => f i | _ => []) = _; rw [e]
              rw [this] at m; cases m
    | some ad =>
      cases ad with
      | v d => rw [gd k d e] at m; cases m
      | o i => rw [gv k i e] at m; exact ⟨i, rfl, m⟩
  have FA : EnvF K nf H (vs.map some) (ads.map (resolve env)) g := by
    refine ⟨by simp [M.len], fun k s e => ?_, fun k l hk hl hkl a ha => ?_⟩
    · rw [List.getElem?_map] at e
      cases ea : ads[k]? with
      | none => rw [ea] at e; cases e
      | some ad =>
        rw [ea] at e
        simp only [Option.map_some, Option.some.injEq] at e
        obtain ⟨v, ev, hv⟩ := M.get ea
        refine ⟨some v, by rw [List.getElem?_map, ev]; rfl, ?_⟩
        cases ad with
        | v d =>
          subst e
          rw [gd k d ea]
          exact ⟨rfl, v, rfl, hv⟩
        | o i =>
          have hv' : σ[i]? = some (some v) := hv
          have hi := hin i (slots_mem ea)
          obtain ⟨o, eo, so⟩ := F.slot i env[i] (by simp [hi])
          rw [hv'] at eo
          cases eo
          subst e
          rw [gv k i ea]
          show SlotR K nf H (some v) (f i) ((env[i]?).getD .un)
          simp only [List.getElem?_eq_getElem hi, Option.getD_some]
          exact so
    · obtain ⟨i, ei, mi⟩ := gmem k a ha
      intro z
      obtain ⟨j, ej, mj⟩ := gmem l a z
      by_cases hij : i = j
      · subst hij
        exact hkl (slots_inj nd ei ej)
      · exact F.apart i j (hin i (slots_mem ei)) (hin j (slots_mem ej)) hij a mi mj
  obtain ⟨fpa, RA, hma⟩ := FA.toR
  refine ⟨fpa, RA, fun H' as fpa' hl RA' ch => ?_⟩
  obtain ⟨g', F', hm'⟩ := RA'.toF
  have inA : ∀ a, a ∈ fpa ↔ ∃ i, i ∈ slotsOf ads ∧ a ∈ f i := fun a => by
    refine ⟨fun m => ?_, fun ⟨i, hi, mi⟩ => ?_⟩
    · obtain ⟨k, _, mk⟩ := (hma a).mp m
      obtain ⟨i, ei, mi⟩ := gmem k a mk
      exact ⟨i, slots_mem ei, mi⟩
    · obtain ⟨k, ek⟩ := slots_idx hi
      refine (hma a).mpr ⟨k, ?_, by rw [gv k i ek]; exact mi⟩
      rw [List.length_map]
      exact (List.getElem?_eq_some_iff.mp ek).1
  have st : Stp nf H H' := ch.stpL RA
  let f' : Nat → List Addr := fun i => if h : i ∈ slotsOf ads then g' (Classical.choose (slots_idx h)) else f i
  have fv : ∀ k i, ads[k]? = some (.o i) → f' i = g' k := fun k i e => by
    have h : i ∈ slotsOf ads := slots_mem e
    show (if h : i ∈ slotsOf ads then g' (Classical.choose (slots_idx h)) else f i) = _
    rw [dif_pos h, slots_inj nd (Classical.choose_spec (slots_idx h)) e]
  have fo : ∀ i, i ∉ slotsOf ads → f' i = f i := fun i h => dif_neg h
  have notA : ∀ i, i < env.length → i ∉ slotsOf ads → ∀ a ∈ f i, a ∉ fpa := fun i hi h a ha z => by
    obtain ⟨j, hj, mj⟩ := (inA a).mp z
    exact F.apart i j hi (hin j hj) (fun e => h (e ▸ hj)) a ha mj
  have trk : ∀ i, i < env.length → ∀ a ∈ f i, ∃ u, H a = some u := fun i hi a ha => by
    obtain ⟨u, e, _⟩ := R.trk a ((hm a).mpr ⟨i, hi, ha⟩)
    exact ⟨u, e⟩
  have kl : ∀ k i, ads[k]? = some (.o i) → k < as.length := fun k i e => by rw [hl]; exact (List.getElem?_eq_some_iff.mp e).1
  have FF : EnvF K nf H' σ (putBack env ads as) f' := by
    refine ⟨by rw [putBack_len]; exact F.len, fun i s e => ?_, fun i j hi hj hij a ha => ?_⟩
    · rcases putBack_get env ads as i s hl.symm nd e with ⟨h1, h2⟩ | ⟨k, h1, h2⟩
      · obtain ⟨o, eo, so⟩ := F.slot i s h2
        have hi : i < env.length := (List.getElem?_eq_some_iff.mp h2).1
        refine ⟨o, eo, ?_⟩
        rw [fo i h1]
        refine so.frame (fun a ha => ?_) st
        obtain ⟨u, eu⟩ := trk i hi a ha
        rw [eu]
        exact ch.keep a u eu (notA i hi h1 a ha)
      · obtain ⟨o, eo, so⟩ := F'.slot k s h2
        obtain ⟨v, ev, hv⟩ := M.get h1
        rw [List.getElem?_map, ev] at eo
        cases eo
        refine ⟨some v, hv, ?_⟩
        rw [fv k i h1]
        exact so
    · rw [putBack_len] at hi hj
      by_cases h1 : i ∈ slotsOf ads
      · obtain ⟨k, ek⟩ := slots_idx h1
        rw [fv k i ek] at ha
        by_cases h2 : j ∈ slotsOf ads
        · obtain ⟨l, el⟩ := slots_idx h2
          rw [fv l j el]
          exact F'.apart k l (kl k i ek) (kl l j el) (fun e => hij (by
            subst e
            rw [ek] at el
            cases el
            rfl)) a ha
        · rw [fo j h2]
          intro z
          rcases ch.sub a ((hm' a).mpr ⟨k, kl k i ek, ha⟩) with q | q
          · exact notA j hj h2 a z q
          · obtain ⟨u, eu⟩ := trk j hj a z
            rw [q] at eu; cases eu
      · rw [fo i h1] at ha
        by_cases h2 : j ∈ slotsOf ads
        · obtain ⟨l, el⟩ := slots_idx h2
          rw [fv l j el]
          intro z
          rcases ch.sub a ((hm' a).mpr ⟨l, kl l j el, z⟩) with q | q
          · exact notA i hi h1 a ha q
          · obtain ⟨u, eu⟩ := trk i hi a ha
            rw [q] at eu; cases eu
        · rw [fo j h2]
          exact F.apart i j hi hj hij a ha
  obtain ⟨fp', R', hmf⟩ := FF.toR
  refine ⟨fp', R', ⟨fun a u e n => ch.keep a u e fun m => ?_, fun a m => ?_, ch.there⟩, fun a m => ?_, fun a m => ?_⟩
  · obtain ⟨i, hi, mi⟩ := (inA a).mp m
    exact n ((hm a).mpr ⟨i, hin i hi, mi⟩)
  · obtain ⟨i, hi, mi⟩ := (hmf a).mp m
    rw [putBack_len] at hi
    by_cases h1 : i ∈ slotsOf ads
    · obtain ⟨k, ek⟩ := slots_idx h1
      rw [fv k i ek] at mi
      rcases ch.sub a ((hm' a).mpr ⟨k, kl k i ek, mi⟩) with q | q
      · obtain ⟨j, hj, mj⟩ := (inA a).mp q
        exact .inl ((hm a).mpr ⟨j, hin j hj, mj⟩)
      · exact .inr q
    · rw [fo i h1] at mi
      exact .inl ((hm a).mpr ⟨i, hi, mi⟩)
  · obtain ⟨i, hi, mi⟩ := (hmf a).mp m
    rw [putBack_len] at hi
    by_cases h1 : i ∈ slotsOf ads
    · obtain ⟨k, ek⟩ := slots_idx h1
      rw [fv k i ek] at mi
      exact .inl ((hm' a).mpr ⟨k, kl k i ek, mi⟩)
    · rw [fo i h1] at mi
      exact .inr ⟨(hm a).mpr ⟨i, hi, mi⟩, notA i hi h1 a mi⟩
  · obtain ⟨i, hi, mi⟩ := (inA a).mp m
    exact (hm a).mpr ⟨i, hin i hi, mi⟩
theorem EnvR.args {H : Hp} {σ : St} {env : EV nf} {fp : List Addr} (R : EnvR K nf H σ env fp) {vs : List V} {ads : List AD} (M : ArgsM K nf H σ vs ads) (nd : (slotsOf ads).Nodup) (hin : ∀ i ∈ slotsOf ads, i < env.length) :
    ∃ fpa, EnvL K nf H (vs.map some) (ads.map (resolve env)) fpa ∧ ∀ H' as fpa', as.length = ads.length → EnvL K nf H' (vs.map some) as fpa' → Ch fpa H fpa' H' → ∃ fp', EnvR K nf H' σ (putBack env ads as) fp' ∧ Ch fp H fp' H' ∧ (∀ a ∈ fp', a ∈ fpa' ∨ (a ∈ fp ∧ a ∉ fpa)) ∧ ∀ a ∈ fpa, a ∈ fp := by
  obtain ⟨fpa, RA, put⟩ := R.1.args M nd hin
  refine ⟨fpa, RA, fun H' as fpa' hl RA' ch => ?_⟩
  obtain ⟨fp', R', c, h1, h2⟩ := put H' as fpa' hl RA' ch
  exact ⟨fp', R.re R' c, c, h1, h2⟩
end
end DL

namespace DL
open PySem L2
section
variable [Anch] {X : Cx} {nf : Addr → Nat} {K : PySem.W.Frag}
/-! ### what a def promises, heap-free -/
abbrev SpD (nf : Addr → Nat) := List (SD nf) → (D → List (SD nf) → Prop) → Prop
def toSp (K : PySem.W.Frag) (nf : Addr → Nat) (n : Nat) (S : SpD nf) : Sp := fun vs H Q _ => vs.length = n ∧ ∃ as fp Qd, as.length = n ∧ EnvL K nf H (vs.map some) as fp ∧ S as Qd ∧
  ∀ v H' d as' fp', as'.length = n → Rel K nf H' v d → EnvL K nf H' (vs.map some) as' fp' → Ch fp H fp' H' → Qd d as' → Q v H'
/-- at the end of a body: the owned parameters are still in their slots -/
def BackOk : List (SD nf) → EV nf → Prop
  | [], _ => True
  | .ow v _ :: as, e :: env => ((∃ A', e = .ow v A') ∨ ∃ d, e = .fr v d) ∧ BackOk as env
  | _ :: as, _ :: env => BackOk as env
  | _ :: _, [] => False
def back : List (SD nf) → EV nf → List (SD nf)
  | [], _ => []
  | .ow _ _ :: as, e :: env => e :: back as env
  | a :: as, _ :: env => a :: back as env
  | a :: as, [] => a :: back as []
theorem back_len : ∀ (as : List (SD nf)) (env : EV nf), (back as env).length = as.length
  | [], _ => by simp [back]
  | .ow _ _ :: as, e :: env => by simp [back, back_len as env]
  | .un :: as, e :: env => by simp [back, back_len as env]
  | .fz _ :: as, e :: env => by simp [back, back_len as env]
  | .fr _ _ :: as, e :: env => by simp [back, back_len as env]
  | .ow _ _ :: as, [] => by simp [back, back_len as []]
  | .un :: as, [] => by simp [back, back_len as []]
  | .fz _ :: as, [] => by simp [back, back_len as []]
  | .fr _ _ :: as, [] => by simp [back, back_len as []]
def fnEnds (as : List (SD nf)) (Qd : D → List (SD nf) → Prop) : EndsD nf where
  nx env := BackOk as env ∧ Qd .non (back as env)
  rt d env := BackOk as env ∧ Qd d (back as env)
theorem EnvL.back {H H' : Hp} (st : Stp nf H H') : ∀ {vs : List V} {as : List (SD nf)} {fp : List Addr} {σ' : St} {env' : EV nf} {fp' : List Addr}, EnvL K nf H (vs.map some) as fp → EnvL K nf H' σ' env' fp' → BackOk as env' →
    ∃ fq, EnvL K nf H' (vs.map some) (back as env') fq ∧ ∀ a ∈ fq, a ∈ fp'
  | [], [], _, _, _, _, _, _, _ => ⟨[], by simp only [DL.back]; exact .nil, fun a m => by cases m⟩
  | [], _ :: _, _, _, _, _, R, _, _ => by cases R
  | _ :: _, [], _, _, _, _, R, _, _ => by cases R
  | v :: vs, s :: as, _, _, [], _, _, _, b => by cases s <;> simp [BackOk] at b
  | v :: vs, s :: as, _, [], _ :: _, _, _, R', _ => by cases R'
  | v :: vs, s :: as, fp, o' :: σ', e' :: env', fp', R, R', b => by
    cases R with
    | cons hs hr hd =>
      cases R' with
      | @cons _ _ _ _ f1 f2 hs' hr' hd' =>
        cases s with
        | ow w A =>
          simp only [BackOk] at b
          obtain ⟨fq, R2, sub⟩ := EnvL.back st hr hr' b.2
          have ev : v = w := Option.some.inj hs.1
          subst ev
          refine ⟨f1 ++ fq, ?_, fun a m => ?_⟩
          · simp only [DL.back, List.map_cons]
            refine .cons ?_ R2 fun a m z => hd' a m (sub a z)
            rcases b.1 with ⟨A', e⟩ | ⟨d, e⟩
            · subst e; exact ⟨rfl, hs'.2⟩
            · subst e; exact ⟨hs'.1, rfl, hs'.2.2⟩
          · rcases List.mem_append.mp m with m | m
            · exact List.mem_append_left _ m
            · exact List.mem_append_right _ (sub a m)
        | un =>
          simp only [BackOk] at b
          obtain ⟨fq, R2, sub⟩ := EnvL.back st hr hr' b
          refine ⟨[] ++ fq, ?_, fun a m => List.mem_append_right _ (sub a m)⟩
          simp only [DL.back, List.map_cons]
          exact .cons (show SlotR K nf H' (some v) [] .un from rfl) R2 fun a m => by cases m
        | fz d =>
          simp only [BackOk] at b
          obtain ⟨fq, R2, sub⟩ := EnvL.back st hr hr' b
          refine ⟨[] ++ fq, ?_, fun a m => List.mem_append_right _ (sub a m)⟩
          simp only [DL.back, List.map_cons]
          obtain ⟨_, w, ew, r⟩ := hs
          exact .cons (show SlotR K nf H' (some v) [] (.fz d) from ⟨rfl, w, ew, r.mono st⟩) R2 fun a m => by cases m
        | fr w d =>
          simp only [BackOk] at b
          obtain ⟨fq, R2, sub⟩ := EnvL.back st hr hr' b
          refine ⟨[] ++ fq, ?_, fun a m => List.mem_append_right _ (sub a m)⟩
          simp only [DL.back, List.map_cons]
          obtain ⟨_, ew, r⟩ := hs
          exact .cons (show SlotR K nf H' (some v) [] (.fr w d) from ⟨rfl, ew, r.mono st⟩) R2 fun a m => by cases m
theorem EnvL.pad {H : Hp} : ∀ {σ : St} {env : EV nf} {fp : List Addr} (m : Nat), EnvL K nf H σ env fp → EnvL K nf H (σ ++ List.replicate m none) (env ++ List.replicate m .un) fp
  | _, _, _, 0, .nil => .nil
  | _, _, _, m + 1, .nil => by
    have h : EnvL K nf H (([] : St) ++ List.replicate m none) (([] : EV nf) ++ List.replicate m .un) [] := EnvL.pad m .nil
    have h2 : EnvL K nf H (none :: (([] : St) ++ List.replicate m none)) (.un :: (([] : EV nf) ++ List.replicate m .un)) ([] ++ []) := .cons (show SlotR K nf H none [] .un from rfl) h fun a z => by cases z
    exact h2
  | _, _, _, m, .cons hs hr hd => .cons hs (EnvL.pad m hr) hd
end
section
variable {X : Cx} {nf : Addr → Nat} {K : PySem.W.Frag}
/-- THE BODY keeps the promise -/
theorem body_ok {body : List Stmt} {td : DTS nf} {N : List Str} {n : Nat} {S : SpD nf} (h : DSs X nf body td) (hn : n ≤ N.length) (hb : ∀ as Qd, as.length = n → S as Qd → td (fnEnds as Qd) (as ++ List.replicate (N.length - n) .un))
    {vs : List V} {H : Hp} {Q : VK} {E : XK} (hs : toSp X.K nf n S vs H Q E) : ∃ t, PSs X body t ∧ t { nx := fun _ H' => Q .non H', rt := Q } (start N vs) H := by
  obtain ⟨hv, as, fp, Qd, hl, R, s, k⟩ := hs
  refine ⟨_, h, as ++ List.replicate (N.length - n) .un, fp, fnEnds as Qd, ⟨?_, trivial⟩, hb as Qd hl s, ?_⟩
  · have := R.pad (N.length - n)
    rw [← hv] at this ⊢
    exact this
  · refine ⟨fun σ' H' env' fp' R' c ⟨b, q⟩ => ?_, fun v d σ' H' env' fp' r R' c ⟨b, q⟩ => ?_, fun σ' H' env' fp' R' c q => q.elim, fun σ' H' env' fp' R' c q => q.elim, fun _ _ _ _ _ _ _ _ _ _ _ q => q.elim⟩
    · obtain ⟨fq, R2, sub⟩ := EnvL.back (c.stpL (R.pad (N.length - n))) R R'.1 b
      exact k .non H' .non _ fq (by rw [back_len, hl]) .non R2 ⟨c.keep, fun a m => c.sub a (sub a m), c.there⟩ q
    · obtain ⟨fq, R2, sub⟩ := EnvL.back (c.stpL (R.pad (N.length - n))) R R'.1 b
      exact k v H' d _ fq (by rw [back_len, hl]) r R2 ⟨c.keep, fun a m => c.sub a (sub a m), c.there⟩ q

end
section
variable [Anch] {X : Cx} {nf : Addr → Nat} {K : PySem.W.Frag}
/-! ### argument lists with slots -/
abbrev DM (nf : Addr → Nat) := EV nf → (List AD → EV nf → Prop) → Prop
def liftM (K : PySem.W.Frag) (nf : Addr → Nat) (r : DM nf) : TA := fun σ H Q => ∃ env fp Qd, EnvR K nf H σ env fp ∧ r env Qd ∧ ∀ vs H' ads env' fp', ArgsM K nf H' σ vs ads → EnvR K nf H' σ env' fp' → Ch fp H fp' H' → Qd ads env' → Q vs H'
variable (X nf) in
abbrev DAM (es : List Expr) (r : DM nf) : Prop := PA X es (liftM X.K nf r)
def mNil : DM nf := fun env Q => Q [] env
def mVal (a : DT nf) (r : DM nf) : DM nf := fun env Q => a env fun d env1 => r env1 fun ads env2 => Q (.v d :: ads) env2
def isSet : SD nf → Prop
  | .un => False
  | _ => True
def mSlot (i : Nat) (r : DM nf) : DM nf := fun env Q => (∃ s, env[i]? = some s ∧ isSet s) ∧ r env fun ads env2 => Q (.o i :: ads) env2
theorem dm_nil : DAM X nf [] mNil := pa_imp pa_nil fun σ H Q ⟨env, fp, Qd, R, q, k⟩ => k [] H [] env fp .nil R Ch.refl q
theorem dm_val {e : Expr} {es : List Expr} {a : DT nf} {r : DM nf} (ha : DE X nf e a) (hr : DAM X nf es r) (hs : starEach (e :: es) X.env = (false, eval e X.env) :: starEach es X.env := by rfl) : DAM X nf (e :: es) (mVal a r) :=
  pa_imp (pa_cons ha hr hs) fun σ H Q ⟨env, fp, Qd, R, h, k⟩ => lift_run R h fun v H1 x env1 fp1 r1 R1 c1 q1 =>
    ⟨env1, fp1, _, R1, q1, fun vs H2 ads env2 fp2 r2 R2 c2 q2 => k (v :: vs) H2 (.v x :: ads) env2 fp2 (.val (r1.mono (c2.stp R1)) r2) R2 (c1.trans c2) q2⟩
theorem SlotR.val {H : Hp} {o : Option V} {fp : List Addr} {s : SD nf} (h : SlotR K nf H o fp s) (hs : isSet s) : ∃ v, o = some v := by
  cases s with
  | un => exact hs.elim
  | fz d => obtain ⟨_, v, e, _⟩ := h; exact ⟨v, e⟩
  | ow v A => exact ⟨v, h.1⟩
  | fr v d => exact ⟨v, h.2.1⟩
theorem dm_slot {i : Nat} {e : Expr} {es : List Expr} {r : DM nf} (ha : PE X e (tVar i)) (hr : DAM X nf es r) (hs : starEach (e :: es) X.env = (false, eval e X.env) :: starEach es X.env := by rfl) : DAM X nf (e :: es) (mSlot i r) :=
  pa_imp (pa_cons ha hr hs) fun σ H Q ⟨env, fp, Qd, R, ⟨⟨s, es, hset⟩, h⟩, k⟩ => by
    obtain ⟨o, fi, eo, so, _⟩ := R.at es
    obtain ⟨v, ev⟩ := so.val hset
    subst ev
    exact ⟨v, eo, env, fp, _, R, h, fun vs H2 ads env2 fp2 r2 R2 c2 q2 => k (v :: vs) H2 (.o i :: ads) env2 fp2 (.slot eo r2) R2 c2 q2⟩

/-! ### calls -/
theorem ArgsM.app {H : Hp} {σ : St} (hv : ∀ {v d}, Rel K nf H v d → Rel K nf H v d) : ∀ {vs : List V} {ads : List AD} {ws : List V} {ds : List D}, ArgsM K nf H σ vs ads → Rels K nf H ws ds → ArgsM K nf H σ (vs ++ ws) (ads ++ ds.map .v)
  | _, _, _, _, .nil, .nil => .nil
  | _, _, _, _, .nil, .cons h r => .val h (ArgsM.app hv .nil r)
  | _, _, _, _, .val h r, s => .val h (ArgsM.app hv r s)
  | _, _, _, _, .slot h r, s => .slot h (ArgsM.app hv r s)
def dCall (n : Nat) (S : SpD nf) (dds : List D) (r : DM nf) : DT nf := fun env Q => r env fun ads env1 => ads.length + dds.length = n ∧ (slotsOf (ads ++ dds.map AD.v)).Nodup ∧ (∀ i ∈ slotsOf (ads ++ dds.map AD.v), i < env1.length) ∧
  S ((ads ++ dds.map AD.v).map (resolve env1)) fun d as' => Q d (putBack env1 (ads ++ dds.map AD.v) as')
theorem sp_run {S : SpD nf} {n : Nat} {σ : St} {H : Hp} {Q : VK} {E : XK} {env : EV nf} {fp : List Addr} {vs : List V} {ads : List AD} {Qd : D → EV nf → Prop} (R : EnvR K nf H σ env fp) (M : ArgsM K nf H σ vs ads) (hn : ads.length = n)
    (nd : (slotsOf ads).Nodup) (hin : ∀ i ∈ slotsOf ads, i < env.length) (s : S (ads.map (resolve env)) fun d as' => Qd d (putBack env ads as'))
    (k : ∀ v H' d env' fp', Rel K nf H' v d → EnvR K nf H' σ env' fp' → Ch fp H fp' H' → Qd d env' → Q v H') : toSp K nf n S vs H Q E := by
  obtain ⟨fpa, RA, put⟩ := R.args M nd hin
  refine ⟨by rw [M.len, hn], _, fpa, _, by rw [List.length_map, hn], RA, s, fun v H' d as' fp' hl r R' c q => ?_⟩
  obtain ⟨fp2, R2, c2, _⟩ := put H' as' fp' (by rw [hl, hn]) R' c
  exact k v H' d _ fp2 r R2 c2 q
theorem lift_call {S : SpD nf} {n : Nat} {dvs : List V} {dds : List D} {r : DM nf} {E : XK} (hd : ∀ H, Rels K nf H dvs dds) (σ : St) (H : Hp) (Q : VK) (h : lift K nf (dCall n S dds r) σ H Q) : tCall (toSp K nf n S) dvs E (liftM K nf r) σ H Q := by
  obtain ⟨env, fp, Qd, R, h, k⟩ := h
  refine ⟨env, fp, _, R, h, fun vs H1 ads env1 fp1 r1 R1 c1 ⟨hl, nd, hin, s⟩ => ?_⟩
  exact sp_run R1 (r1.app id (hd H1)) (by rw [List.length_append, List.length_map, hl]) nd hin s fun v H' d env' fp' r' R' c' q => k v H' d env' fp' r' R' (c1.trans c') q
section
variable {CX : CXT} {k n : Nat} {f C : Addr} {fd : FuncData} {ps : List Str} {S : SpD nf} {dvs : List V} {dds : List D} {ds : List Value} {E : XK} {x m : Str} {p pos apos : Pos} {e o : Expr} {es : List Expr} {r : DM nf} {da : DT nf}
theorem de_call (F : FnOk X.prog X.w X.K X.mg X.base CX k f fd ps (toSp X.K nf n S)) (hr : Room k X.A) (hg : Gl X x) (hm : X.mg x = some (.ref f)) (hk : PySem.W.keepIn X.K (.ref f) = true) (hb : Binds X.K fd ps ds) (hd : Vals dvs ds) (hdd : ∀ H, Rels X.K nf H dvs dds) (hx : Passes CX X E)
    (ha : DAM X nf (e :: es) r) (hdb : (x == ("__debug__" : Str)) = false := by decide) (he : starEach (e :: es) X.env = (false, eval e X.env) :: starEach es X.env := by rfl) (hpl : (backTo pos (starEach es X.env)).any (·.1) = false := by rfl) :
    DE X nf (.Call (.Name x p) (e :: es) [] pos) (dCall n S dds r) := pe_imp (pe_call F hr hg hm hk hb hd hx ha hdb he hpl) (lift_call hdd)
theorem lift_m0 (σ : St) (H : Hp) (Q : List V → Hp → Prop) (h : liftM K nf mNil σ H Q) : tNil σ H Q := by
  obtain ⟨env, fp, Qd, R, q, k⟩ := h
  exact k [] H [] env fp .nil R Ch.refl q
theorem de_call0 (F : FnOk X.prog X.w X.K X.mg X.base CX k f fd ps (toSp X.K nf n S)) (hr : Room k X.A) (hg : Gl X x) (hm : X.mg x = some (.ref f)) (hk : PySem.W.keepIn X.K (.ref f) = true) (hb : Binds X.K fd ps ds) (hd : Vals dvs ds) (hdd : ∀ H, Rels X.K nf H dvs dds) (hx : Passes CX X E)
    (hdb : (x == ("__debug__" : Str)) = false := by decide) : DE X nf (.Call (.Name x p) [] [] pos) (dCall n S dds mNil) := pe_imp (pe_call0 F hr hg hm hk hb hd hx hdb) fun σ H Q h => lift_m0 σ H _ (lift_call (E := E) hdd σ H Q h)
/-! methods of frozen objects -/
theorem RelF.lookup_none : ∀ {H : Hp} {fs : List (Str × V)} {fds : List (Str × D)} {m : Str}, RelF K nf H fs fds → fds.lookup m = none → fs.lookup m = none
  | _, _, _, _, .nil, _ => rfl
  | _, _, _, m, @RelF.cons _ _ _ k v vs d ds _ r, e => by
    rw [List.lookup_cons] at e ⊢
    split at e
    · cases e
    · exact RelF.lookup_none r e
theorem RelF.lookup : ∀ {H : Hp} {fs : List (Str × V)} {fds : List (Str × D)} {m : Str} {d : D}, RelF K nf H fs fds → fds.lookup m = some d → ∃ v, fs.lookup m = some v ∧ Rel K nf H v d
  | _, _, _, _, _, .nil, e => by cases e
  | _, _, _, m, d, @RelF.cons _ _ _ k v vs d' ds h r, e => by
    rw [List.lookup_cons] at e ⊢
    split at e
    · cases e; exact ⟨v, rfl, h⟩
    · exact RelF.lookup r e
def dMeth (n : Nat) (C : Addr) (m : Str) (S : SpD nf) (dds : List D) (da : DT nf) (r : DM nf) : DT nf := fun env Q => da env fun ob env0 => ∃ fds, ob = .obj C fds ∧ fds.lookup m = none ∧ r env0 fun ads env1 => ads.length + dds.length + 1 = n ∧ (slotsOf (ads ++ dds.map AD.v)).Nodup ∧ (∀ i ∈ slotsOf (ads ++ dds.map AD.v), i < env1.length) ∧
  S ((AD.v ob :: (ads ++ dds.map AD.v)).map (resolve env1)) fun d as' => Q d (putBack env1 (AD.v ob :: (ads ++ dds.map AD.v)) as')
theorem lift_meth (hdd : ∀ H, Rels K nf H dvs dds) (σ : St) (H : Hp) (Q : VK) (h : lift K nf (dMeth n C m S dds da r) σ H Q) : tMeth C m (toSp K nf n S) dvs E (lift K nf da) (liftM K nf r) σ H Q := by
  obtain ⟨env, fp, Qd, R, h, k⟩ := h
  refine lift_run R h fun v H0 ob env0 fp0 r0 R0 c0 ⟨fds, eo, hl0, h⟩ => ?_
  subst eo
  cases r0 with
  | @obj a _ dx fs _ ha h1 h2 rf =>
    refine ⟨a, dx, fs, rfl, ha, rf.lookup_none hl0, env0, fp0, _, R0, h, fun vs H1 ads env1 fp1 r1 R1 c1 ⟨hl, nd, hin, s⟩ => ?_⟩
    have ro : Rel K nf H1 (.ref a) (.obj C fds) := (Rel.obj ha h1 h2 rf).mono (c1.stp R0)
    exact sp_run (ads := AD.v (.obj C fds) :: (ads ++ dds.map AD.v)) R1 (.val ro (r1.app id (hdd H1))) (by rw [List.length_cons, List.length_append, List.length_map]; exact hl) nd hin s fun v H' d env' fp' r' R' c' q => k v H' d env' fp' r' R' ((c0.trans c1).trans c') q
theorem de_meth {pl : Sem Bool} (he : DE X nf o da) (c : Cls X.K C) (hm : Meth X.K C m f) (F : FnOk X.prog X.w X.K X.mg X.base CX k f fd ps (toSp X.K nf n S)) (hr : Room k X.A) (hb : Binds X.K fd ps ds) (hd : Vals dvs ds) (hdd : ∀ H, Rels X.K nf H dvs dds) (hx : Passes CX X E) (ha : DAM X nf (e :: es) r)
    (hst : starEach (e :: es) X.env = (false, eval e X.env) :: starEach es X.env := by rfl) (hpl : (backTo pos (starEach es X.env)).any (·.1) = false := by rfl)
    (ht : eval (.Call (.Attribute o m apos) (e :: es) [] pos) X.env = (do
      let ov ← eval o X.env
      standAt apos.atName
      let (f, first) ← holding [ov] (getMethod ov m pl)
      callWith pos f first (backTo pos (starEach (e :: es) X.env)) (backToKw pos (keywordEach [] X.env))) := by rfl) :
    DE X nf (.Call (.Attribute o m apos) (e :: es) [] pos) (dMeth n C m S dds da r) := pe_imp (pe_meth he c hm F hr hb hd hx ha hst hpl ht) (lift_meth hdd)
theorem de_meth0 {pl : Sem Bool} (he : DE X nf o da) (c : Cls X.K C) (hm : Meth X.K C m f) (F : FnOk X.prog X.w X.K X.mg X.base CX k f fd ps (toSp X.K nf n S)) (hr : Room k X.A) (hb : Binds X.K fd ps ds) (hd : Vals dvs ds) (hdd : ∀ H, Rels X.K nf H dvs dds) (hx : Passes CX X E)
    (ht : eval (.Call (.Attribute o m apos) [] [] pos) X.env = (do
      let ov ← eval o X.env
      standAt apos.atName
      let (f, first) ← holding [ov] (getMethod ov m pl)
      callWith pos f first (backTo pos (starEach [] X.env)) (backToKw pos (keywordEach [] X.env))) := by rfl) :
    DE X nf (.Call (.Attribute o m apos) [] [] pos) (dMeth n C m S dds da mNil) := pe_imp (pe_meth0 he c hm F hr hb hd hx ht) fun σ H Q h => by
  obtain ⟨env, fp, Qd, R, h, k⟩ := h
  refine lift_run R h fun v H0 ob env0 fp0 r0 R0 c0 ⟨fds, eo, hl0, h⟩ => ?_
  subst eo
  cases r0 with
  | @obj a _ dx fs _ ha h1 h2 rf =>
    refine ⟨a, dx, fs, rfl, ha, rf.lookup_none hl0, ?_⟩
    obtain ⟨hl, nd, hin, s⟩ := h
    have hl' : ([] : List AD).length + dds.length + 1 = n := hl
    exact sp_run (E := E) (ads := AD.v (.obj C fds) :: ([] ++ dds.map AD.v)) R0 (.val (.obj ha h1 h2 rf) ((ArgsM.nil).app id (hdd H0))) (by rw [List.length_cons, List.length_append, List.length_map]; exact hl') nd hin s fun v H' d env' fp' r' R' c' q => k v H' d env' fp' r' R' (c0.trans c') q
/-! a field of a frozen object -/
def dFld (C : Addr) (m : Str) (da : DT nf) : DT nf := fun env Q => da env fun ob env1 => ∃ fds d, ob = .obj C fds ∧ fds.lookup m = some d ∧ Q d env1
theorem de_fld (he : DE X nf o da) (c : Cls X.K C) (hn : NoAttr X.K C m) (hb : attributeBase o m X.env (eval o X.env) = eval o X.env := by rfl) : DE X nf (.Attribute o m pos) (dFld C m da) := pe_imp (pe_fld he hb) fun σ H Q h => by
  obtain ⟨env, fp, Qd, R, h, k⟩ := h
  refine lift_run R h fun v H1 ob env1 fp1 r1 R1 c1 ⟨fds, d, eo, hl, q⟩ => ?_
  subst eo
  cases r1 with
  | @obj a _ dx fs _ ha h1 h2 rf =>
    obtain ⟨v, ev, rv⟩ := rf.lookup hl
    exact ⟨a, C, dx, fs, v, rfl, ha, c, hn, ev, k v H1 d env1 fp1 rv R1 c1 q⟩
end
end
end DL

namespace DL
open PySem L2
section
variable [Anch] {X : Cx} {nf : Addr → Nat} {K : PySem.W.Frag}
/-! ### operations: data in, data out -/
/-- two ints -/
def fI (C : Int → Int → Prop) (g : Int → Int → D) : D → D → D → Prop := fun x y z => ∃ i j, x = .int i ∧ y = .int j ∧ C i j ∧ z = g i j
def fI0 (g : Int → Int → D) : D → D → D → Prop := fun x y z => ∃ i j, x = .int i ∧ y = .int j ∧ z = g i j
theorem od_I {C : Int → Int → Prop} {g : Int → Int → Int} : OpD K nf (rI C fun i j => .int (g i j)) (fI C fun i j => .int (g i j)) := by
  rintro H v w x y z r1 r2 ⟨i, j, rfl, rfl, hc, rfl⟩ Q q
  exact ⟨i, j, rel_int r1, rel_int r2, hc, q _ H (.int _) Xt.refl⟩
theorem od_I0 {g : Int → Int → Int} : OpD K nf (rI0 fun i j => .int (g i j)) (fI0 fun i j => .int (g i j)) := by
  rintro H v w x y z r1 r2 ⟨i, j, rfl, rfl, rfl⟩ Q q
  exact ⟨i, j, rel_int r1, rel_int r2, q _ H (.int _) Xt.refl⟩
theorem od_B0 {g : Int → Int → Bool} : OpD K nf (rI0 fun i j => .bl (g i j)) (fI0 fun i j => .bl (g i j)) := by
  rintro H v w x y z r1 r2 ⟨i, j, rfl, rfl, rfl⟩ Q q
  exact ⟨i, j, rel_int r1, rel_int r2, q _ H (.bl _) Xt.refl⟩
section
variable {a b : Expr} {pos : Pos} {da db : DT nf}
def dAdd (da db : DT nf) : DT nf := dOp (fI0 fun i j => .int (i + j)) da db
def dSub (da db : DT nf) : DT nf := dOp (fI0 fun i j => .int (i - j)) da db
def dMul (da db : DT nf) : DT nf := dOp (fI CMul fun i j => .int (i * j)) da db
def dMod (da db : DT nf) : DT nf := dOp (fI (fun _ j => 0 < j) fun i j => .int (i % j)) da db
def dDiv (da db : DT nf) : DT nf := dOp (fI CDivW fun i j => .int (i / j)) da db
def dPow (da db : DT nf) : DT nf := dOp (fI CPow fun i j => .int (i ^ j.toNat)) da db
theorem de_add (ha : DE X nf a da) (hb : DE X nf b db) : DE X nf (.BinOp a .Add b pos) (dAdd da db) := de_op op_add od_I0 ha hb
theorem de_sub (ha : DE X nf a da) (hb : DE X nf b db) : DE X nf (.BinOp a .Sub b pos) (dSub da db) := de_op op_sub od_I0 ha hb
theorem de_mul (ha : DE X nf a da) (hb : DE X nf b db) : DE X nf (.BinOp a .Mult b pos) (dMul da db) := de_op op_mul od_I ha hb
theorem de_mod (ha : DE X nf a da) (hb : DE X nf b db) : DE X nf (.BinOp a .Mod b pos) (dMod da db) := de_op op_mod od_I ha hb
theorem de_div (ha : DE X nf a da) (hb : DE X nf b db) : DE X nf (.BinOp a .FloorDiv b pos) (dDiv da db) := de_op op_fdivW od_I ha hb
theorem de_pow (ha : DE X nf a da) (hb : DE X nf b db) : DE X nf (.BinOp a .Pow b pos) (dPow da db) := de_op op_pow od_I ha hb
def dCmp (g : Int → Int → Bool) (da db : DT nf) : DT nf := dOp (fI0 fun i j => .bl (g i j)) da db
abbrev cLt : Int → Int → Bool := fun i j => decide (i < j)
abbrev cLe : Int → Int → Bool := fun i j => decide (i ≤ j)
abbrev cGt : Int → Int → Bool := fun i j => decide (j < i)
abbrev cGe : Int → Int → Bool := fun i j => decide (j ≤ i)
theorem de_lt (ha : DE X nf a da) (hb : DE X nf b db) : DE X nf (.Compare a [.Lt] [b] pos) (dCmp cLt da db) := de_cmp op_lt od_B0 ha hb (nomark _)
theorem de_le (ha : DE X nf a da) (hb : DE X nf b db) : DE X nf (.Compare a [.LtE] [b] pos) (dCmp cLe da db) := de_cmp op_le od_B0 ha hb (nomark _)
theorem de_gt (ha : DE X nf a da) (hb : DE X nf b db) : DE X nf (.Compare a [.Gt] [b] pos) (dCmp cGt da db) := de_cmp op_gt od_B0 ha hb (nomark _)
theorem de_ge (ha : DE X nf a da) (hb : DE X nf b db) : DE X nf (.Compare a [.GtE] [b] pos) (dCmp cGe da db) := de_cmp op_ge od_B0 ha hb (nomark _)
theorem dc_lt (ha : DE X nf a da) (hb : DE X nf b db) : DC X nf (.Compare a [.Lt] [b] pos) (dBv (dCmp cLt da db)) := dc_cmp op_lt od_B0 ha hb (nomark _)
theorem dc_le (ha : DE X nf a da) (hb : DE X nf b db) : DC X nf (.Compare a [.LtE] [b] pos) (dBv (dCmp cLe da db)) := dc_cmp op_le od_B0 ha hb (nomark _)
theorem dc_gt (ha : DE X nf a da) (hb : DE X nf b db) : DC X nf (.Compare a [.Gt] [b] pos) (dBv (dCmp cGt da db)) := dc_cmp op_gt od_B0 ha hb (nomark _)
theorem dc_ge (ha : DE X nf a da) (hb : DE X nf b db) : DC X nf (.Compare a [.GtE] [b] pos) (dBv (dCmp cGe da db)) := dc_cmp op_ge od_B0 ha hb (nomark _)
end
/-! scalars: None, bools, ints, texts -/
def eqS : D → D → Option Bool
  | .non, .non => some true | .non, .int _ => some false | .int _, .non => some false | .non, .bl _ => some false | .bl _, .non => some false | .non, .str _ => some false | .str _, .non => some false
  | .int i, .int j => some (decide (i = j)) | .bl i, .bl j => some (decide (i = j)) | .str i, .str j => some (decide (i = j))
  | .int _, .str _ => some false | .str _, .int _ => some false | .bl _, .str _ => some false | .str _, .bl _ => some false
  | _, _ => none
def fEq (neg : Bool) : D → D → D → Prop := fun x y z => ∃ b, eqS x y = some b ∧ z = .bl (if neg then !b else b)
theorem scal_of {H : Hp} {v w : V} {x y : D} {b : Bool} (r1 : Rel K nf H v x) (r2 : Rel K nf H w y) (e : eqS x y = some b) : scal v w = true ∧ decide (v = w) = b := by
  cases r1 <;> cases r2 <;> simp [eqS] at e <;> subst e <;> simp [scal]
theorem od_eq : OpD K nf rEq (fEq false) := by
  rintro H v w x y z r1 r2 ⟨b, e, rfl⟩ Q q
  obtain ⟨h1, h2⟩ := scal_of r1 r2 e
  exact ⟨h1, by rw [h2]; exact q _ H (.bl _) Xt.refl⟩
theorem od_ne : OpD K nf rNe (fEq true) := by
  rintro H v w x y z r1 r2 ⟨b, e, rfl⟩ Q q
  obtain ⟨h1, h2⟩ := scal_of r1 r2 e
  exact ⟨h1, by rw [h2]; exact q _ H (.bl _) Xt.refl⟩
section
variable {a b : Expr} {pos : Pos} {da db : DT nf}
def dEq (neg : Bool) (da db : DT nf) : DT nf := dOp (fEq neg) da db
theorem de_eq (ha : DE X nf a da) (hb : DE X nf b db) : DE X nf (.Compare a [.Eq] [b] pos) (dEq false da db) := de_cmp op_eq od_eq ha hb (nomark _)
theorem de_ne (ha : DE X nf a da) (hb : DE X nf b db) : DE X nf (.Compare a [.NotEq] [b] pos) (dEq true da db) := de_cmp op_ne od_ne ha hb (nomark _)
theorem dc_eq (ha : DE X nf a da) (hb : DE X nf b db) : DC X nf (.Compare a [.Eq] [b] pos) (dBv (dEq false da db)) := dc_cmp op_eq od_eq ha hb (nomark _)
theorem dc_ne (ha : DE X nf a da) (hb : DE X nf b db) : DC X nf (.Compare a [.NotEq] [b] pos) (dBv (dEq true da db)) := dc_cmp op_ne od_ne ha hb (nomark _)
end
/-! nested data: None, bools, ints, texts, lists, tuples -/
mutual
def pyOf : D → Option PyData
  | .non => some .none
  | .bl b => some (.bool b)
  | .int i => some (.int i)
  | .str s => some (.str s)
  | .lst xs => (pyOfs xs).map .list
  | .tup xs => (pyOfs xs).map .tuple
  | _ => none
def pyOfs : List D → Option (List PyData)
  | [] => some []
  | x :: xs => (pyOf x).bind fun d => (pyOfs xs).map fun ds => d :: ds
end
mutual
theorem dp_of {H : Hp} : ∀ {v : V} {x : D} {d : PyData}, Rel K nf H v x → pyOf x = some d → Dp K H v d
  | _, _, _, .non, e => by simp only [pyOf, Option.some.injEq] at e; subst e; exact .non
  | _, _, _, .bl b, e => by simp only [pyOf, Option.some.injEq] at e; subst e; exact .bl b
  | _, _, _, .int i, e => by simp only [pyOf, Option.some.injEq] at e; subst e; exact .int i
  | _, _, _, .str s, e => by simp only [pyOf, Option.some.injEq] at e; subst e; exact .str s
  | _, _, _, .ty n, e => by simp only [pyOf] at e; cases e
  | _, _, _, .cls a, e => by simp only [pyOf] at e; cases e
  | _, _, _, .dct h r, e => by simp only [pyOf] at e; cases e
  | _, _, _, .obj h n l r, e => by simp only [pyOf] at e; cases e
  | _, _, _, .scr h, e => by simp only [pyOf] at e; cases e
  | _, _, _, @Rel.tup _ _ _ a vs ds h r, e => by
    simp only [pyOf] at e
    cases q : pyOfs ds with
    | none => rw [q] at e; cases e
    | some ps => rw [q] at e; simp only [Option.map_some, Option.some.injEq] at e; subst e; exact .tup h (dps_of r q)
  | _, _, _, @Rel.lst _ _ _ a vs ds h r, e => by
    simp only [pyOf] at e
    cases q : pyOfs ds with
    | none => rw [q] at e; cases e
    | some ps => rw [q] at e; simp only [Option.map_some, Option.some.injEq] at e; subst e; exact .lst h.sq (dps_of r q)
theorem dps_of {H : Hp} : ∀ {vs : List V} {xs : List D} {ds : List PyData}, Rels K nf H vs xs → pyOfs xs = some ds → DpAll K H vs ds
  | _, _, _, .nil, e => by simp only [pyOfs, Option.some.injEq] at e; subst e; exact .nil
  | _, _, _, @Rels.cons _ _ _ v vs d ds h r, e => by
    simp only [pyOfs] at e
    cases q : pyOf d with
    | none => rw [q] at e; cases e
    | some p =>
      cases q2 : pyOfs ds with
      | none => rw [q, q2] at e; cases e
      | some ps => rw [q, q2] at e; simp only [Option.bind_some, Option.map_some, Option.some.injEq] at e; subst e; exact .cons (dp_of h q) (dps_of r q2)
end
def fEqD (neg : Bool) : D → D → D → Prop := fun x y z => ∃ d e, pyOf x = some d ∧ pyOf y = some e ∧ SeqAt.shaped d = true ∧ SeqAt.shaped e = true ∧ z = .bl (if neg then !PyData.eqv d e else PyData.eqv d e)
theorem od_eqD : OpD K nf (rEqD K) (fEqD false) := by
  rintro H v w x y z r1 r2 ⟨d, e, h1, h2, s1, s2, rfl⟩ Q q
  exact ⟨d, e, dp_of r1 h1, dp_of r2 h2, s1, s2, q _ H (.bl _) Xt.refl⟩
theorem od_neD : OpD K nf (rNeD K) (fEqD true) := by
  rintro H v w x y z r1 r2 ⟨d, e, h1, h2, s1, s2, rfl⟩ Q q
  exact ⟨d, e, dp_of r1 h1, dp_of r2 h2, s1, s2, q _ H (.bl _) Xt.refl⟩
section
variable {a b : Expr} {pos : Pos} {da db : DT nf}
def dEqD (neg : Bool) (da db : DT nf) : DT nf := dOp (fEqD neg) da db
theorem de_eqD (hu : X.A.units + 64 < cLine) (ha : DE X nf a da) (hb : DE X nf b db) : DE X nf (.Compare a [.Eq] [b] pos) (dEqD false da db) := de_cmp (op_eqD hu) od_eqD ha hb (nomark _)
theorem de_neD (hu : X.A.units + 64 < cLine) (ha : DE X nf a da) (hb : DE X nf b db) : DE X nf (.Compare a [.NotEq] [b] pos) (dEqD true da db) := de_cmp (op_neD hu) od_neD ha hb (nomark _)
theorem dc_eqD (hu : X.A.units + 64 < cLine) (ha : DE X nf a da) (hb : DE X nf b db) : DC X nf (.Compare a [.Eq] [b] pos) (dBv (dEqD false da db)) := dc_cmp (op_eqD hu) od_eqD ha hb (nomark _)
theorem dc_neD (hu : X.A.units + 64 < cLine) (ha : DE X nf a da) (hb : DE X nf b db) : DC X nf (.Compare a [.NotEq] [b] pos) (dBv (dEqD true da db)) := dc_cmp (op_neD hu) od_neD ha hb (nomark _)
end
/-! is None -/
section
variable {a : Expr} {pos : Pos} {da : DT nf}
def isNon : D → Bool
  | .non => true
  | _ => false
def dIsN (da : DT nf) : DT nf := fun env Q => da env fun x env1 => Q (.bl (isNon x)) env1
theorem dc_isN {j pos'} (ha : DE X nf a da) : DC X nf (.Compare a [.Is] [.Constant .none j pos'] pos) (dBv (dIsN da)) := pt_imp (pt_cmp (pc_isN ha)) fun σ H Q h => by
  obtain ⟨env, fp, Qd, R, h, k⟩ := h
  refine lift_run R h fun v H1 x env1 fp1 r1 R1 c1 ⟨b, e, q⟩ => ?_
  refine ⟨b, ?_, k b H1 env1 fp1 R1 c1 q⟩
  have e' : isNon x = b := by cases e; rfl
  subst e'
  cases r1 <;> simp [isNon]
end
/-! texts -/
def fCatS : D → D → D → Prop := fun x y z => ∃ i j, x = .str i ∧ y = .str j ∧ i.length + j.length ≤ 1000000 ∧ z = .str (i ++ j)
theorem od_catS : OpD K nf (fun x y H Q => ∃ i j, x = .str i ∧ y = .str j ∧ i.length + j.length ≤ sizeLine ∧ Q (.str (i ++ j)) H) fCatS := by
  rintro H v w x y z r1 r2 ⟨i, j, rfl, rfl, hc, rfl⟩ Q q
  exact ⟨i, j, rel_str r1, rel_str r2, sz_ok hc, q _ H (.str _) Xt.refl⟩
section
variable {a b : Expr} {pos : Pos} {da db : DT nf}
def dCatS (da db : DT nf) : DT nf := dOp fCatS da db
theorem de_catS (ha : DE X nf a da) (hb : DE X nf b db) : DE X nf (.BinOp a .Add b pos) (dCatS da db) := de_op op_add_str od_catS ha hb
/-! places -/
def fIxL : D → D → D → Prop := fun x y z => ∃ xs i, x = .lst xs ∧ y = .int i ∧ atI xs i = some z
def fIxT : D → D → D → Prop := fun x y z => ∃ xs i, x = .tup xs ∧ y = .int i ∧ atI xs i = some z
def fIxS : D → D → D → Prop := fun x y z => ∃ s i c, x = .str s ∧ y = .int i ∧ s.length ≤ 1000000 ∧ atI s.cps.toList i = some c ∧ z = .str ⟨#[c]⟩
theorem Rels.atI {H : Hp} {vs : List V} {xs : List D} {i : Int} {z : D} (r : Rels K nf H vs xs) (e : L2.atI xs i = some z) : ∃ v, L2.atI vs i = some v ∧ Rel K nf H v z := by
  unfold L2.atI at e ⊢
  rw [r.length]
  cases q : ixN xs.length i with
  | none => rw [q] at e; cases e
  | some j =>
    rw [q] at e
    simp only [Option.bind_some] at e ⊢
    exact r.get e
theorem od_ixL : OpD K nf (rIxL K) fIxL := by
  rintro H v w x y z r1 r2 ⟨xs, i, rfl, rfl, e⟩ Q q
  cases r1 with
  | lst h r =>
    obtain ⟨u, e2, r3⟩ := r.atI e
    exact ⟨_, _, i, u, rfl, rel_int r2, h.sq, e2, q u H r3 Xt.refl⟩
theorem od_ixT : OpD K nf (rIxT K) fIxT := by
  rintro H v w x y z r1 r2 ⟨xs, i, rfl, rfl, e⟩ Q q
  cases r1 with
  | tup h r =>
    obtain ⟨u, e2, r3⟩ := r.atI e
    exact ⟨_, _, i, u, rfl, rel_int r2, h, e2, q u H r3 Xt.refl⟩
theorem od_ixS : OpD K nf rIxS fIxS := by
  rintro H v w x y z r1 r2 ⟨s, i, c, rfl, rfl, hl, e, rfl⟩ Q q
  exact ⟨s, i, c, rel_str r1, rel_int r2, sz_ok hl, e, q _ H (.str _) Xt.refl⟩
def dIxL (da db : DT nf) : DT nf := dOp fIxL da db
def dIxT (da db : DT nf) : DT nf := dOp fIxT da db
def dIxS (da db : DT nf) : DT nf := dOp fIxS da db
theorem de_ixL (ha : DE X nf a da) (hb : DE X nf b db) (hs : PlainIx b := by exact fun _ _ => rfl) : DE X nf (.Subscript a b pos) (dIxL da db) := de_ix ix_list od_ixL ha hb hs
theorem de_ixT (ha : DE X nf a da) (hb : DE X nf b db) (hs : PlainIx b := by exact fun _ _ => rfl) : DE X nf (.Subscript a b pos) (dIxT da db) := de_ix ix_tup od_ixT ha hb hs
theorem de_ixS (ha : DE X nf a da) (hb : DE X nf b db) (hs : PlainIx b := by exact fun _ _ => rfl) : DE X nf (.Subscript a b pos) (dIxS da db) := de_ix ix_str od_ixS ha hb hs
/-! in: flat items -/
def flatD : D → Option V
  | .non => some .non
  | .bl b => some (.bl b)
  | .int i => some (.int i)
  | .str s => some (.str s)
  | _ => none
def flatDs : List D → Option (List V)
  | [] => some []
  | x :: xs => (flatD x).bind fun v => (flatDs xs).map fun vs => v :: vs
theorem flat_of {H : Hp} {v : V} {x : D} {u : V} (r : Rel K nf H v x) (e : flatD x = some u) : v = u ∧ flatV v = true := by
  cases r <;> simp only [flatD] at e <;> cases e <;> exact ⟨rfl, rfl⟩
theorem flats_of {H : Hp} : ∀ {vs : List V} {xs : List D} {us : List V}, Rels K nf H vs xs → flatDs xs = some us → vs = us ∧ vs.all flatV = true
  | _, _, _, .nil, e => by simp only [flatDs, Option.some.injEq] at e; subst e; exact ⟨rfl, rfl⟩
  | _, _, _, @Rels.cons _ _ _ v vs d ds h r, e => by
    simp only [flatDs] at e
    cases q : flatD d with
    | none => rw [q] at e; cases e
    | some p =>
      cases q2 : flatDs ds with
      | none => rw [q, q2] at e; cases e
      | some ps =>
        rw [q, q2] at e
        simp only [Option.bind_some, Option.map_some, Option.some.injEq] at e
        subst e
        obtain ⟨e1, f1⟩ := flat_of h q
        obtain ⟨e2, f2⟩ := flats_of r q2
        subst e1 e2
        exact ⟨rfl, by simp [f1, f2]⟩
def fIn (neg : Bool) : D → D → D → Prop := fun x y z => ∃ xs v us, (y = .lst xs ∨ y = .tup xs) ∧ flatD x = some v ∧ flatDs xs = some us ∧ z = .bl (if neg then !inV v us else inV v us)
theorem od_in {neg : Bool} : OpD K nf (rIn K neg) (fIn neg) := by
  rintro H v w x y z r1 r2 ⟨xs, v', us, hy, e1, e2, rfl⟩ Q q
  obtain ⟨ev, fv⟩ := flat_of r1 e1
  subst ev
  rcases hy with rfl | rfl
  · cases r2 with
    | lst h r =>
      obtain ⟨eu, fu⟩ := flats_of r e2
      subst eu
      exact ⟨_, _, rfl, .inl h.sq, fv, fu, q _ H (.bl _) Xt.refl⟩
  · cases r2 with
    | tup h r =>
      obtain ⟨eu, fu⟩ := flats_of r e2
      subst eu
      exact ⟨_, _, rfl, .inr h, fv, fu, q _ H (.bl _) Xt.refl⟩
def dIn (neg : Bool) (da db : DT nf) : DT nf := dOp (fIn neg) da db
theorem de_in (ha : DE X nf a da) (hb : DE X nf b db) (hm : behindInMarks .In b = false := by rfl) : DE X nf (.Compare a [.In] [b] pos) (dIn false da db) := de_cmp op_in_seq od_in ha hb hm
theorem de_notin (ha : DE X nf a da) (hb : DE X nf b db) (hm : behindInMarks .NotIn b = false := by rfl) : DE X nf (.Compare a [.NotIn] [b] pos) (dIn true da db) := de_cmp op_notIn_seq od_in ha hb hm
theorem dc_in (ha : DE X nf a da) (hb : DE X nf b db) (hm : behindInMarks .In b = false := by rfl) : DC X nf (.Compare a [.In] [b] pos) (dBv (dIn false da db)) := dc_cmp op_in_seq od_in ha hb hm
theorem dc_notin (ha : DE X nf a da) (hb : DE X nf b db) (hm : behindInMarks .NotIn b = false := by rfl) : DC X nf (.Compare a [.NotIn] [b] pos) (dBv (dIn true da db)) := dc_cmp op_notIn_seq od_in ha hb hm
/-- one sign in a text -/
def fInS : D → D → D → Prop := fun x y z => ∃ (c : Nat) (s : Str), x = .str ⟨#[c]⟩ ∧ y = .str s ∧ z = .bl (decide (c ∈ s.cps.toList))
theorem od_inS : OpD K nf (fun x y H Q => ∃ (c : Nat) (z : Str), x = .str ⟨#[c]⟩ ∧ y = .str z ∧ Q (.bl (decide (c ∈ z.cps.toList))) H) fInS := by
  rintro H v w x y z r1 r2 ⟨c, s, rfl, rfl, rfl⟩ Q q
  exact ⟨c, s, rel_str r1, rel_str r2, q _ H (.bl _) Xt.refl⟩
def dInS (da db : DT nf) : DT nf := dOp fInS da db
theorem de_inS (ha : DE X nf a da) (hb : DE X nf b db) (hm : behindInMarks .In b = false := by rfl) : DE X nf (.Compare a [.In] [b] pos) (dInS da db) := de_cmp op_in_sign od_inS ha hb hm
theorem dc_inS (ha : DE X nf a da) (hb : DE X nf b db) (hm : behindInMarks .In b = false := by rfl) : DC X nf (.Compare a [.In] [b] pos) (dBv (dInS da db)) := dc_cmp op_in_sign od_inS ha hb hm
end
end
end DL

namespace DL
open PySem L2
section
variable [Anch] {X : Cx} {nf : Addr → Nat} {K : PySem.W.Frag}
/-! ### the list of a slot, owned or frozen, read in place -/
def lsAt (K : PySem.W.Frag) (env : EV nf) (i : Nat) (xs : List D) : Prop := env[i]? = some (.fz (.lst xs)) ∨ ∃ v, env[i]? = some (.ow v (lstA K nf xs))
theorem EnvR.peek {H : Hp} {σ : St} {env : EV nf} {fp : List Addr} (R : EnvR K nf H σ env fp) {i : Nat} {xs : List D} (h : lsAt K env i xs) : ∃ p vs, σ[i]? = some (some (.ref p)) ∧ SqL K H p vs ∧ Rels K nf H vs xs := by
  rcases h with e | ⟨v, e⟩
  · obtain ⟨o, fi, e1, ⟨_, v, ev, r⟩, _⟩ := R.at e
    subst ev
    cases r with
    | lst h r => exact ⟨_, _, e1, h.sq, r⟩
  · obtain ⟨p, vs, ev, es, hp, r, _⟩ := R.lstAt e
    exact ⟨p, vs, es, SqL.of hp, r⟩
section
variable {a b l : Expr} {pos : Pos} {da db : DT nf} {i : Nat}
/-- xs[e] -/
def dIxV (K : PySem.W.Frag) (i : Nat) (db : DT nf) : DT nf := fun env Q => (∃ xs, lsAt K env i xs) ∧ db env fun y env1 => ∃ xs j z, lsAt K env1 i xs ∧ y = .int j ∧ atI xs j = some z ∧ Q z env1
theorem de_ixV (hl : PE X l (tVar i)) (hb : DE X nf b db) (hs : PlainIx b := by exact fun _ _ => rfl) : DE X nf (.Subscript l b pos) (dIxV X.K i db) := pe_imp (pe_ix ix_list hl hb hs) fun σ H Q ⟨env, fp, Qd, R, ⟨⟨xs0, h0⟩, h⟩, k⟩ => by
  obtain ⟨p, vs, es, _, _⟩ := R.peek h0
  refine ⟨_, es, lift_run R h fun w H1 y env1 fp1 r1 R1 c1 ⟨xs, j, z, h1, ey, ez, q⟩ => ?_⟩
  subst ey
  obtain ⟨p', vs', es', sq, rr⟩ := R1.peek h1
  rw [es] at es'
  cases es'
  obtain ⟨u, e2, r3⟩ := rr.atI ez
  exact ⟨p, vs', j, u, rfl, rel_int r1, sq, e2, k u H1 z env1 fp1 r3 R1 c1 q⟩
/-- e in xs -/
def dInV (K : PySem.W.Frag) (neg : Bool) (da : DT nf) (i : Nat) : DT nf := fun env Q => da env fun x env1 => ∃ xs v us, lsAt K env1 i xs ∧ flatD x = some v ∧ flatDs xs = some us ∧ Q (.bl (if neg then !inV v us else inV v us)) env1
theorem lift_inV {neg : Bool} (σ : St) (H : Hp) (Q : VK) (h : lift K nf (dInV K neg da i) σ H Q) : tOp (rIn K neg) (lift K nf da) (tVar i) σ H Q := by
  obtain ⟨env, fp, Qd, R, h, k⟩ := h
  refine lift_run R h fun w H1 x env1 fp1 r1 R1 c1 ⟨xs, v, us, h1, e1, e2, q⟩ => ?_
  obtain ⟨p, vs, es, sq, rr⟩ := R1.peek h1
  obtain ⟨ev, fv⟩ := flat_of r1 e1
  obtain ⟨eu, fu⟩ := flats_of rr e2
  subst ev eu
  exact ⟨_, es, p, vs, rfl, .inl sq, fv, fu, k _ H1 _ env1 fp1 (.bl _) R1 c1 q⟩
theorem lift_B2 {t : TE} {td : DT nf} (hi : ∀ σ H Q, lift K nf td σ H Q → t σ H Q) (σ : St) (H : Hp) (Q : Bool → Hp → Prop) (h : liftB K nf (dBv td) σ H Q) : tB t σ H Q := by
  obtain ⟨env, fp, Qd, R, h, k⟩ := h
  refine hi σ H _ (lift_run R h fun v H1 x env1 fp1 r1 R1 c1 ⟨b, e, q⟩ => ?_)
  subst e
  exact ⟨b, rel_bl r1, k b H1 env1 fp1 R1 c1 q⟩
theorem pt_cmpB {op : CmpOp} {r : R2} {ta tb : TE} (ho : OpR X (compareOp op) r) (ha : PE X a ta) (hb : PE X b tb) (hm : behindInMarks op b = false) : PT X (.Compare a [op] [b] pos) (tB (tOp r ta tb)) := pt_imp (pt_cmpR ho ha hb hm) fun σ H Q h => h
theorem de_inV (ha : DE X nf a da) (hl : PE X l (tVar i)) (hm : behindInMarks .In l = false := by rfl) : DE X nf (.Compare a [.In] [l] pos) (dInV X.K false da i) := pe_imp (pe_cmpR op_in_seq ha hl hm) lift_inV
theorem de_notinV (ha : DE X nf a da) (hl : PE X l (tVar i)) (hm : behindInMarks .NotIn l = false := by rfl) : DE X nf (.Compare a [.NotIn] [l] pos) (dInV X.K true da i) := pe_imp (pe_cmpR op_notIn_seq ha hl hm) lift_inV
theorem dc_inV (ha : DE X nf a da) (hl : PE X l (tVar i)) (hm : behindInMarks .In l = false := by rfl) : DC X nf (.Compare a [.In] [l] pos) (dBv (dInV X.K false da i)) := pt_imp (pt_cmpB op_in_seq ha hl hm) (lift_B2 lift_inV)
theorem dc_notinV (ha : DE X nf a da) (hl : PE X l (tVar i)) (hm : behindInMarks .NotIn l = false := by rfl) : DC X nf (.Compare a [.NotIn] [l] pos) (dBv (dInV X.K true da i)) := pt_imp (pt_cmpB op_notIn_seq ha hl hm) (lift_B2 lift_inV)
/-- xs == e, xs != e, nested data -/
def dEqV (K : PySem.W.Frag) (neg : Bool) (i : Nat) (db : DT nf) : DT nf := fun env Q => (∃ xs, lsAt K env i xs) ∧ db env fun y env1 => ∃ xs d e, lsAt K env1 i xs ∧ pyOf (.lst xs) = some d ∧ pyOf y = some e ∧ SeqAt.shaped d = true ∧ SeqAt.shaped e = true ∧ Q (.bl (if neg then !PyData.eqv d e else PyData.eqv d e)) env1
theorem lift_eqV {neg : Bool} {r : R2} (hr : ∀ x y H Q, (∃ d e, Dp K H x d ∧ Dp K H y e ∧ SeqAt.shaped d = true ∧ SeqAt.shaped e = true ∧ Q (V.bl (if neg then !PyData.eqv d e else PyData.eqv d e)) H) → r x y H Q) (σ : St) (H : Hp) (Q : VK) (h : lift K nf (dEqV K neg i db) σ H Q) : tOp r (tVar i) (lift K nf db) σ H Q := by
  obtain ⟨env, fp, Qd, R, ⟨⟨xs0, h0⟩, h⟩, k⟩ := h
  obtain ⟨p, vs, es, _, _⟩ := R.peek h0
  refine ⟨_, es, lift_run R h fun w H1 y env1 fp1 r1 R1 c1 ⟨xs, d, e, h1, e1, e2, s1, s2, q⟩ => ?_⟩
  obtain ⟨p', vs', es', sq, rr⟩ := R1.peek h1
  rw [es] at es'
  cases es'
  simp only [pyOf] at e1
  cases q2 : pyOfs xs with
  | none => rw [q2] at e1; cases e1
  | some ps =>
    rw [q2] at e1
    simp only [Option.map_some, Option.some.injEq] at e1
    subst e1
    exact hr _ _ _ _ ⟨_, e, .lst sq (dps_of rr q2), dp_of r1 e2, s1, s2, k _ H1 _ env1 fp1 (.bl _) R1 c1 q⟩
theorem de_eqV (hu : X.A.units + 64 < cLine) (hl : PE X l (tVar i)) (hb : DE X nf b db) : DE X nf (.Compare l [.Eq] [b] pos) (dEqV X.K false i db) := pe_imp (pe_cmpR (op_eqD hu) hl hb (nomark _)) (lift_eqV fun x y H Q h => h)
theorem de_neV (hu : X.A.units + 64 < cLine) (hl : PE X l (tVar i)) (hb : DE X nf b db) : DE X nf (.Compare l [.NotEq] [b] pos) (dEqV X.K true i db) := pe_imp (pe_cmpR (op_neD hu) hl hb (nomark _)) (lift_eqV fun x y H Q h => h)
theorem dc_eqV (hu : X.A.units + 64 < cLine) (hl : PE X l (tVar i)) (hb : DE X nf b db) : DC X nf (.Compare l [.Eq] [b] pos) (dBv (dEqV X.K false i db)) := pt_imp (pt_cmpB (op_eqD hu) hl hb (nomark _)) (lift_B2 (lift_eqV fun x y H Q h => h))
theorem dc_neV (hu : X.A.units + 64 < cLine) (hl : PE X l (tVar i)) (hb : DE X nf b db) : DC X nf (.Compare l [.NotEq] [b] pos) (dBv (dEqV X.K true i db)) := pt_imp (pt_cmpB (op_neD hu) hl hb (nomark _)) (lift_B2 (lift_eqV fun x y H Q h => h))
/-- len(xs) -/
def dLenV (K : PySem.W.Frag) (i : Nat) : DT nf := fun env Q => ∃ xs, lsAt K env i xs ∧ Q (.int xs.length) env
theorem de_lenV {p : Pos} (hg : Gl X "len") (hm : X.mg "len" = none) (hl : PE X l (tVar i)) (hs : starEach [l] X.env = (false, eval l X.env) :: starEach [] X.env := by rfl) : DE X nf (.Call (.Name "len" p) [l] [] pos) (dLenV X.K i) :=
  pe_imp (pe_callB call_len_seq hg hm boot_len (pa_cons hl pa_nil hs) (by decide) (by decide) hs) fun σ H Q ⟨env, fp, Qd, R, ⟨xs, h, q⟩, k⟩ => by
    obtain ⟨p, vs, es, sq, rr⟩ := R.peek h
    exact ⟨_, es, p, vs, rfl, .inl sq, by rw [rr.length]; exact k _ H _ env fp (.int _) R Ch.refl q⟩
end
/-! ### built-ins on data -/
def CbD (K : PySem.W.Frag) (nf : Addr → Nat) (r : List V → Hp → VK → Prop) (f : List D → D → Prop) : Prop := ∀ H vs ds d, Rels K nf H vs ds → f ds d → ∀ Q : VK, (∀ v H', Rel K nf H' v d → Xt H H' → Q v H') → r vs H Q
def dCB (f : List D → D → Prop) (r : DAs nf) : DT nf := fun env Q => r env fun ds env1 => ∃ d, f ds d ∧ Q d env1
theorem lift_CB {r : List V → Hp → VK → Prop} {f : List D → D → Prop} {ra : DAs nf} (o : CbD K nf r f) (σ : St) (H : Hp) (Q : VK) (h : lift K nf (dCB f ra) σ H Q) : tCB r (liftA K nf ra) σ H Q := by
  obtain ⟨env, fp, Qd, R, h, k⟩ := h
  refine ⟨env, fp, _, R, h, fun vs H1 ds env1 fp1 r1 R1 c1 ⟨d, hd, q⟩ => ?_⟩
  exact o H1 vs ds d r1 hd Q fun v H2 r2 x2 => k v H2 d env1 fp1 r2 (R1.ext x2) (c1.trans x2.ch) q
/-- .. whose answer is frozen at once -/
def rFz (r : List V → Hp → VK → Prop) : List V → Hp → VK → Prop := fun vs H Q => r vs H fun v H' => ∃ p u, v = .ref p ∧ H' p = some u ∧ Mut (some u) ∧ ∀ o, Q v (upd H' p (.frz o u))
section
variable {id T : String} {r : List V → Hp → VK → Prop} {f : List D → D → Prop} {ra : DAs nf} {x : Str} {e : Expr} {es : List Expr} {p pos : Pos}
theorem de_cb (hc : CallR X (.builtin id) r) (o : CbD X.K nf r f) (hg : Gl X x) (hm : X.mg x = none) (hv : bootBuiltins x = some (.builtin id)) (ha : DA X nf (e :: es) ra) (hn : x ≠ "__name__" := by decide) (hdb : (x == ("__debug__" : Str)) = false := by decide)
    (he : starEach (e :: es) X.env = (false, eval e X.env) :: starEach es X.env := by rfl) (hpl : (backTo pos (starEach es X.env)).any (·.1) = false := by rfl) : DE X nf (.Call (.Name x p) (e :: es) [] pos) (dCB f ra) := pe_imp (pe_callB hc hg hm hv ha hn hdb he hpl) (lift_CB o)
theorem de_cbF (hc : CallR X (.builtin id) r) (o : CbD X.K nf (rFz r) f) (hg : Gl X x) (hm : X.mg x = none) (hv : bootBuiltins x = some (.builtin id)) (ha : DA X nf (e :: es) ra) (hn : x ≠ "__name__" := by decide) (hdb : (x == ("__debug__" : Str)) = false := by decide)
    (he : starEach (e :: es) X.env = (false, eval e X.env) :: starEach es X.env := by rfl) (hpl : (backTo pos (starEach es X.env)).any (·.1) = false := by rfl) : DE X nf (.Call (.Name x p) (e :: es) [] pos) (dCB f ra) := pe_imp (pe_fz (pe_callB hc hg hm hv ha hn hdb he hpl)) (lift_CB o)
theorem de_ct (hc : CallR X (.type T) r) (o : CbD X.K nf r f) (hg : Gl X x) (hm : X.mg x = none) (hv : bootBuiltins x = some (.type T)) (ha : DA X nf (e :: es) ra) (hn : x ≠ "__name__" := by decide) (hdb : (x == ("__debug__" : Str)) = false := by decide)
    (he : starEach (e :: es) X.env = (false, eval e X.env) :: starEach es X.env := by rfl) (hpl : (backTo pos (starEach es X.env)).any (·.1) = false := by rfl) : DE X nf (.Call (.Name x p) (e :: es) [] pos) (dCB f ra) := pe_imp (pe_callTy hc hg hm hv ha hn hdb he hpl) (lift_CB o)
theorem de_ctF (hc : CallR X (.type T) r) (o : CbD X.K nf (rFz r) f) (hg : Gl X x) (hm : X.mg x = none) (hv : bootBuiltins x = some (.type T)) (ha : DA X nf (e :: es) ra) (hn : x ≠ "__name__" := by decide) (hdb : (x == ("__debug__" : Str)) = false := by decide)
    (he : starEach (e :: es) X.env = (false, eval e X.env) :: starEach es X.env := by rfl) (hpl : (backTo pos (starEach es X.env)).any (·.1) = false := by rfl) : DE X nf (.Call (.Name x p) (e :: es) [] pos) (dCB f ra) := pe_imp (pe_fz (pe_callTy hc hg hm hv ha hn hdb he hpl)) (lift_CB o)
end
theorem rels1x {H : Hp} {vs : List V} {d : D} (r : Rels K nf H vs [d]) : ∃ v, vs = [v] ∧ Rel K nf H v d := by
  cases r with
  | cons h t => cases t; exact ⟨_, rfl, h⟩
theorem rels2x {H : Hp} {vs : List V} {d e : D} (r : Rels K nf H vs [d, e]) : ∃ v w, vs = [v, w] ∧ Rel K nf H v d ∧ Rel K nf H w e := by
  cases r with
  | cons h t => obtain ⟨w, rfl, hw⟩ := rels1x t; exact ⟨_, _, rfl, h, hw⟩
/-- len -/
def fLen : List D → D → Prop := fun ds d => (∃ xs, (ds = [.lst xs] ∨ ds = [.tup xs]) ∧ d = .int xs.length)
def fLenS : List D → D → Prop := fun ds d => ∃ z, ds = [.str z] ∧ z.length ≤ 1000000 ∧ d = .int z.length
theorem cd_len : CbD K nf (fun xs H Q => ∃ p ys, xs = [.ref p] ∧ (SqL K H p ys ∨ SqT K H p ys) ∧ Q (.int ys.length) H) fLen := by
  rintro H vs ds d r ⟨xs, hd, rfl⟩ Q q
  rcases hd with rfl | rfl
  · obtain ⟨v, rfl, h⟩ := rels1x r
    cases h with
    | lst h rr => exact ⟨_, _, rfl, .inl h.sq, by rw [rr.length]; exact q _ H (.int _) Xt.refl⟩
  · obtain ⟨v, rfl, h⟩ := rels1x r
    cases h with
    | tup h rr => exact ⟨_, _, rfl, .inr h, by rw [rr.length]; exact q _ H (.int _) Xt.refl⟩
theorem cd_lenS : CbD K nf (fun xs H Q => ∃ z, xs = [.str z] ∧ z.length ≤ sizeLine ∧ Q (.int z.length) H) fLenS := by
  rintro H vs ds d r ⟨z, rfl, hl, rfl⟩ Q q
  obtain ⟨v, rfl, h⟩ := rels1x r
  cases h
  exact ⟨z, rfl, sz_ok hl, q _ H (.int _) Xt.refl⟩
/-- int of an int or a bool; abs; str of an int -/
def fInt : List D → D → Prop := fun ds d => (∃ i, ds = [.int i] ∧ d = .int i) ∨ ∃ b, ds = [.bl b] ∧ d = .int (if b then 1 else 0)
theorem cd_int : CbD K nf (fun xs H Q => (∃ i, xs = [.int i] ∧ Q (.int i) H) ∨ ∃ k, xs = [.bl k] ∧ Q (.int (if k then 1 else 0)) H) fInt := by
  rintro H vs ds d r (⟨i, rfl, rfl⟩ | ⟨b, rfl, rfl⟩) Q q
  · obtain ⟨v, rfl, h⟩ := rels1x r
    cases h
    exact .inl ⟨i, rfl, q _ H (.int _) Xt.refl⟩
  · obtain ⟨v, rfl, h⟩ := rels1x r
    cases h
    exact .inr ⟨b, rfl, q _ H (.int _) Xt.refl⟩
def fAbs : List D → D → Prop := fun ds d => ∃ i, ds = [.int i] ∧ d = .int (if i < 0 then -i else i)
theorem cd_abs : CbD K nf (fun xs H Q => ∃ i, xs = [.int i] ∧ Q (.int (if i < 0 then -i else i)) H) fAbs := by
  rintro H vs ds d r ⟨i, rfl, rfl⟩ Q q
  obtain ⟨v, rfl, h⟩ := rels1x r
  cases h
  exact ⟨i, rfl, q _ H (.int _) Xt.refl⟩
def fStrI : List D → D → Prop := fun ds d => ∃ i : Int, ds = [.int i] ∧ i.natAbs.log2 < 1920 ∧ d = .str (toString i)
theorem cd_strI : CbD K nf (fun xs H Q => ∃ i : Int, xs = [.int i] ∧ i.natAbs.log2 < 1920 ∧ Q (.str (toString i)) H) fStrI := by
  rintro H vs ds d r ⟨i, rfl, hl, rfl⟩ Q q
  obtain ⟨v, rfl, h⟩ := rels1x r
  cases h
  exact ⟨i, rfl, hl, q _ H (.str _) Xt.refl⟩
/-- list(list | tuple), frozen; tuple(list) -/
def fList : List D → D → Prop := fun ds d => ∃ xs, (ds = [.lst xs] ∨ ds = [.tup xs]) ∧ d = .lst xs
theorem cd_list : CbD K nf (rFz fun xs H Q => ∃ p ys, xs = [.ref p] ∧ (SqL K H p ys ∨ SqT K H p ys) ∧ ∀ l, H l = none → Q (.ref l) (upd H l (.lst ys))) fList := by
  rintro H vs ds d r ⟨xs, hd, rfl⟩ Q q
  have fin : ∀ ys, Rels K nf H ys xs → ∀ l, H l = none → ∃ p u, V.ref l = .ref p ∧ (upd H l (.lst ys)) p = some u ∧ Mut (some u) ∧ ∀ o, Q (.ref l) (upd (upd H l (.lst ys)) p (.frz o u)) := fun ys rr l hl => by
    refine ⟨l, _, rfl, upd_same, trivial, fun o => ?_⟩
    have x : Xt H (upd (upd H l (.lst ys)) l (.frz o (.lst ys))) := xt_fz (Xt.new hl) hl
    exact q _ _ (.lst ⟨o, upd_same⟩ (rr.mono x.stp)) x
  rcases hd with rfl | rfl
  · obtain ⟨v, rfl, h⟩ := rels1x r
    cases h with
    | lst h rr => exact ⟨_, _, rfl, .inl h.sq, fin _ rr⟩
  · obtain ⟨v, rfl, h⟩ := rels1x r
    cases h with
    | tup h rr => exact ⟨_, _, rfl, .inr h, fin _ rr⟩
def fTuple : List D → D → Prop := fun ds d => ∃ xs, (ds = [.lst xs] ∨ ds = [.tup xs]) ∧ d = .tup xs
theorem cd_tuple : CbD K nf (fun xs H Q => ∃ p ys, xs = [.ref p] ∧ ((SqL K H p ys ∧ ∀ l, H l = none → Q (.ref l) (upd H l (.tup ys))) ∨ (SqT K H p ys ∧ Q (.ref p) H))) fTuple := by
  rintro H vs ds d r ⟨xs, hd, rfl⟩ Q q
  rcases hd with rfl | rfl
  · obtain ⟨v, rfl, h⟩ := rels1x r
    cases h with
    | @lst _ ws _ h rr =>
      refine ⟨_, _, rfl, .inl ⟨h.sq, fun l hl => ?_⟩⟩
      have x : Xt H (upd H l (.tup ws)) := Xt.new hl
      exact q _ _ (.tup (SqT.of upd_same) (rr.mono x.stp)) x
  · obtain ⟨v, rfl, h⟩ := rels1x r
    cases h with
    | tup h rr => exact ⟨_, _, rfl, .inr ⟨h, q _ H (.tup h rr) Xt.refl⟩⟩
/-- dict(dict), list(dict), frozen -/
def fDict : List D → D → Prop := fun ds d => ∃ kds, ds = [.dct kds] ∧ d = .dct kds
theorem cd_dict : CbD K nf (rFz fun xs H Q => ∃ (a : Addr) (kvs : List (Key × V)), xs = [.ref a] ∧ Rd H a (.dK kvs) ∧ ∀ p, H p = none → Q (.ref p) (upd H p (.dK kvs))) fDict := by
  rintro H vs ds d r ⟨kds, rfl, rfl⟩ Q q
  obtain ⟨v, rfl, h⟩ := rels1x r
  cases h with
  | @dct _ _ kvs _ h rr =>
    refine ⟨_, _, rfl, .inr ⟨_, h⟩, fun l hl => ⟨l, _, rfl, upd_same, trivial, fun o => ?_⟩⟩
    have x : Xt H (upd (upd H l (.dK kvs)) l (.frz o (.dK kvs))) := xt_fz (Xt.new hl) hl
    exact q _ _ (.dct upd_same (rr.mono x.stp)) x
theorem rels_keys {H : Hp} : ∀ {kvs : List (Key × V)} {kds : List (Key × D)}, RelK K nf H kvs kds → Rels K nf H (kvs.map fun kv => kV kv.1) (kds.map fun kd => kD kd.1)
  | _, _, .nil => .nil
  | _, _, .cons _ r => .cons (rel_key _) (rels_keys r)
def fListD : List D → D → Prop := fun ds d => ∃ kds, ds = [.dct kds] ∧ d = .lst (kds.map fun kd => kD kd.1)
theorem cd_listD : CbD K nf (rFz fun xs H Q => ∃ (a : Addr) (kvs : List (Key × V)), xs = [.ref a] ∧ Rd H a (.dK kvs) ∧ ∀ p, H p = none → Q (.ref p) (upd H p (.lst (kvs.map fun kv => kV kv.1)))) fListD := by
  rintro H vs ds d r ⟨kds, rfl, rfl⟩ Q q
  obtain ⟨v, rfl, h⟩ := rels1x r
  cases h with
  | @dct _ _ kvs _ h rr =>
    refine ⟨_, _, rfl, .inr ⟨_, h⟩, fun l hl => ⟨l, _, rfl, upd_same, trivial, fun o => ?_⟩⟩
    have x : Xt H (upd (upd H l (.lst (kvs.map fun kv => kV kv.1))) l (.frz o (.lst (kvs.map fun kv => kV kv.1)))) := xt_fz (Xt.new hl) hl
    exact q _ _ (.lst ⟨o, upd_same⟩ ((rels_keys rr).mono x.stp)) x
/-- sorted of texts -/
theorem rels_strs {H : Hp} : ∀ {vs : List V} {ss : List Str}, Rels K nf H vs (ss.map .str) → vs = ss.map V.str
  | _, [], .nil => rfl
  | _, s :: ss, .cons h r => by cases h; rw [rels_strs r]; rfl
theorem strs_rels {H : Hp} : ∀ (ss : List Str), Rels K nf H (ss.map V.str) (ss.map D.str)
  | [] => .nil
  | s :: ss => .cons (.str s) (strs_rels ss)
def fSortS : List D → D → Prop := fun ds d => ∃ ss : List Str, ds = [.lst (ss.map .str)] ∧ ss.length < 64 ∧ ∃ ys : List Str, ys.Perm ss ∧ PyProof.Rows.sortedS ys = true ∧ d = .lst (ys.map .str)
def dSortS (ra : DAs nf) : DT nf := fun env Q => ra env fun ds env1 => ∃ ss : List Str, ds = [.lst (ss.map .str)] ∧ ss.length < 64 ∧ ∀ ys : List Str, ys.Perm ss → PyProof.Rows.sortedS ys = true → Q (.lst (ys.map .str)) env1
theorem de_sortS {e : Expr} {p pos : Pos} {ra : DAs nf} (hg : Gl X "sorted") (hm : X.mg "sorted" = none) (ha : DA X nf [e] ra) (he : starEach [e] X.env = (false, eval e X.env) :: starEach [] X.env := by rfl) (hpl : (backTo pos (starEach [] X.env)).any (·.1) = false := by rfl) : DE X nf (.Call (.Name "sorted" p) [e] [] pos) (dSortS ra) :=
  pe_imp (pe_fz (pe_callB cr_sortedS hg hm (by decide +kernel) ha (by decide) (by decide) he hpl)) fun σ H Q ⟨env, fp, Qd, R, h, k⟩ => ⟨env, fp, _, R, h, fun vs H1 ds env1 fp1 r1 R1 c1 ⟨ss, e, hl, q⟩ => by
    subst e
    obtain ⟨v, rfl, hr⟩ := rels1x r1
    cases hr with
    | @lst a ws _ hz rr =>
      have ew := rels_strs rr
      subst ew
      refine ⟨a, ss, rfl, hz.sq, hl, fun ys p hp hs hn => ⟨p, _, rfl, upd_same, trivial, fun o => ?_⟩⟩
      have x : Xt H1 (upd (upd H1 p (.lst (ys.map V.str))) p (.frz o (.lst (ys.map V.str)))) := xt_fz (Xt.new hn) hn
      exact k _ _ _ env1 fp1 (.lst ⟨o, upd_same⟩ ((strs_rels ys).mono x.stp)) (R1.ext x) (c1.trans x.ch) (q ys hp hs)⟩
/-- all of bools -/
theorem rels_bls {H : Hp} : ∀ {vs : List V} {bs : List Bool}, Rels K nf H vs (bs.map .bl) → vs = bs.map V.bl
  | _, [], .nil => rfl
  | _, s :: ss, .cons h r => by cases h; rw [rels_bls r]; rfl
def fAll : List D → D → Prop := fun ds d => ∃ bs : List Bool, ds = [.lst (bs.map .bl)] ∧ d = .bl (bs.all id)
theorem cd_all : CbD K nf (rAll K) fAll := by
  rintro H vs ds d r ⟨bs, rfl, rfl⟩ Q q
  obtain ⟨v, rfl, h⟩ := rels1x r
  cases h with
  | lst h rr =>
    have e := rels_bls rr
    subst e
    exact ⟨_, bs, rfl, h.sq, q _ H (.bl _) Xt.refl⟩
/-! ### isinstance -/
structure IsiC (K : PySem.W.Frag) (C : Addr) : Prop where
  cl : Cls K C
  ha : PySem.W.findIn K (.ref C) "__class__" = some (some (.builtin "object.__class__"))
  hn : PySem.W.specialIn K (.builtin "object.__class__") "__get__" = some (some (.builtin "getset_descriptor.__get__"))
  htk : PySem.W.takesIn K (.builtin "object.__class__") = some true
  hm : PySem.W.mroIn K C (.type "object") = some true
def tyD : D → Option Value
  | .non => some (.type "NoneType")
  | .bl _ => some (.type "bool")
  | .int _ => some (.type "int")
  | .str _ => some (.type "str")
  | .tup _ => some (.type "tuple")
  | .lst _ => some (.type "list")
  | .dct _ => some (.type "dict")
  | .obj C _ => some (.ref C)
  | _ => none
theorem ty_of {H : Hp} {v : V} {x : D} {t : Value} (hC : ∀ C fs, x = .obj C fs → IsiC K C) (r : Rel K nf H v x) (e : tyD x = some t) : TyX K H v t := by
  cases r with
  | non => cases e; exact .base .non
  | bl b => cases e; exact .base (.bl b)
  | int i => cases e; exact .base (.int i)
  | str s => cases e; exact .base (.str s)
  | ty n => cases e
  | cls a => cases e
  | tup h r =>
    cases e
    rcases h with (h | ⟨o, h⟩) | ⟨o, its, n, h1, h2, _⟩
    · exact .base (.tup h)
    · exact .fTuple h
    · exact .kTuple h1 h2
  | lst h r =>
    cases e
    obtain ⟨o, h⟩ := h
    exact .base (.frz h)
  | dct h r => cases e; exact .fDict h
  | obj h n l r =>
    cases e
    have c := hC _ _ rfl
    exact .base (.ins h c.cl c.ha c.hn c.htk c.hm)
  | scr h => cases e
def clsD : D → Option Value
  | .ty n => some (.type n)
  | .cls a => some (.ref a)
  | _ => none
def fIsi (K : PySem.W.Frag) : List D → D → Prop := fun ds d => ∃ x c t u b, ds = [x, c] ∧ (∀ C fs, x = .obj C fs → IsiC K C) ∧ tyD x = some t ∧ clsD c = some u ∧ PySem.W.kitOne K t u = some b ∧ d = .bl b
theorem cd_isi : CbD K nf (rIsi K) (fIsi K) := by
  rintro H vs ds d r ⟨x, c, t, u, b, rfl, hC, e1, e2, e3, rfl⟩ Q q
  obtain ⟨v, w, rfl, h1, h2⟩ := rels2x r
  refine ⟨v, w, t, u, b, rfl, ?_, ty_of hC h1 e1, e3, q _ H (.bl _) Xt.refl⟩
  cases h2 <;> simp only [clsD] at e2 <;> cases e2
  · exact .ty _
  · exact .own _
end
end DL

namespace DL
open PySem L2
section
variable [Anch] {X : Cx} {nf : Addr → Nat} {K : PySem.W.Frag}
/-! ### list comprehensions -/
theorem pts_imp {es : List Expr} {t t' : TT} (h : PTs X es t) (i : ∀ σ H Q, t' σ H Q → t σ H Q) : PTs X es t' := ⟨fun pins s σ H Q I q => h.run pins s σ H Q I (i σ H Q q)⟩
theorem dts_nil : PTs X [] (liftB X.K nf dYes) := pts_imp pts_nil fun σ H Q ⟨env, fp, Qd, R, q, k⟩ => k true H env fp R Ch.refl q
theorem dts_one {c : Expr} {t : DB nf} (h : DC X nf c t) : PTs X [c] (liftB X.K nf t) := pts_one h
section
variable {elt tg iter : Expr} {ifs : List Expr} {scope : Scope} {own : List (Str × Nat)} {pos : Pos} {di : DAs nf} {g : DG nf} {dt : DB nf} {de dk : DT nf}
theorem de_lc (hc : X.calm = true) (hN : X.N.Nodup) (hi : DIo X nf tg iter di) (ok : BlkOk X.N X.env.scope scope own)
    (hg : ∀ (s : Shared) (H : Hp) (C : Addr) (cl : List (Str × Addr)) (fp : List Addr), DGo (X.blk s H scope (compEnvC scope cl C X.env) fp) nf tg (own.map (·.2)) g) (ht : ∀ (s : Shared) (H : Hp) (C : Addr) (cl : List (Str × Addr)) (fp : List Addr), PTs (X.blk s H scope (compEnvC scope cl C X.env) fp) ifs (liftB X.K nf dt))
    (he : ∀ (s : Shared) (H : Hp) (C : Addr) (cl : List (Str × Addr)) (fp : List Addr), DE (X.blk s H scope (compEnvC scope cl C X.env) fp) nf elt de) (hs : ∀ x, foldedSetIterable iter X.env x = pure x := by intro _; rfl) :
    DE X nf (.ListComp elt [⟨tg, iter, ifs, 0⟩] scope pos) (dLc di g dt de (own.map (·.2))) := pe_imp (pe_fz (pe_lc hc hN hi ok hg ht he hs)) fun σ H Q ⟨env, fp, Qd, R, h, k⟩ => by
  refine lift_lc R h fun p vs H' ds env' fp' hp hp' np rr R' c q => ⟨p, _, rfl, hp', trivial, fun o => ?_⟩
  have st : Stp nf H' (upd H' p (.frz o (.lst vs))) := fun a u e f => by
    by_cases ha : a = p
    · subst ha; rw [hp'] at e; cases e; exact f.elim
    · rw [upd_ne ha]; exact e
  refine k _ _ _ env' fp' (.lst ⟨o, upd_same⟩ (rr.mono st)) (R'.frame (fun a m => upd_ne fun z => np (z ▸ m)) st R.2 (c.put hp)) ⟨fun a u e n => ?_, c.sub, fun a e => ?_⟩ q
  · rw [upd_ne (ne_of_none e hp)]; exact c.keep a u e n
  · by_cases ha : a = p
    · subst ha; rw [upd_same] at e; cases e
    · rw [upd_ne ha] at e; exact c.there a e
/-- behind the statement the thing in slot i is frozen -/
def tFzS (i : Nat) (t : TS) : TS := fun E σ H => t { E with nx := fun σ' H' => ∃ p u, σ'[i]? = some (some (.ref p)) ∧ H' p = some u ∧ Mut (some u) ∧ ∀ o, E.nx σ' (upd H' p (.frz o u)) } σ H
theorem ps_fzS {st : Stmt} {t : TS} {i : Nat} (h : PS X st t) : PS X st (tFzS i t) := by
  refine ⟨fun pins s σ H E I hw => ?_⟩
  refine thn (h.run pins s σ H _ I hw) fun f s1 q => ?_
  cases f with
  | next =>
    obtain ⟨σ', H', I', p, u, _, hp, mu, q⟩ := q
    obtain ⟨o, I2⟩ := I'.lock hp mu
    exact ⟨σ', _, I2, q o⟩
  | brk => exact q
  | cont => exact q
  | ret v => exact q
theorem ds_setLc {i : Nat} {y : Str} {py spos : Pos} (hc : X.calm = true) (hN : X.N.Nodup) (hy : X.N[i]? = some y) (hyl : X.env.scope.names.lookup y = some .local)
    (hsw : swapsWith (.ListComp elt [⟨tg, iter, ifs, 0⟩] scope pos) (some (.Name y py)) spos.line X.env = pure true) (hi : DIo X nf tg iter di) (ok : BlkOk X.N X.env.scope scope own)
    (hg : ∀ (s : Shared) (H : Hp) (C : Addr) (cl : List (Str × Addr)) (fp : List Addr), DGo (X.blk s H scope (compEnvC scope cl C X.env) fp) nf tg (own.map (·.2)) g) (ht : ∀ (s : Shared) (H : Hp) (C : Addr) (cl : List (Str × Addr)) (fp : List Addr), PTs (X.blk s H scope (compEnvC scope cl C X.env) fp) ifs (liftB X.K nf dt))
    (he : ∀ (s : Shared) (H : Hp) (C : Addr) (cl : List (Str × Addr)) (fp : List Addr), DE (X.blk s H scope (compEnvC scope cl C X.env) fp) nf elt de) (hs : ∀ x, foldedSetIterable iter X.env x = pure x := by intro _; rfl) :
    DS X nf (.Assign [.Name y py] (.ListComp elt [⟨tg, iter, ifs, 0⟩] scope pos) spos) (sSet i (dLc di g dt de (own.map (·.2)))) := ps_imp (ps_fzS (i := i) (ps_setLc (i := i) (g := liftG X.K nf (own.map (·.2)) g) (te := lift X.K nf de) hc hN hy hyl hsw hi ok hg ht he hs)) fun E σ H ⟨env, fp, De, R, h, br⟩ => by
  unfold tFzS tAsg
  refine lift_lc R h fun p vs H' ds env' fp' hp hp' np rr R' c ⟨hl, q⟩ => ⟨p, _, ?_, hp', trivial, fun o => ?_⟩
  · rw [List.getElem?_set_self (by rw [R'.length]; exact hl)]
  · have st : Stp nf H' (upd H' p (.frz o (.lst vs))) := fun a u e f => by
      by_cases ha : a = p
      · subst ha; rw [hp'] at e; cases e; exact f.elim
      · rw [upd_ne ha]; exact e
    have R2 := R'.frame (H' := upd H' p (.frz o (.lst vs))) (fun a m => upd_ne fun z => np (z ▸ m)) st R.2 (c.put hp)
    obtain ⟨fp3, R3, c3⟩ := R2.setFz hl (.lst ⟨o, upd_same⟩ (rr.mono st) : Rel X.K nf _ (.ref p) (.lst ds))
    refine br.nx _ _ _ fp3 R3 (Ch.trans (fp1 := fp') ⟨fun a u e n => ?_, c.sub, fun a e => ?_⟩ c3) q
    · rw [upd_ne (ne_of_none e hp)]; exact c.keep a u e n
    · by_cases ha : a = p
      · subst ha; rw [upd_same] at e; cases e
      · rw [upd_ne ha] at e; exact c.there a e
end
/-! ### dicts -/
def keyOf : D → Option Key
  | .int i => some (.inl i)
  | .str s => some (.inr s)
  | _ => none
theorem key_of {H : Hp} {v : V} {x : D} {k : Key} (r : Rel K nf H v x) (e : keyOf x = some k) : v = kV k := by
  cases r <;> simp only [keyOf] at e <;> cases e <;> rfl
def valD (kds : List (Key × D)) (k : Key) : Option D := (kds.find? fun kv => decide (kv.1 = k)).map (·.2)
def putD (kds : List (Key × D)) (k : Key) (d : D) : List (Key × D) :=
  if (kds.any fun kv => decide (kv.1 = k)) = true then kds.map (fun kv => if kv.1 = k then (kv.1, d) else kv) else kds ++ [(k, d)]
theorem RelK.val {H : Hp} {k : Key} : ∀ {kvs : List (Key × V)} {kds : List (Key × D)} {d : D}, RelK K nf H kvs kds → valD kds k = some d → ∃ v, valV kvs k = some v ∧ Rel K nf H v d
  | _, _, _, .nil, e => by cases e
  | _, _, d, @RelK.cons _ _ _ k' v vs d' ds h r, e => by
    by_cases hk : k' = k
    · subst hk
      simp only [valD, List.find?_cons, decide_true, Option.map_some, Option.some.injEq] at e
      subst e
      exact ⟨v, valV_pos rfl, h⟩
    · have e' : valD ds k = some d := by simpa [valD, List.find?_cons, hk] using e
      obtain ⟨w, h1, h2⟩ := RelK.val r e'
      exact ⟨w, by rw [valV_neg hk]; exact h1, h2⟩
theorem RelK.val_none {H : Hp} {k : Key} : ∀ {kvs : List (Key × V)} {kds : List (Key × D)}, RelK K nf H kvs kds → (valV kvs k).isSome = (valD kds k).isSome
  | _, _, .nil => rfl
  | _, _, @RelK.cons _ _ _ k' v vs d' ds h r => by
    by_cases hk : k' = k
    · subst hk
      simp [valD, valV_pos]
    · rw [valV_neg hk, RelK.val_none r]
      simp [valD, List.find?_cons, hk]
theorem RelK.any {H : Hp} {k : Key} : ∀ {kvs : List (Key × V)} {kds : List (Key × D)}, RelK K nf H kvs kds → (kvs.any fun kv => decide (kv.1 = k)) = (kds.any fun kv => decide (kv.1 = k))
  | _, _, .nil => rfl
  | _, _, .cons h r => by rw [List.any_cons, List.any_cons, RelK.any r]
theorem RelK.mapPut {H : Hp} {k : Key} {v : V} {d : D} (h : Rel K nf H v d) : ∀ {kvs : List (Key × V)} {kds : List (Key × D)}, RelK K nf H kvs kds → RelK K nf H (kvs.map fun kv => if kv.1 = k then (kv.1, v) else kv) (kds.map fun kv => if kv.1 = k then (kv.1, d) else kv)
  | _, _, .nil => .nil
  | _, _, @RelK.cons _ _ _ k' v' vs d' ds h' r => by
    rw [List.map_cons, List.map_cons]
    by_cases hk : k' = k
    · rw [if_pos hk, if_pos hk]; exact .cons h (RelK.mapPut h r)
    · rw [if_neg hk, if_neg hk]; exact .cons h' (RelK.mapPut h r)
theorem RelK.append {H : Hp} : ∀ {kvs ls : List (Key × V)} {kds es : List (Key × D)}, RelK K nf H kvs kds → RelK K nf H ls es → RelK K nf H (kvs ++ ls) (kds ++ es)
  | _, _, _, _, .nil, s => s
  | _, _, _, _, .cons h r, s => .cons h (RelK.append r s)
theorem RelK.put {H : Hp} {k : Key} {v : V} {d : D} {kvs : List (Key × V)} {kds : List (Key × D)} (r : RelK K nf H kvs kds) (h : Rel K nf H v d) : RelK K nf H (putK kvs k v) (putD kds k d) := by
  unfold putK putD
  rw [r.any]
  split
  · exact RelK.mapPut h r
  · exact r.append (.cons h .nil)
theorem putD_len (kds : List (Key × D)) (k : Key) (d : D) : (putD kds k d).length ≤ kds.length + 1 := by
  unfold putD
  split <;> simp
section
variable {o i : Expr} {da db : DT nf} {pos : Pos}
/-- d[k] of a frozen dict -/
def fDG : D → D → D → Prop := fun x y z => ∃ kds k, x = .dct kds ∧ keyOf y = some k ∧ valD kds k = some z
def dDG (da db : DT nf) : DT nf := dOp fDG da db
theorem de_dget (hu : X.A.units + 1 < cLine) (ho : DE X nf o da) (hi : DE X nf i db) (hs : NoSl i := by exact fun _ _ => rfl) : DE X nf (.Subscript o i pos) (dDG da db) := pe_imp (pe_dget hu ho hi hs) fun σ H Q h =>
  lift_op (r := fun x y H2 Q => ∃ a v, x = .ref a ∧ DGet H2 a y (some v) ∧ Q v H2) (by
    rintro H v w x y z r1 r2 ⟨kds, k, rfl, e1, e2⟩ Q q
    cases r1 with
    | @dct a ob kvs _ ha rr =>
      obtain ⟨u, e3, r3⟩ := rr.val e2
      have ew := key_of r2 e1
      subst ew
      exact ⟨a, u, rfl, .inl ⟨kvs, k, .inr ⟨ob, ha⟩, rfl, e3.symm⟩, q u H r3 Xt.refl⟩) σ H Q h
/-- k in d -/
def fDIn (neg : Bool) : D → D → D → Prop := fun y x z => ∃ kds k, x = .dct kds ∧ keyOf y = some k ∧ z = .bl (if neg then !(valD kds k).isSome else (valD kds k).isSome)
theorem od_din : OpD K nf (fun y x H2 Q => ∃ a o, x = .ref a ∧ DGet H2 a y o ∧ Q (.bl o.isSome) H2) (fDIn false) := by
  rintro H v w x y z r1 r2 ⟨kds, k, rfl, e1, rfl⟩ Q q
  cases r2 with
  | @dct a ob kvs _ ha rr =>
    have ew := key_of r1 e1
    subst ew
    refine ⟨a, valV kvs k, rfl, .inl ⟨kvs, k, .inr ⟨ob, ha⟩, rfl, rfl⟩, ?_⟩
    rw [rr.val_none]
    exact q _ H (.bl _) Xt.refl
theorem od_dnin : OpD K nf (fun y x H2 Q => ∃ a o, x = .ref a ∧ DGet H2 a y o ∧ Q (.bl (!o.isSome)) H2) (fDIn true) := by
  rintro H v w x y z r1 r2 ⟨kds, k, rfl, e1, rfl⟩ Q q
  cases r2 with
  | @dct a ob kvs _ ha rr =>
    have ew := key_of r1 e1
    subst ew
    refine ⟨a, valV kvs k, rfl, .inl ⟨kvs, k, .inr ⟨ob, ha⟩, rfl, rfl⟩, ?_⟩
    rw [rr.val_none]
    exact q _ H (.bl _) Xt.refl
def dDIn (neg : Bool) (da db : DT nf) : DT nf := dOp (fDIn neg) da db
theorem de_din (hu : X.A.units + 1 < cLine) (hi : DE X nf i da) (ho : DE X nf o db) (h1 : behindInMarks .In o = false := by rfl) : DE X nf (.Compare i [.In] [o] pos) (dDIn false da db) := pe_imp (pe_cmp (pc_din hu hi ho) h1) (lift_op od_din)
theorem de_dnin (hu : X.A.units + 1 < cLine) (hi : DE X nf i da) (ho : DE X nf o db) (h1 : behindInMarks .NotIn o = false := by rfl) : DE X nf (.Compare i [.NotIn] [o] pos) (dDIn true da db) := pe_imp (pe_cmp (pc_dnotin hu hi ho) h1) (lift_op od_dnin)
theorem dc_din (hu : X.A.units + 1 < cLine) (hi : DE X nf i da) (ho : DE X nf o db) (h1 : behindInMarks .In o = false := by rfl) : DC X nf (.Compare i [.In] [o] pos) (dBv (dDIn false da db)) := pt_imp (pt_cmp (pc_din hu hi ho) h1) (lift_B2 (lift_op od_din))
theorem dc_dnin (hu : X.A.units + 1 < cLine) (hi : DE X nf i da) (ho : DE X nf o db) (h1 : behindInMarks .NotIn o = false := by rfl) : DC X nf (.Compare i [.NotIn] [o] pos) (dBv (dDIn true da db)) := pt_imp (pt_cmp (pc_dnotin hu hi ho) h1) (lift_B2 (lift_op od_dnin))
end
/-! owned dicts -/
def dctA (K : PySem.W.Frag) (nf : Addr → Nat) (kds : List (Key × D)) : OA nf where
  inv v fp H := ∃ p kvs, v = .ref p ∧ fp = [p] ∧ H p = some (.dK kvs) ∧ RelK K nf H kvs kds
  frame := by
    rintro v fp H H' ⟨p, vs, e1, e2, hp, r⟩ k st
    subst e2
    exact ⟨p, vs, e1, rfl, by rw [k p (List.mem_singleton.mpr rfl)]; exact hp, r.mono st⟩
  trk := by
    rintro v fp H ⟨p, vs, e1, e2, hp, r⟩ a m
    subst e2
    rw [List.mem_singleton.mp m]
    exact ⟨_, hp, fun z => z⟩
  nd := by
    rintro v fp H ⟨p, vs, e1, e2, hp, r⟩
    subst e2
    simp
/-- x = {} -/
def sSetD0 (K : PySem.W.Frag) (i : Nat) : DTS nf := fun De env => i < env.length ∧ ∀ p, De.nx (env.set i (.ow (.ref p) (dctA K nf [])))
theorem ds_setD0 {i : Nat} {x : Str} {pos pos' dpos : Pos} (hN : X.N.Nodup) (hi : X.N[i]? = some x) (hx : Loc X.env.scope x) (hs : swapsWith (.Dict [] [] dpos) (some (.Name x pos')) pos.line X.env = pure false := by rfl)
    (hf : X.fn x = true ∨ X.env.scope.names.lookup x = some .local := by first | exact .inl rfl | exact .inr rfl | assumption) : DS X nf (.Assign [.Name x pos'] (.Dict [] [] dpos) pos) (sSetD0 X.K i) :=
  ps_imp (ps_set hN hi hx pe_dnewK hs hf) fun E σ H ⟨env, fp, De, R, ⟨hl, q⟩, br⟩ => fun p hp => by
    have x : Xt H (upd H p (.dK [])) := Xt.new hp
    obtain ⟨fp2, R2, c2⟩ := R.setNew (i := i) (v := .ref p) (A := dctA X.K nf []) (fi := [p]) hl x ⟨p, [], rfl, rfl, upd_same, .nil⟩ (fun a m => by rw [List.mem_singleton.mp m]; exact hp)
    exact br.nx _ _ _ fp2 R2 c2 (q p)
/-- x = dict(e), one's own -/
def sSetDD (K : PySem.W.Frag) (i : Nat) (r : DAs nf) : DTS nf := fun De env => r env fun ds env1 => ∃ kds, ds = [.dct kds] ∧ i < env1.length ∧ ∀ p, De.nx (env1.set i (.ow (.ref p) (dctA K nf kds)))
theorem ds_setDD {i : Nat} {x : Str} {e : Expr} {r : DAs nf} {pos pos' p cpos : Pos} (hN : X.N.Nodup) (hi : X.N[i]? = some x) (hx : Loc X.env.scope x) (hg : Gl X "dict") (hm : X.mg "dict" = none) (h : DA X nf [e] r) (he : starEach [e] X.env = (false, eval e X.env) :: starEach [] X.env := by rfl)
    (hs : swapsWith (.Call (.Name "dict" p) [e] [] cpos) (some (.Name x pos')) pos.line X.env = pure false := by rfl)
    (hf : X.fn x = true ∨ X.env.scope.names.lookup x = some .local := by first | exact .inl rfl | exact .inr rfl | assumption) : DS X nf (.Assign [.Name x pos'] (.Call (.Name "dict" p) [e] [] cpos) pos) (sSetDD X.K i r) :=
  ps_imp (ps_set hN hi hx (pe_callTy call_dictD hg hm (by decide +kernel) h (by decide) (by decide) he) hs hf) fun E σ H ⟨env, fp, De, R, q, br⟩ => ⟨env, fp, _, R, q, fun vs H1 ds env1 fp1 r1 R1 c1 ⟨kds, e, hl, q1⟩ => by
    subst e
    obtain ⟨v, rfl, hr⟩ := rels1x r1
    cases hr with
    | @dct a ob kvs _ ha rr =>
      refine ⟨a, kvs, rfl, .inr ⟨ob, ha⟩, fun p hp => ?_⟩
      have x : Xt H1 (upd H1 p (.dK kvs)) := Xt.new hp
      obtain ⟨fp2, R2, c2⟩ := R1.setNew (i := i) (v := .ref p) (A := dctA X.K nf kds) (fi := [p]) hl x ⟨p, kvs, rfl, rfl, upd_same, rr.mono x.stp⟩ (fun a m => by rw [List.mem_singleton.mp m]; exact hp)
      exact br.nx _ _ _ fp2 R2 (c1.trans c2) (q1 p)⟩
theorem EnvR.dctAt {H : Hp} {σ : St} {env : EV nf} {fp : List Addr} (R : EnvR K nf H σ env fp) {i : Nat} {v : V} {xs : List (Key × D)} (e : env[i]? = some (.ow v (dctA K nf xs))) :
    ∃ p vs, v = .ref p ∧ σ[i]? = some (some (.ref p)) ∧ H p = some (.dK vs) ∧ RelK K nf H vs xs ∧
      (∀ vs' xs', RelK K nf H vs' xs' → ∃ fp', EnvR K nf (upd H p (.dK vs')) σ (env.set i (.ow v (dctA K nf xs'))) fp' ∧ Ch fp H fp' (upd H p (.dK vs'))) ∧
      ∀ o, Rel K nf (upd H p (.frz o (.dK vs))) (.ref p) (.dct xs) ∧ ∃ fp', EnvR K nf (upd H p (.frz o (.dK vs))) σ (env.set i (.fz (.dct xs))) fp' ∧ Ch fp H fp' (upd H p (.frz o (.dK vs))) := by
  obtain ⟨o, fi, e1, ⟨eo, p, vs, ev, ef, hp, r⟩, sub, rep⟩ := R.at e
  subst eo ev ef
  have es : σ.set i (some (.ref p)) = σ := by
    obtain ⟨h1, h2⟩ := List.getElem?_eq_some_iff.mp e1
    rw [← h2]
    exact List.set_getElem_self h1
  have stp : ∀ u', Stp nf H (upd H p u') := fun u' a u h f => by
    by_cases ha : a = p
    · subst ha; rw [hp] at h; cases h; exact f.elim
    · rw [upd_ne ha]; exact h
  have kp : ∀ u' a u, H a = some u → a ∉ [p] → upd H p u' a = some u := fun u' a u h n => by
    rw [upd_ne (fun z => n (by rw [z]; exact List.mem_singleton.mpr rfl))]; exact h
  have ch : ∀ u' fp', (∀ a ∈ fp', a ∈ fp ∨ H a = none) → Ch fp H fp' (upd H p u') := fun u' fp' sub' => ⟨fun a u h n => by
    rw [upd_ne (fun z => n (by rw [z]; exact sub p (List.mem_singleton.mpr rfl)))]; exact h, sub', fun a h => by
    by_cases ha : a = p
    · subst ha; rw [upd_same] at h; cases h
    · rw [upd_ne ha] at h; exact h⟩
  refine ⟨p, vs, rfl, e1, hp, r, fun vs' xs' r' => ?_, fun o => ?_⟩
  · obtain ⟨fp', R', sub'⟩ := rep (upd H p (.dK vs')) (some (.ref p)) (.ow (.ref p) (dctA K nf xs')) [p] ⟨rfl, p, vs', rfl, rfl, upd_same, r'.mono (stp _)⟩ (kp _) (fun a m => .inl m) (stp _)
    rw [es] at R'
    exact R.rex R' (ch _ fp' sub')
  · have rel : Rel K nf (upd H p (.frz o (.dK vs))) (.ref p) (.dct xs) := .dct upd_same (r.mono (stp _))
    obtain ⟨fp', R', sub'⟩ := rep (upd H p (.frz o (.dK vs))) (some (.ref p)) (.fz (.dct xs)) [] ⟨rfl, _, rfl, rel⟩ (kp _) (fun a m => by cases m) (stp _)
    rw [es] at R'
    exact ⟨rel, R.rex R' (ch _ fp' sub')⟩
/-- d[k] = v of the slot's own dict -/
def sDPutV (K : PySem.W.Frag) (i : Nat) (db dv : DT nf) : DTS nf := fun De env => dv env fun d env1 => (∃ v kds, env1[i]? = some (.ow v (dctA K nf kds))) ∧ db env1 fun y env2 => ∃ v kds k, env2[i]? = some (.ow v (dctA K nf kds)) ∧ keyOf y = some k ∧ kds.length < 1000000 ∧ De.nx (env2.set i (.ow v (dctA K nf (putD kds k d))))
theorem ds_dputV {i : Nat} {o ix value : Expr} {db dv : DT nf} {pos pos' : Pos} (hu : X.A.units + 1 < cLine) (ho : PE X o (tVar i)) (hi : DE X nf ix db) (hv : DE X nf value dv) (hs : swapsWith value (some (.Subscript o ix pos')) pos.line X.env = pure false := by rfl) :
    DS X nf (.Assign [.Subscript o ix pos'] value pos) (sDPutV X.K i db dv) := ps_imp (ps_dput hu ho hi hv hs) fun E σ H ⟨env, fp, De, R, q, br⟩ =>
  lift_run R q fun w H1 d env1 fp1 r1 R1 c1 ⟨⟨v0, kds0, e0⟩, q1⟩ => by
    obtain ⟨p0, _, _, es0, _, _, _⟩ := R1.dctAt e0
    refine ⟨_, es0, lift_run R1 q1 fun u H2 y env2 fp2 r2 R2 c2 ⟨v, kds, k, e2, ek, hl, q2⟩ => ?_⟩
    obtain ⟨p, kvs, ev, es, hp, rr, rep, _⟩ := R2.dctAt e2
    rw [es0] at es
    cases es
    have eu := key_of r2 ek
    subst eu
    obtain ⟨fp3, R3, c3⟩ := rep (putK kvs k w) (putD kds k d) (rr.put (r1.mono (c2.stp R1)))
    exact ⟨p0, _, rfl, .inl ⟨kvs, k, hp, rfl, by rw [rr.length]; exact Nat.lt_of_lt_of_le hl (by decide), rfl⟩, br.nx σ _ _ fp3 R3 ((c1.trans c2).trans c3) q2⟩
/-- the slot's own dict as a value, frozen from here on -/
def dVarFD (K : PySem.W.Frag) (i : Nat) : DT nf := fun env Q => ∃ v kds, env[i]? = some (.ow v (dctA K nf kds)) ∧ Q (.dct kds) (env.set i (.fz (.dct kds)))
theorem de_varFD {i : Nat} {e : Expr} (h : PE X e (tVar i)) : DE X nf e (dVarFD X.K i) := pe_imp (pe_fz h) fun σ H Q ⟨env, fp, Qd, R, ⟨v, xs, e, q⟩, k⟩ => by
  obtain ⟨p, vs, ev, es, hp, _, _, f⟩ := R.dctAt e
  refine ⟨_, es, p, _, rfl, hp, trivial, fun o => ?_⟩
  obtain ⟨rel, fp', R', c⟩ := f o
  exact k _ _ _ _ fp' rel R' c q
end
end DL

namespace DL
open PySem L2
section
variable [Anch] {X : Cx} {nf : Addr → Nat} {K : PySem.W.Frag}
/-! ### dict comprehensions -/
def dCompD (g : DG nf) (dt : DB nf) (dk dv : DT nf) (js : List Nat) : List D → List (Key × D) → EV nf → (List (Key × D) → EV nf → Prop) → Prop
  | [], acc, env, Q => Q acc env
  | x :: xs, acc, env, Q => g x env fun env1 => dt env1 fun b env2 => if b = true then dk env2 fun y env3 => dv env3 fun d env4 => ∃ k, keyOf y = some k ∧ acc.length < 1000000 ∧ dCompD g dt dk dv js xs (putD acc k d) (wipeD env4 js) Q else dCompD g dt dk dv js xs acc (wipeD env2 js) Q
def dDc (di : DAs nf) (g : DG nf) (dt : DB nf) (dk dv : DT nf) (js : List Nat) : DT nf := fun env Q => di env fun ds env1 => dCompD g dt dk dv js ds [] (wipeD env1 js) fun acc env2 => Q (.dct acc) env2
theorem dc_it {J : It} {n : Nat} {G : Hp → Prop} {Y : Nat → Hp → V → Hp → Prop} (w : Walk J n G Y) {g : TG} {tt : TT} {tk tv : TE} {vs : List Nat} {σ : St} {H1 : Hp} {D : Addr} {Qd : Hp → Prop} (Pv : Nat → Hp → Prop) (h0 : Pv 0 (upd H1 D (.dK []))) (hG : ∀ i H, i ≤ n → Pv i H → G H)
    (hs : ∀ i x H H', i < n → Pv i H → Y i H x H' → g x (wipe σ vs) H' fun σ2 H2 => wipe σ2 vs = wipe σ vs ∧ tt σ2 H2 fun b H3 =>
      if b = true then tk σ2 H3 fun y H4 => tv σ2 H4 fun z H5 => ∃ kvs k, y = kV k ∧ H5 D = some (.dK kvs) ∧ kvs.length < sizeLine ∧ Pv (i + 1) (upd H5 D (.dK (putK kvs k z))) else Pv (i + 1) H3) (hd : ∀ H, Pv n H → Qd H) :
    ∃ W : Nat → Nat → Hp → Prop, (∃ m, W 0 m (upd H1 D (.dK []))) ∧ ∀ i m H, W i m H →
      (J.stop i H ∧ Qd H) ∨ (J.go i H ∧ ∃ Nx : Hp → Prop, (∀ H', Nx H' → ∃ m', m' < m ∧ W (i + 1) m' H') ∧ ∀ x H', J.yld i H x H' → g x (wipe σ vs) H' fun σ2 H2 => wipe σ2 vs = wipe σ vs ∧ tt σ2 H2 fun b H3 =>
        if b = true then tk σ2 H3 fun y H4 => tv σ2 H4 fun z H5 => ∃ kvs k, y = kV k ∧ H5 D = some (.dK kvs) ∧ kvs.length < sizeLine ∧ Nx (upd H5 D (.dK (putK kvs k z))) else Nx H3) := by
  refine ⟨fun i m H => m = n - i ∧ i ≤ n ∧ Pv i H, ⟨n, by simp, Nat.zero_le _, h0⟩, ?_⟩
  rintro i m H ⟨rfl, hi, p⟩
  have q := hG i H hi p
  by_cases hlt : i < n
  · refine .inr ⟨w.goes i H hlt q, Pv (i + 1), fun H' p' => ⟨n - (i + 1), by omega, rfl, hlt, p'⟩, fun x H' y => hs i x H H' hlt p (w.yields i H x H' hlt q y)⟩
  · have e : i = n := by omega
    subst e
    exact .inl ⟨w.stops H q, hd H p⟩
theorem wipe_wipe (σ : St) : ∀ js : List Nat, L2.wipe (L2.wipe σ js) js = L2.wipe σ js
  | [] => rfl
  | j :: js => by
    show (L2.wipe ((L2.wipe σ js).set j none) js).set j none = (L2.wipe σ js).set j none
    rw [wipe_out, List.set_set, wipe_wipe σ js]
theorem lift_dc {di : DAs nf} {g : DG nf} {dt : DB nf} {dk dv : DT nf} {js : List Nat} {σ : St} {H : Hp} {Q : VK} {env : EV nf} {fp : List Addr} {Qd : List (Key × D) → EV nf → Prop} (R : EnvR K nf H σ env fp)
    (h : di env fun ds env1 => dCompD g dt dk dv js ds [] (wipeD env1 js) Qd)
    (k : ∀ p vs H' ds env' fp', H p = none → H' p = some (.dK vs) → p ∉ fp' → RelK K nf H' vs ds → EnvR K nf H' σ env' fp' → Ch fp H fp' H' → Qd ds env' → Q (.ref p) H') :
    tDc (liftI K nf di) (liftG K nf js g) (liftB K nf dt) (lift K nf dk) (lift K nf dv) js σ H Q := by
  refine ⟨env, fp, _, R, h, fun J ds H1 env1 fp1 ⟨G, Y, w, hG, hY⟩ R1 c1 q1 => fun Dl hD => ?_⟩
  obtain ⟨fpw, Rw, cw⟩ := R1.wipe js
  have x0 : Xt H1 (upd H1 Dl (.dK [])) := Xt.new hD
  refine dc_it w (fun i H' => ∃ env' fp' vs acc, EnvR K nf H' (L2.wipe σ js) env' fp' ∧ Ch fp1 H1 fp' H' ∧ Dl ∉ fp' ∧ H' Dl = some (.dK vs) ∧ RelK K nf H' vs acc ∧ (∀ j ∈ js, env'[j]? = some .un ∨ env'.length ≤ j) ∧ dCompD g dt dk dv js (ds.drop i) acc env' Qd)
    ⟨_, fpw, [], [], Rw.ext x0, cw.trans x0.ch, (fun m => by obtain ⟨u, e, _⟩ := Rw.trk Dl m; rw [hD] at e; cases e), upd_same, .nil, wipeD_un env1 js, q1⟩
    (fun i H' _ ⟨env', fp', _, _, R', c', _⟩ => hG H' (c'.stp R1)) (fun i x H' H2 hi ⟨env', fp', vs, acc, R', c', nD, hDl, rr, hu, q'⟩ y => ?_) fun H' ⟨env', fp', vs, acc, R', c', nD, hDl, rr, hu, q'⟩ => ?_
  · obtain ⟨xt, d, ed, r⟩ := hY i H' x H2 hi (c'.stp R1) y
    rw [drop_cons ed] at q'
    refine ⟨d, env', fp', _, r, R'.ext xt, q', fun σ2 env2 fp2 hw R2 c2 q2 => ⟨by rw [hw]; exact wipe_wipe σ js, ?_⟩⟩
    have c3 := (c'.trans xt.ch).trans c2
    have nD2 : Dl ∉ fp2 := fun m => by
      rcases (xt.ch.trans c2).sub Dl m with z | z
      · exact nD z
      · rw [hDl] at z; cases z
    have hD2 : H2 Dl = some (.dK vs) := xt _ _ hDl
    refine ⟨env2, fp2, _, R2, q2, fun b H3 env3 fp3 R3 c4 q3 => ?_⟩
    have nD3 : Dl ∉ fp3 := fun m => by
      rcases c4.sub Dl m with z | z
      · exact nD2 z
      · rw [hD2] at z; cases z
    have hD3 : H3 Dl = some (.dK vs) := c4.keep _ _ hD2 nD2
    have st3 : Stp nf H' H3 := xt.stp.trans (c4.stp R2)
    have hw' : L2.wipe σ2 js = L2.wipe σ js := by rw [hw]; exact wipe_wipe σ js
    cases b with
    | true =>
      show lift K nf dk σ2 H3 _
      refine lift_run R3 q3 fun y H4 d4 env4 fp4 r4 R4 c5 q4 => ?_
      have nD4 : Dl ∉ fp4 := fun m => by
        rcases c5.sub Dl m with z | z
        · exact nD3 z
        · rw [hD3] at z; cases z
      have hD4 : H4 Dl = some (.dK vs) := c5.keep _ _ hD3 nD3
      refine lift_run R4 q4 fun v H5 d5 env5 fp5 r5 R5 c6 ⟨kk, ek, hlen, q5⟩ => ?_
      have nD5 : Dl ∉ fp5 := fun m => by
        rcases c6.sub Dl m with z | z
        · exact nD4 z
        · rw [hD4] at z; cases z
      have hD5 : H5 Dl = some (.dK vs) := c6.keep _ _ hD4 nD4
      have ey := key_of r4 ek
      subst ey
      have rr5 : RelK K nf H5 vs acc := rr.mono (st3.trans ((c5.stp R3).trans (c6.stp R4)))
      obtain ⟨fp7, R7, c7⟩ := R5.wipe js
      have nD7 : Dl ∉ fp7 := fun m => by
        rcases c7.sub Dl m with z | z
        · exact nD5 z
        · rw [hD5] at z; cases z
      have st5 : Stp nf H5 (upd H5 Dl (.dK (putK vs kk v))) := fun a u e f => by
        by_cases ha : a = Dl
        · subst ha; rw [hD5] at e; cases e; exact f.elim
        · rw [upd_ne ha]; exact e
      have R8 := R7.frame (H' := upd H5 Dl (.dK (putK vs kk v))) (fun a m => upd_ne fun z => nD7 (z ▸ m)) st5 R1.2 (((((c3.trans c4).trans c5).trans c6).trans c7).put hD)
      rw [hw'] at R8
      refine ⟨vs, kk, rfl, hD5, by rw [rr5.length]; exact Nat.lt_of_lt_of_le hlen (by decide), _, fp7, putK vs kk v, putD acc kk d5, R8, ?_, nD7, upd_same, (rr5.put r5).mono st5, wipeD_un _ _, q5⟩
      have cc := (((c3.trans c4).trans c5).trans c6).trans c7
      exact ⟨fun a u e n => by rw [upd_ne (ne_of_none e hD)]; exact cc.keep a u e n, cc.sub, fun a e => cc.there a (by
        by_cases ha : a = Dl
        · subst ha; rw [upd_same] at e; cases e
        · rw [upd_ne ha] at e; exact e)⟩
    | false =>
      obtain ⟨fp5, R5, c6⟩ := R3.wipe js
      rw [hw'] at R5
      refine ⟨_, fp5, vs, acc, R5, (c3.trans c4).trans c6, fun m => ?_, hD3, rr.mono st3, wipeD_un _ _, q3⟩
      rcases c6.sub Dl m with z | z
      · exact nD3 z
      · rw [hD3] at z; cases z
  · rw [List.drop_length] at q'
    have R7 : EnvR K nf H' σ env' fp' := EnvR.unwipe js R' (wipe_wipe σ js).symm hu
    exact k Dl vs H' acc env' fp' (c1.there Dl hD) hDl nD rr R7 (c1.trans c') q'
section
variable {kx vx tg iter : Expr} {ifs : List Expr} {scope : Scope} {own : List (Str × Nat)} {pos : Pos} {di : DAs nf} {g : DG nf} {dt : DB nf} {de dk : DT nf}
theorem de_dc (hc : X.calm = true) (hN : X.N.Nodup) (hi : DIo X nf tg iter di) (ok : BlkOk X.N X.env.scope scope own)
    (hg : ∀ (s : Shared) (H : Hp) (C : Addr) (cl : List (Str × Addr)) (fp : List Addr), DGo (X.blk s H scope (compEnvC scope cl C X.env) fp) nf tg (own.map (·.2)) g) (ht : ∀ (s : Shared) (H : Hp) (C : Addr) (cl : List (Str × Addr)) (fp : List Addr), PTs (X.blk s H scope (compEnvC scope cl C X.env) fp) ifs (liftB X.K nf dt))
    (hk : ∀ (s : Shared) (H : Hp) (C : Addr) (cl : List (Str × Addr)) (fp : List Addr), DE (X.blk s H scope (compEnvC scope cl C X.env) fp) nf kx dk)
    (he : ∀ (s : Shared) (H : Hp) (C : Addr) (cl : List (Str × Addr)) (fp : List Addr), DE (X.blk s H scope (compEnvC scope cl C X.env) fp) nf vx de) (hs : ∀ x, foldedSetIterable iter X.env x = pure x := by intro _; rfl) :
    DE X nf (.DictComp kx vx [⟨tg, iter, ifs, 0⟩] scope pos) (dDc di g dt dk de (own.map (·.2))) := pe_imp (pe_fz (pe_dc hc hN hi ok hg ht hk he hs)) fun σ H Q ⟨env, fp, Qd, R, h, k⟩ => by
  refine lift_dc R h fun p vs H' ds env' fp' hp hp' np rr R' c q => ⟨p, _, rfl, hp', trivial, fun o => ?_⟩
  have st : Stp nf H' (upd H' p (.frz o (.dK vs))) := fun a u e f => by
    by_cases ha : a = p
    · subst ha; rw [hp'] at e; cases e; exact f.elim
    · rw [upd_ne ha]; exact e
  refine k _ _ _ env' fp' (.dct upd_same (rr.mono st)) (R'.frame (fun a m => upd_ne fun z => np (z ▸ m)) st R.2 (c.put hp)) ⟨fun a u e n => ?_, c.sub, fun a e => ?_⟩ q
  · rw [upd_ne (ne_of_none e hp)]; exact c.keep a u e n
  · by_cases ha : a = p
    · subst ha; rw [upd_same] at e; cases e
    · rw [upd_ne ha] at e; exact c.there a e
end
/-! ### texts by their methods, slices -/
section
variable {o e : Expr} {da db : DT nf} {apos pos : Pos}
def dSplit (da db : DT nf) : DT nf := fun env Q => da env fun x env1 => ∃ a, x = .str a ∧ db env1 fun y env2 => ∃ b, y = .str b ∧ (b.length == 0) = false ∧ a.length + 2 ≤ 1000000 ∧ Q (.lst ((Txt.split a b).map .str)) env2
theorem de_split (ho : DE X nf o da) (he : DE X nf e db) (hs : starEach [e] X.env = [(false, eval e X.env)] := by rfl) (hbase : attributeBase o "split" X.env (eval o X.env) = eval o X.env := by rfl) (hline : (apos.endLine == pos.line) = true := by rfl) :
    DE X nf (.Call (.Attribute o "split" apos) [e] [] pos) (dSplit da db) := pe_imp (pe_fz (pe_split ho he hs hbase hline)) fun σ H Q ⟨env, fp, Qd, R, h, k⟩ => by
  refine lift_run R h fun v H1 x env1 fp1 r1 R1 c1 ⟨a, ex, h1⟩ => ?_
  subst ex
  cases r1
  refine ⟨⟨a, rfl⟩, lift_run R1 h1 fun w H2 y env2 fp2 r2 R2 c2 ⟨b, ey, hb, hl, q⟩ => ?_⟩
  subst ey
  cases r2
  refine ⟨a, b, rfl, rfl, hb, Nat.le_trans hl (by decide), fun p hp => ⟨p, _, rfl, upd_same, trivial, fun ob => ?_⟩⟩
  have x : Xt H2 (upd (upd H2 p (.lst ((Txt.split a b).map V.str))) p (.frz ob (.lst ((Txt.split a b).map V.str)))) := xt_fz (Xt.new hp) hp
  exact k _ _ _ env2 fp2 (.lst ⟨ob, upd_same⟩ ((strs_rels _).mono x.stp)) (R2.ext x) ((c1.trans c2).trans x.ch) q
def dJoin (da db : DT nf) : DT nf := fun env Q => da env fun x env1 => ∃ a, x = .str a ∧ db env1 fun y env2 => ∃ ys : List Str, (y = .lst (ys.map .str) ∨ y = .tup (ys.map .str)) ∧ (ys.map (·.length)).sum + ys.length * a.length ≤ 1000000 ∧ Q (.str (Txt.join a ys)) env2
theorem de_join (ho : DE X nf o da) (he : DE X nf e db) (hs : starEach [e] X.env = [(false, eval e X.env)] := by rfl) (hbase : attributeBase o "join" X.env (eval o X.env) = eval o X.env := by rfl) (hline : (apos.endLine == pos.line) = true := by rfl) :
    DE X nf (.Call (.Attribute o "join" apos) [e] [] pos) (dJoin da db) := pe_imp (pe_join ho he hs hbase hline) fun σ H Q ⟨env, fp, Qd, R, h, k⟩ => by
  refine lift_run R h fun v H1 x env1 fp1 r1 R1 c1 ⟨a, ex, h1⟩ => ?_
  subst ex
  cases r1
  refine ⟨⟨a, rfl⟩, lift_run R1 h1 fun w H2 y env2 fp2 r2 R2 c2 ⟨ys, ey, hl, q⟩ => ?_⟩
  rcases ey with rfl | rfl
  · cases r2 with
    | lst hz rr =>
      have ew := rels_strs rr
      subst ew
      exact ⟨a, _, ys, rfl, rfl, .inl hz.sq, Nat.le_trans hl (by decide), k _ H2 _ env2 fp2 (.str _) R2 (c1.trans c2) q⟩
  · cases r2 with
    | tup hz rr =>
      have ew := rels_strs rr
      subst ew
      exact ⟨a, _, ys, rfl, rfl, .inr hz, Nat.le_trans hl (by decide), k _ H2 _ env2 fp2 (.str _) R2 (c1.trans c2) q⟩
/-! slices -/
abbrev DO (nf : Addr → Nat) := EV nf → (Option Int → EV nf → Prop) → Prop
def liftO (K : PySem.W.Frag) (nf : Addr → Nat) (td : DO nf) : TO := fun σ H Q => ∃ env fp Qd, EnvR K nf H σ env fp ∧ td env Qd ∧ ∀ o H' env' fp', EnvR K nf H' σ env' fp' → Ch fp H fp' H' → Qd o env' → Q o H'
theorem po_imp {e : Option Expr} {t t' : TO} (h : PO X e t) (i : ∀ σ H Q, t' σ H Q → t σ H Q) : PO X e t' := ⟨fun pins s σ H Q I q => h.run pins s σ H Q I (i σ H Q q)⟩
def oNone : DO nf := fun env Q => Q none env
def oSome (a : DT nf) : DO nf := fun env Q => a env fun x env1 => ∃ i, x = .int i ∧ Q (some i) env1
theorem do_none : PO X none (liftO X.K nf oNone) := po_imp po_none fun σ H Q ⟨env, fp, Qd, R, q, k⟩ => k none H env fp R Ch.refl q
theorem do_some {e : Expr} {a : DT nf} (h : DE X nf e a) : PO X (some e) (liftO X.K nf (oSome a)) := po_imp (po_some h) fun σ H Q ⟨env, fp, Qd, R, q, k⟩ => lift_run R q fun v H1 x env1 fp1 r1 R1 c1 ⟨i, ex, q1⟩ => by
  subst ex
  exact ⟨i, rel_int r1, k (some i) H1 env1 fp1 R1 c1 q1⟩
def dSlS (da : DT nf) (lo hi : DO nf) : DT nf := fun env Q => da env fun x env1 => lo env1 fun l env2 => hi env2 fun u env3 => ∃ z, x = .str z ∧ z.length ≤ 1000000 ∧ Q (.str (cutS z l u)) env3
theorem de_slS {lo hi : Option Expr} {dl dh : DO nf} {p2 : Pos} (ha : DE X nf e da) (hl : PO X lo (liftO X.K nf dl)) (hh : PO X hi (liftO X.K nf dh)) : DE X nf (.Subscript e (.Slice lo hi none p2) pos) (dSlS da dl dh) := pe_imp (pe_slice sl_str ha hl hh) fun σ H Q ⟨env, fp, Qd, R, h, k⟩ =>
  lift_run R h fun v H1 x env1 fp1 r1 R1 c1 h1 => ⟨env1, fp1, _, R1, h1, fun l H2 env2 fp2 R2 c2 h2 => ⟨env2, fp2, _, R2, h2, fun u H3 env3 fp3 R3 c3 ⟨z, ex, hz, q⟩ => by
    subst ex
    exact ⟨z, rel_str r1, sz_ok hz, k _ H3 _ env3 fp3 (.str _) R3 ((c1.trans c2).trans c3) q⟩⟩⟩
def dSlL (da : DT nf) (lo hi : DO nf) : DT nf := fun env Q => da env fun x env1 => lo env1 fun l env2 => hi env2 fun u env3 => ∃ xs, x = .lst xs ∧ Q (.lst ((xs.drop (HT.sIx xs.length 0 l)).take (HT.sIx xs.length xs.length u - HT.sIx xs.length 0 l))) env3
theorem de_slL {lo hi : Option Expr} {dl dh : DO nf} {p2 : Pos} (ha : DE X nf e da) (hl : PO X lo (liftO X.K nf dl)) (hh : PO X hi (liftO X.K nf dh)) : DE X nf (.Subscript e (.Slice lo hi none p2) pos) (dSlL da dl dh) := pe_imp (pe_fz (pe_slice sl_list ha hl hh)) fun σ H Q ⟨env, fp, Qd, R, h, k⟩ =>
  lift_run R h fun v H1 x env1 fp1 r1 R1 c1 h1 => ⟨env1, fp1, _, R1, h1, fun l H2 env2 fp2 R2 c2 h2 => ⟨env2, fp2, _, R2, h2, fun u H3 env3 fp3 R3 c3 ⟨xs, ex, q⟩ => by
    subst ex
    cases r1 with
    | @lst a vs _ hz rr =>
      have st : Stp nf H1 H3 := (c2.stp R1).trans (c3.stp R2)
      refine ⟨a, vs, rfl, (hz.mono st).sq, fun p hp => ⟨p, _, rfl, upd_same, trivial, fun o => ?_⟩⟩
      have x : Xt H3 (upd (upd H3 p (.lst (cutV vs l u))) p (.frz o (.lst (cutV vs l u)))) := xt_fz (Xt.new hp) hp
      have rc : Rels X.K nf H3 (cutV vs l u) ((xs.drop (HT.sIx xs.length 0 l)).take (HT.sIx xs.length xs.length u - HT.sIx xs.length 0 l)) := by
        unfold cutV
        rw [rr.length]
        exact ((rr.mono st).drop _).take _
      exact k _ _ _ env3 fp3 (.lst ⟨o, upd_same⟩ (rc.mono x.stp)) (R3.ext x) (((c1.trans c2).trans c3).trans x.ch) q⟩⟩
/-! list + list, of anything that is read -/
theorem op_catR : OpR X (binaryOp .Add) (fun x y H Q => ∃ l b xs zs, x = .ref l ∧ y = .ref b ∧ Rd H l (.lst xs) ∧ Rd H b (.lst zs) ∧ xs.length + zs.length ≤ sizeLine ∧ ∀ p, H p = none → Q (.ref p) (upd H p (.lst (xs ++ zs)))) := by
  intro pins s σ H x y v u Q I rx ry h
  obtain ⟨l, b, xs, zs, rfl, rfl, hH, hB, hz, q⟩ := h
  cases rx
  cases ry
  obtain ⟨_, its, n, r, e⟩ := hH.ok I.hok
  obtain ⟨_, its2, n2, r2, e2⟩ := hB.ok I.hok
  have g1 := r.length
  have g2 := r2.length
  refine PySem.P.add_list e e2 ?_ (by rw [List.size_toArray, List.size_toArray]; omega)
  have ea : its.toArray ++ its2.toArray = (its ++ its2).toArray := by simp
  rw [ea]
  exact ⟨.ref _, _, I.lnew (t' := s.toks) (r.append r2) (by rw [List.length_append]; omega), rfl, q _ I.fresh⟩
def fCatL : D → D → D → Prop := fun x y z => ∃ xs ys, x = .lst xs ∧ y = .lst ys ∧ xs.length + ys.length ≤ 1000000 ∧ z = .lst (xs ++ ys)
def dCatL (da db : DT nf) : DT nf := dOp fCatL da db
theorem de_catL {a b : Expr} (ha : DE X nf a da) (hb : DE X nf b db) : DE X nf (.BinOp a .Add b pos) (dCatL da db) := pe_imp (pe_fz (pe_op op_catR ha hb)) fun σ H Q h =>
  lift_op (r := fun x y H1 Q => (∃ l b xs zs, x = .ref l ∧ y = .ref b ∧ Rd H1 l (.lst xs) ∧ Rd H1 b (.lst zs) ∧ xs.length + zs.length ≤ sizeLine ∧ ∀ p, H1 p = none → (fun v H' => ∃ p u, v = .ref p ∧ H' p = some u ∧ Mut (some u) ∧ ∀ o, Q v (upd H' p (.frz o u))) (.ref p) (upd H1 p (.lst (xs ++ zs))))) (by
    rintro H v w x y z r1 r2 ⟨xs, ys, rfl, rfl, hl, rfl⟩ Q q
    cases r1 with
    | @lst a vs _ h1 rr1 =>
      cases r2 with
      | @lst b ws _ h2 rr2 =>
        refine ⟨a, b, vs, ws, rfl, rfl, h1.rd, h2.rd, by rw [rr1.length, rr2.length]; exact sz_ok hl, fun p hp => ⟨p, _, rfl, upd_same, trivial, fun o => ?_⟩⟩
        have x : Xt H (upd (upd H p (.lst (vs ++ ws))) p (.frz o (.lst (vs ++ ws)))) := xt_fz (Xt.new hp) hp
        exact q _ _ (.lst ⟨o, upd_same⟩ ((rr1.append rr2).mono x.stp)) x) σ H Q h
end
end
end DL

namespace DL
open PySem L2
section
variable [Anch] {X : Cx} {nf : Addr → Nat} {K : PySem.W.Frag}
/-! ### an own object on the way: made, its fields stored -/
def insA (K : PySem.W.Frag) (nf : Addr → Nat) (C : Addr) (fds : List (Str × D)) : OA nf where
  inv v fp H := ∃ p dx fs, v = .ref p ∧ fp = [p] ∧ H p = some (.ins C dx fs) ∧ fs.length < nf C ∧ RelF K nf H fs fds
  frame := by
    rintro v fp H H' ⟨p, dx, vs, e1, e2, hp, hl, r⟩ k st
    subst e2
    exact ⟨p, dx, vs, e1, rfl, by rw [k p (List.mem_singleton.mpr rfl)]; exact hp, hl, r.mono st⟩
  trk := by
    rintro v fp H ⟨p, dx, vs, e1, e2, hp, hl, r⟩ a m
    subst e2
    rw [List.mem_singleton.mp m]
    exact ⟨_, hp, fun z => by have := z.2; omega⟩
  nd := by
    rintro v fp H ⟨p, dx, vs, e1, e2, hp, hl, r⟩
    subst e2
    simp
section
variable {CX : CXT} {k n : Nat} {f C : Addr} {fd : FuncData} {ps : List Str} {S : SpD nf} {dvs : List V} {dds : List D} {ds : List Value} {E : XK} {x m : Str} {p pos apos : Pos} {e o : Expr} {es : List Expr} {r : DM nf} {da : DT nf}
def dMake (K : PySem.W.Frag) (n : Nat) (C : Addr) (S : SpD nf) (dds : List D) (r : DM nf) : DT nf := fun env Q => r env fun ads env1 => ads.length + dds.length + 1 = n ∧ 0 < nf C ∧ (slotsOf (ads ++ dds.map AD.v)).Nodup ∧ (∀ i ∈ slotsOf (ads ++ dds.map AD.v), i < env1.length) ∧
  ∀ y, S (.ow (.ref y) (insA K nf C []) :: (ads ++ dds.map AD.v).map (resolve env1)) fun d as' => d = .non ∧ ∃ fds rest, as' = .fr (.ref y) (.obj C fds) :: rest ∧ Q (.obj C fds) (putBack env1 (ads ++ dds.map AD.v) rest)
theorem make_run {σ : St} {H : Hp} {Q : VK} {env : EV nf} {fp : List Addr} {vs : List V} {ads : List AD} {Qd : D → EV nf → Prop} (R : EnvR K nf H σ env fp) (M : ArgsM K nf H σ vs ads) (hn : ads.length + 1 = n) (h0 : 0 < nf C)
    (nd : (slotsOf ads).Nodup) (hin : ∀ i ∈ slotsOf ads, i < env.length) (s : ∀ y, S (.ow (.ref y) (insA K nf C []) :: ads.map (resolve env)) fun d as' => d = .non ∧ ∃ fds rest, as' = .fr (.ref y) (.obj C fds) :: rest ∧ Qd (.obj C fds) (putBack env ads rest))
    (k : ∀ v H' d env' fp', Rel K nf H' v d → EnvR K nf H' σ env' fp' → Ch fp H fp' H' → Qd d env' → Q v H') :
    ∀ y dx, H y = none → H dx = none → dx ≠ y → toSp K nf n S (.ref y :: vs) (upd (upd H dx (.own y)) y (.ins C dx [])) (fun v H2 => v = .non ∧ Q (.ref y) H2) E := by
  intro y dx hy hdx hne
  obtain ⟨fpa, RA, put⟩ := R.args M nd hin
  have xt : Xt H (upd (upd H dx (.own y)) y (.ins C dx [])) := fun a u e => by
    rw [upd_ne (ne_of_none e hy), upd_ne (ne_of_none e hdx)]; exact e
  have nyA : y ∉ fpa := fun z => by obtain ⟨u, e, _⟩ := RA.trk y z; rw [hy] at e; cases e
  refine ⟨by rw [List.length_cons, M.len, hn], .ow (.ref y) (insA K nf C []) :: ads.map (resolve env), [y] ++ fpa, _, by rw [List.length_cons, List.length_map, hn], .cons ⟨rfl, y, dx, [], rfl, rfl, upd_same, h0, .nil⟩ (RA.ext xt) (fun a m => by rw [List.mem_singleton.mp m]; exact nyA), s y, fun v H' d as' fp' hl r R' c q => ?_⟩
  obtain ⟨ed, fds, rest, ea, q⟩ := q
  subst ed ea
  refine ⟨rel_non r, ?_⟩
  cases R' with
  | @cons _ _ _ _ f1 f2 hs hr hd =>
    obtain ⟨e1, _, rel⟩ := hs
    subst e1
    have c1 : Ch fpa H f2 H' := ⟨fun a u e na => c.keep a u (xt a u e) fun z => by
      rcases List.mem_append.mp z with z | z
      · rw [List.mem_singleton.mp z, hy] at e; cases e
      · exact na z, fun a m => by
      rcases c.sub a (List.mem_append_right _ m) with z | z
      · rcases List.mem_append.mp z with z | z
        · rw [List.mem_singleton.mp z]; exact .inr hy
        · exact .inl z
      · exact .inr ((xt.ch (fp := fpa)).there a z), fun a e => (xt.ch (fp := fpa)).there a (c.there a e)⟩
    obtain ⟨fp2, R2, c2, _⟩ := put H' rest f2 (by rw [List.length_cons] at hl; omega) hr c1
    exact k _ H' _ _ fp2 rel R2 c2 q
theorem lift_make (hdd : ∀ H, Rels K nf H dvs dds) (σ : St) (H : Hp) (Q : VK) (h : lift K nf (dMake K n C S dds r) σ H Q) : tMake C (toSp K nf n S) dvs E (liftM K nf r) σ H Q := by
  obtain ⟨env, fp, Qd, R, h, k⟩ := h
  refine ⟨env, fp, _, R, h, fun vs H1 ads env1 fp1 r1 R1 c1 ⟨hl, h0, nd, hin, s⟩ => ?_⟩
  exact make_run R1 (r1.app id (hdd H1)) (by rw [List.length_append, List.length_map]; exact hl) h0 nd hin s fun v H' d env' fp' r' R' c' q => k v H' d env' fp' r' R' (c1.trans c') q
theorem de_make (M : Mk X.K C f) (F : FnOk X.prog X.w X.K X.mg X.base CX k f fd ps (toSp X.K nf n S)) (hr : Room (k + 1) X.A) (hg : Gl X x) (hm : X.mg x = some (.ref C)) (hb : Binds X.K fd ps ds) (hd : Vals dvs ds) (hdd : ∀ H, Rels X.K nf H dvs dds) (hx : Passes CX X E)
    (ha : DAM X nf (e :: es) r) (hdb : (x == ("__debug__" : Str)) = false := by decide) (he : starEach (e :: es) X.env = (false, eval e X.env) :: starEach es X.env := by rfl) (hpl : (backTo pos (starEach es X.env)).any (·.1) = false := by rfl) :
    DE X nf (.Call (.Name x p) (e :: es) [] pos) (dMake X.K n C S dds r) := pe_imp (pe_make M F hr hg hm hb hd hx ha hdb he hpl) (lift_make hdd)
theorem de_make0 (M : Mk X.K C f) (F : FnOk X.prog X.w X.K X.mg X.base CX k f fd ps (toSp X.K nf n S)) (hr : Room (k + 1) X.A) (hg : Gl X x) (hm : X.mg x = some (.ref C)) (hb : Binds X.K fd ps ds) (hd : Vals dvs ds) (hdd : ∀ H, Rels X.K nf H dvs dds) (hx : Passes CX X E)
    (hdb : (x == ("__debug__" : Str)) = false := by decide) : DE X nf (.Call (.Name x p) [] [] pos) (dMake X.K n C S dds mNil) := pe_imp (pe_make0 M F hr hg hm hb hd hx hdb) fun σ H Q h => by
  obtain ⟨env, fp, Qd, R, ⟨hl, h0, nd, hin, s⟩, k⟩ := h
  exact make_run (E := E) (ads := [] ++ dds.map AD.v) R ((ArgsM.nil).app id (hdd H)) (by rw [List.length_append, List.length_map]; exact hl) h0 nd hin s k
/-- self.f = e: self an object on the way -/
def sFldS (K : PySem.W.Frag) (C : Addr) (i : Nat) (m : Str) (dv : DT nf) : DTS nf := fun De env => dv env fun d env1 => ∃ v fds, env1[i]? = some (.ow v (insA K nf C fds)) ∧ fds.lookup m = none ∧ fds.length < 999 ∧
  (fds.length + 1 < nf C → De.nx (env1.set i (.ow v (insA K nf C (fds ++ [(m, d)]))))) ∧ (fds.length + 1 = nf C → De.nx (env1.set i (.fr v (.obj C (fds ++ [(m, d)])))))
theorem RelF.length : ∀ {H : Hp} {fs : List (Str × V)} {fds : List (Str × D)}, RelF K nf H fs fds → fs.length = fds.length
  | _, _, _, .nil => rfl
  | _, _, _, .cons _ r => by rw [List.length_cons, List.length_cons, RelF.length r]
theorem RelF.snoc {H : Hp} {m : Str} {v : V} {d : D} (h : Rel K nf H v d) : ∀ {fs : List (Str × V)} {fds : List (Str × D)}, RelF K nf H fs fds → fds.lookup m = none → RelF K nf H (putF m v fs) (fds ++ [(m, d)])
  | _, _, .nil, _ => .cons h .nil
  | _, _, @RelF.cons _ _ _ k v' vs d' ds h' r, e => by
    rw [List.lookup_cons] at e
    split at e
    · cases e
    · rename_i hk
      have hne : ¬ k = m := fun z => by subst z; simp at hk
      show RelF K nf H (if k = m then (k, v) :: vs else (k, v') :: putF m v vs) ((k, d') :: (ds ++ [(m, d)]))
      rw [if_neg hne]
      exact .cons h' (RelF.snoc h r e)
theorem ds_fldS {i : Nat} {value : Expr} {dv : DT nf} {pos' : Pos} (ho : PE X o (tVar i)) (hv : DE X nf value dv) (c : Cls X.K C) (hn : NoAttr X.K C m) (hs : swapsWith value (some (.Attribute o m pos')) pos.line X.env = pure false := by rfl) : DS X nf (.Assign [.Attribute o m pos'] value pos) (sFldS X.K C i m dv) :=
  ps_imp (ps_fld ho hv hs) fun E σ H ⟨env, fp, De, R, q, br⟩ => lift_run R q fun w H1 d env1 fp1 r1 R1 c1 ⟨v, fds, ei, hl0, h9, q1, q2⟩ => by
    obtain ⟨ov, fi, e1, ⟨eo, p, dx, fs, ev, ef, hp, hlt, rf⟩, sub, rep⟩ := R1.at ei
    subst eo ev ef
    have hl := rf.length
    have es : σ.set i (some (.ref p)) = σ := by
      obtain ⟨h1, h2⟩ := List.getElem?_eq_some_iff.mp e1
      rw [← h2]
      exact List.set_getElem_self h1
    have nfz : ∀ a u, H1 a = some u → Fzn nf u → a ≠ p := fun a u h f z => by
      subst z; rw [hp] at h; cases h
      have := f.2
      omega
    have stp : Stp nf H1 (upd H1 p (.ins C dx (putF m w fs))) := fun a u h f => by rw [upd_ne (nfz a u h f)]; exact h
    have kp : ∀ a u, H1 a = some u → a ∉ [p] → upd H1 p (.ins C dx (putF m w fs)) a = some u := fun a u h n => by
      rw [upd_ne (fun z => n (by rw [z]; exact List.mem_singleton.mpr rfl))]; exact h
    have ch : ∀ fp', (∀ a ∈ fp', a ∈ fp1 ∨ H1 a = none) → Ch fp1 H1 fp' (upd H1 p (.ins C dx (putF m w fs))) := fun fp' sub' => ⟨fun a u h n => by
      rw [upd_ne (fun z => n (by rw [z]; exact sub p (List.mem_singleton.mpr rfl)))]; exact h, sub', fun a h => by
      by_cases ha : a = p
      · subst ha; rw [upd_same] at h; cases h
      · rw [upd_ne ha] at h; exact h⟩
    have rf2 : RelF X.K nf (upd H1 p (.ins C dx (putF m w fs))) (putF m w fs) (fds ++ [(m, d)]) := (RelF.snoc r1 rf hl0).mono stp
    have hl2 : (putF m w fs).length = fds.length + 1 := by rw [rf2.length, List.length_append]; rfl
    refine ⟨_, e1, p, C, dx, fs, rfl, hp, c, hn, by omega, ?_⟩
    by_cases hm : fds.length + 1 < nf C
    · obtain ⟨fp', R', sub'⟩ := rep _ (some (.ref p)) (.ow (.ref p) (insA X.K nf C (fds ++ [(m, d)]))) [p] ⟨rfl, p, dx, _, rfl, rfl, upd_same, by omega, rf2⟩ kp (fun a m => .inl m) stp
      rw [es] at R'
      exact br.nx σ _ _ fp' (R1.re R' (ch fp' sub')) (c1.trans (ch fp' sub')) (q1 hm)
    · have hm' : fds.length + 1 = nf C := by omega
      obtain ⟨fp', R', sub'⟩ := rep _ (some (.ref p)) (.fr (.ref p) (.obj C (fds ++ [(m, d)]))) [] ⟨rfl, rfl, .obj upd_same (by omega) (by omega) rf2⟩ kp (fun a m => by cases m) stp
      rw [es] at R'
      exact br.nx σ _ _ fp' (R1.re R' (ch fp' sub')) (c1.trans (ch fp' sub')) (q2 hm')
end
/-! ### own operators -/
open PySem.W PySem.Calls PyProof.Rows in
theorem binT_looks {prog : Program} {w : World} {A : Around} {E : Value → Shared → Prop} {s : Shared} {K : Frag} {x C L f : Addr} {h₀ : Heap} {m : Str → Option Value} {ox : Obj} {od : Option Obj} {T : String} {op : Operator} {b : Value} {fo ro rc : Option Value} {Q : Value → Shared → Prop} (F : Fr h₀ L s.heap m) (X₀ : K.In h₀) (I : InstAt s.heap x ox C od) (hb : Looks (model prog w) s.heap (typeOf b) (.type T)) (hc : selfFirst K C = true)
    (hs : findIn K (.ref C) (PySem.dunder op.info.2) = some (some (.ref f))) (hf : isFn K (.ref f) = true) (hr : findIn K (.ref C) (dunderR op.info.2) = some rc) (hp : rc = none ∨ ∃ g : Addr, rc = some (.ref g))
    (h1 : findIn K (.type T) (PySem.dunder op.info.2) = some fo) (h2 : findIn K (.type T) (dunderR op.info.2) = some ro) (hsub : subIn K (.type T) (.ref C) = some false)
    (h : wpAny (model prog w) A (call (.ref f) [.ref x, b]) (PySem.W.CmpBack Q) E s) : wpAny (model prog w) A (binaryOp op (.ref x) b) Q E s := by
  have X := X₀.keeps F.keep
  obtain ⟨cd, rest, hcd, hm⟩ := ksp_first hc
  rcases hi : op.info with ⟨sym, nm'⟩
  rw [hi] at hs hr h1 h2
  dsimp only at hs hr h1 h2
  have one := ksp_try X I hs hf h
  obtain ⟨hh, g, d, tt, os⟩ := s
  have L1 : Looks (model prog w) hh (typeOf (.ref x)) (.ref C) := I.type
  have L2 : Looks (model prog w) hh (typeOf b) (.type T) := hb
  have L3 : Looks (model prog w) hh (fillsNumberSlot (.ref C) nm') true := fills_K X hcd hm hs
  have L4 : Looks (model prog w) hh (fillsNumberSlot (.type T) nm') ((fo.isSome && !isSeqSlot fo) || (ro.isSome && !isSeqSlot ro)) := ksp_fillsT X h1 h2
  have L5 : Looks (model prog w) hh (isSubtype (.type T) (.ref C)) false := looks_subIn X hsub
  have L6 : Looks (model prog w) hh (numberSlotInPython (.ref C) nm') true := ksp_inPy X hs hr hp
  have L7 : Looks (model prog w) hh (numberSlotInPython (.type T) nm') false := Looks.of_pure rfl
  have L8 : Looks (model prog w) hh (typeLookup (.type T) (dunderR nm')) ro := looks_findIn X h2
  generalize ((fo.isSome && !isSeqSlot fo) || (ro.isSome && !isSeqSlot ro)) = right at L4
  have hne : (Value.ref C == Value.type T) = false := Bool.eq_false_iff.mpr fun q => by cases beq_iff_eq.mp q
  simp only [binaryOp, hi]
  refine wpAny_holding (wpAny_bind ?_)
  unfold binaryOp1
  refine wpAny_bind (L1.at (wpAny_bind (L2.at (wpAny_bind (L3.at ?_)))))
  simp only [hne, Bool.false_eq_true, if_false]
  cases right with
  | false =>
    ksp_lk
    refine wpAny_mono one (fun r s' hr' => ?_) fun _ _ e => e
    obtain ⟨v, rfl, hq⟩ := hr'
    ksp_lk
    exact hq
  | true =>
    ksp_lk
    refine wpAny_mono one (fun r s' hr' => ?_) fun _ _ e => e
    obtain ⟨v, rfl, hq⟩ := hr'
    ksp_lk
    exact hq
end
end DL

namespace DL
open PySem
section
variable {prog : Program} {w : World} {K : Type} [DecidableEq K] {knd : KeyKind prog w K} {A : Around} {E : Value → Shared → Prop} {s : Shared}
theorem wpAny_dictPut_pairs {d : Addr} {kvs : List (K × Value)} {k : K} {key v : Value} {Q : Unit → Shared → Prop} (hkey : knd.is k key = true) (hm : s.heap.DictOf knd d kvs)
    (hQ : ∀ h', h'.DictOf knd d (stored kvs k v) → Heap.SameBut d s.heap h' → Q () { s with heap := h' })
    (hsz : kvs.length ≤ sizeLine := by size_fits) :
    wpAny (model prog w) A (dictPut d (knd.hash k) key v) Q E s := by
  obtain ⟨o, es, ep, ho, hc, hd, hk, hp, hn⟩ := hm
  have hes : es.size ≤ sizeLine := by have e1 := hp.length; have e2 : es.toList.length = es.size := by simp
                                      omega
  unfold dictPut
  refine wpAny_bind (wpAny_dictFind_of hkey ho hd hk ?_)
  have hidx : (es.findIdx? fun e => knd.is k e.key) = kvs.findIdx? fun kv => decide (kv.1 = k) := by
    rw [← hp.findIdx k]; obtain ⟨l⟩ := es; simp
  cases hi : es.findIdx? fun e => knd.is k e.key with
  | some i =>
    refine (wpAny_updateDict ho hd (hQ _ ⟨_, _, ep, Heap.get?_update_self _ ho (Obj.isFreed_of_dict (Obj.data_mapDict hd _)),
      hc.mapDict _, Obj.data_mapDict hd _, hk.modify _ _, ?_, ?_⟩ (Heap.SameBut.update ..)))
    · rw [stored, if_pos (any_of_findIdx_some (hidx ▸ hi))]
      have hl : (es.toList.findIdx? fun e => knd.is k e.key) = some i := by rw [← hi]; obtain ⟨l⟩ := es; simp
      have := hp.modify hn hl v
      obtain ⟨l⟩ := es
      simpa using this
    · rw [stored, if_pos (any_of_findIdx_some (hidx ▸ hi)), keys_map_store]; exact hn
  | none =>
    have hnot : k ∉ kvs.map (·.1) := not_mem_of_findIdx_none (hidx ▸ hi)
    have hany : ¬ (kvs.any fun kv => decide (kv.1 = k)) = true := by
      rw [List.any_eq_true]; rintro ⟨kv, hkv, he⟩
      exact hnot (List.mem_map.mpr ⟨kv, hkv, of_decide_eq_true he⟩)
    refine (wpAny_updateDictKeys (hz := hes) ho hd (hQ _ ⟨_, _, ep + 1, Heap.get?_update_self _ ho (Obj.isFreed_of_dict (Obj.data_mapDictKeys hd _)),
      hc.mapDictKeys _, Obj.data_mapDictKeys hd _, hk.push hkey _, ?_, ?_⟩ (Heap.SameBut.update ..)))
    · rw [stored, if_neg hany]
      have := hp.append hkey (knd.hash k) v
      obtain ⟨l⟩ := es
      simpa using this
    · rw [stored, if_neg hany, List.map_append, List.nodup_append]
      refine ⟨hn, by simp, ?_⟩
      intro a ha b hb
      simp only [List.map_cons, List.map_nil, List.mem_singleton] at hb
      subst hb
      exact fun e => hnot (e ▸ ha)
theorem wpAny_mergeMapping {d o : Addr} {kvs more : List (K × Value)} {Q : Unit → Shared → Prop} (hdo : d ≠ o) (hoS : (o == sysModules) = false)
    (hd : s.heap.DictOf knd d kvs) (ho : s.heap.DictOf knd o more) (hkr : ∀ k v, knd.is k v = true → ∀ a, v ≠ .ref a)
    (hQ : ∀ h', h'.DictOf knd d (merged kvs more) → h'.DictOf knd o more → Heap.SameBut d s.heap h' → Q () { s with heap := h' })
    (hsz : kvs.length + more.length ≤ sizeLine := by size_fits) :
    wpAny (model prog w) A (mergeMapping d (.ref o) false) Q E s := by
  obtain ⟨od, esd, epd, hod, hcd, hdd, hkd, hpd, hnd⟩ := id hd
  obtain ⟨oo, eso, epo, hoo, hco, hdo', hko, hpo, hno⟩ := id ho
  have hlen : more.length = eso.size := by rw [← hpo.length]; simp
  unfold mergeMapping
  refine wpAny_bind (wpAny_isInstance ho.typeIs isSubtype_dict_dict ?_)
  rw [if_pos rfl]
  refine wpAny_bind (wpAny_specialOf ho.typeIs PySem.F.slot_dict_iter.lookup ?_)
  dsimp only
  simp only [beq_self_eq_true]
  refine wpAny_bind (wpAny_pure ?_)
  dsimp only
  rw [if_neg (by rw [hoS]; exact Bool.false_ne_true)]
  refine wpAny_bind (wpAny_dictEntries hod hdd ?_)
  have loop : wpAny (model prog w) A (do
      let l ← dictEntries o
      let epoch ← dictEpoch o
      forIn (List.range l.size) PUnit.unit fun i (_ : PUnit) => (do
          let l' ← dictEntries o
          match l'[i]? with
            | some e => do
              holding [e.key, e.val] (dictPut d e.hash e.key e.val)
              let ep' ← dictEpoch o
              if (ep' != epoch) = true then do
                  (unsupported "dict.changed-during-merge" : Sem PUnit)
                  pure (ForInStep.yield PUnit.unit)
                else pure (ForInStep.yield PUnit.unit)
            | _ => do
              (unsupported "dict.changed-during-merge" : Sem PUnit)
              pure (ForInStep.yield PUnit.unit) : Sem (ForInStep PUnit))
      pure ()) Q E s := by
    refine wpAny_bind (wpAny_dictEntries hoo hdo' ?_)
    refine wpAny_bind (wpAny_dictEpoch hoo hdo' ?_)
    refine wpAny_bind ?_
    rw [List.range_eq_range']
    refine wpAny_forIn_list _
      (fun rest _ s' => ∃ h' i, s' = { s with heap := h' } ∧ rest = List.range' i (eso.size - i) ∧ i ≤ eso.size ∧ h'.DictOf knd d (merged kvs (more.take i)) ∧ h'.get? o = some oo ∧ Heap.SameBut d s.heap h')
      _ ?_ ?_ _ _ ⟨s.heap, 0, rfl, by simp, Nat.zero_le _, by simpa [merged] using hd, hoo, Heap.SameBut.refl _ _⟩
    · rintro x rest b s' ⟨h', i, rfl, hr, hi, hd', hoo', hs'⟩
      have hlt : i < eso.size := by
        rcases Nat.lt_or_ge i eso.size with h | h
        · exact h
        · rw [Nat.sub_eq_zero_of_le h] at hr; simp at hr
      obtain ⟨rfl, hrest⟩ : x = i ∧ rest = List.range' (i + 1) (eso.size - (i + 1)) := by
        have e : eso.size - i = (eso.size - (i + 1)) + 1 := by omega
        rw [e, List.range'_succ] at hr
        injection hr with h1 h2
        exact ⟨h1, h2⟩
      refine wpAny_bind (wpAny_dictEntries hoo' hdo' ?_)
      rw [Array.getElem?_eq_getElem hlt]
      obtain ⟨kv, hkv⟩ : ∃ kv, more[x]? = some kv := ⟨more[x]'(by rw [hlen]; exact hlt), List.getElem?_eq_getElem _⟩
      obtain ⟨k, v⟩ := kv
      obtain ⟨hkey, hval⟩ := hpo.get? (e := eso[x]) (by simp [hlt]) hkv
      obtain ⟨k', hkey', hhash⟩ := hko eso[x] (Array.getElem_mem hlt)
      obtain rfl : k' = k := knd.inj _ _ _ hkey' hkey
      show wpAny _ _ (holding [eso[x].key, eso[x].val] (dictPut d eso[x].hash eso[x].key eso[x].val) >>= _) _ _ _
      rw [hhash, hval]
      have hmx : (merged kvs (more.take x)).length ≤ sizeLine := by
        have e1 := merged_length_le kvs (more.take x)
        have e2 : (more.take x).length ≤ more.length := by rw [List.length_take]; omega
        omega
      refine wpAny_bind (wpAny_holding (wpAny_dictPut_pairs (hsz := hmx) hkey hd' fun h'' hd'' hs'' => ?_))
      have hoo'' : h''.get? o = some oo := (hs''.2 o (Ne.symm hdo)).trans hoo'
      refine wpAny_bind (wpAny_dictEpoch hoo'' hdo' ?_)
      rw [if_neg (by simp)]
      exact wpAny_pure ⟨h'', x + 1, rfl, hrest, hlt, by rw [merged_take_succ kvs more x (k', v) hkv]; exact hd'', hoo'', hs'.trans hs''⟩
    · rintro b s' ⟨h', i, rfl, hr, hi, hd', hoo', hs'⟩
      have hin : i = eso.size := by
        rcases Nat.lt_or_ge i eso.size with h | h
        · have e : eso.size - i = (eso.size - (i + 1)) + 1 := by omega
          rw [e, List.range'_succ] at hr; exact nomatch hr
        · exact Nat.le_antisymm hi h
      refine wpAny_pure (hQ h' ?_ ⟨oo, eso, epo, hoo', hco, hdo', hko, hpo, hno⟩ hs')
      rw [hin, ← hlen, List.take_length] at hd'; exact hd'
  split
  · refine wpAny_bind (wpAny_dictEntries hoo hdo' ?_)
    refine wpAny_bind ?_
    rw [← Array.forIn_toList]
    refine wpAny_forIn_list _ (fun rest _ s' => s' = s ∧ ∀ e ∈ rest, e ∈ eso) _ ?_ ?_ _ _ ⟨rfl, fun e m => Array.mem_toList_iff.mp m⟩
    · rintro e rest b s' ⟨rfl, hm⟩
      obtain ⟨k, hk, _⟩ := hko e (hm e List.mem_cons_self)
      have nr := hkr k e.key hk
      split
      · rename_i a ea; exact absurd ea (nr a)
      · exact wpAny_pure ⟨rfl, fun e m => hm e (List.mem_cons_of_mem _ m)⟩
    · rintro b s' ⟨rfl, _⟩
      exact loop
  · exact loop
end

def mergeW (d : Addr) (m : Value) : Sem Unit :=
  (((holding [.ref d, m] (mergeMapping d m false)).onRaise fun x => do let _ ← holding [.ref d, m, x] (runValue (.builtin "proto.let_go" {}))).tryCatch fun e => do
        if ← isInstance e (.type "AttributeError") then
          rule "dict.display.not-a-mapping"; raiseError "TypeError" s!"'{← typeNameOf m}' object is not a mapping"
        throw e).onRaise fun x => do let _ ← holding [.ref d, x] (runValue (.builtin "proto.let_go" {}))
theorem display2 (va vb : Sem Value) : dictDisplay [(none, va), (none, vb)] = (do
    let d ← alloc { cls := .type "dict", data := .dict #[] }
    let m ← holding [.ref d] va
    mergeW d m
    let m2 ← holding [.ref d] vb
    mergeW d m2
    pure (.ref d)) := by
  unfold dictDisplay mergeW
  simp
open L2
section
variable [Anch] {X : Cx} {nf : Addr → Nat} {K : PySem.W.Frag}
theorem mix_noref {P : Program} {w : World} (k : Key) (v : Value) (h : (mixKind P w).is k v = true) (a : Addr) : v ≠ .ref a := by
  rcases keyIs_shape h with ⟨i, t, _, rfl⟩ | ⟨x, t, _, rfl⟩
  · exact fun z => by cases z
  · exact fun z => by cases z
theorem mergeW_run {pins : List (Addr × Obj)} {s : Shared} {σ : St} {H : Hp} {p a : Addr} {k1 k2 : List (Key × V)} {Q : Unit → Shared → Prop} (I : Inv X pins σ H s) (hp : H p = some (.dK k1)) (ha : Rd H a (.dK k2)) (hne : p ≠ a) (hz : k1.length + k2.length ≤ sizeLine)
    (h : ∀ s', Inv X pins σ (upd H p (.dK (mergeK k1 k2))) s' → Q () s') : wpAny (model X.prog X.w) X.A (mergeW p (.ref a)) Q X.xe s := by
  obtain ⟨z1, lo1, vs1, rel1, dd1⟩ := dk_of I.hok hp
  obtain ⟨z2, lo2, vs2, rel2, dd2⟩ := dk_rd I.hok ha
  unfold mergeW
  refine wpAny_onRaise (wpAny_tryCatch (wpAny_onRaise (wpAny_holding ?_)))
  refine wpAny_mergeMapping (knd := mixKind X.prog X.w) hne lo2 dd1 dd2 mix_noref (fun h' d' o' hs => ?_) (by rw [← rel1.length, ← rel2.length]; exact hz)
  have hz2 : (mergeK k1 k2).length ≤ sizeLine := Nat.le_trans (length_mergeK k2 k1) hz
  have he : ∃ q, h'.get? p = some q := let ⟨q, _, _, hq, _⟩ := d'; ⟨q, hq⟩
  exact h _ (d_write (t' := s.toks) I (by rw [hp]; exact True.intro) hs he (dk_new hz2 lo1 (rel2.merge rel1) d'))
/-- {**a, **b} -/
def tDS2 (ta tb : TE) : TE := fun σ H Q => ∀ p, H p = none → ta σ (upd H p (.dK [])) fun x H1 => H1 p = some (.dK []) ∧ ∃ a k1, x = .ref a ∧ p ≠ a ∧ Rd H1 a (.dK k1) ∧
  tb σ (upd H1 p (.dK (mergeK [] k1))) fun y H2 => H2 p = some (.dK (mergeK [] k1)) ∧ ∃ b k2, y = .ref b ∧ p ≠ b ∧ Rd H2 b (.dK k2) ∧ (mergeK [] k1).length + k2.length ≤ sizeLine ∧ Q (.ref p) (upd H2 p (.dK (mergeK (mergeK [] k1) k2)))
theorem pe_ds2 {a b : Expr} {pos : Pos} {ta tb : TE} (ha : PE X a ta) (hb : PE X b tb) : PE X (.Dict [none, none] [a, b] pos) (tDS2 ta tb) := by
  refine ⟨fun pins s σ H Q I q => ?_⟩
  rw [arm_eval_Dict]
  show wpAny _ _ (standAt pos >>= fun _ => dictDisplay [(none, do let x ← eval a X.env; standAt pos; pure x), (none, do let x ← eval b X.env; standAt pos; pure x)]) _ _ _
  rw [display2]
  have hn := I.hok.fresh (Nat.le_refl s.heap.objs.size)
  have I1 := I.laid (a := s.heap.objs.size) (o := .dK []) (h' := s.heap.push { cls := .type "dict", data := .dict #[] }) (t' := s.toks) (fun _ _ q => Heap.get?_push_of_some _ q) (Nat.le_refl _) (dk_empty s.heap I.big)
  refine wpAny_bind (wpAny_standAt (wpAny_bind (wpAny_alloc ?_)))
  refine wpAny_bind (wpAny_holding (wpAny_bind (thn (ha.run pins _ σ _ _ I1 (q _ hn)) fun v s1 ⟨x, H1, J1, rx, hp1, a1, k1, ex, n1, r1, q1⟩ => ?_)))
  subst ex
  cases rx
  refine wpAny_bind (wpAny_standAt (wpAny_pure ?_))
  have z1 := (dk_rd J1.hok r1).1
  refine wpAny_bind (mergeW_run J1 hp1 r1 n1 (by rw [List.length_nil]; omega) fun s2 J2 => ?_)
  refine wpAny_bind (wpAny_holding (wpAny_bind (thn (hb.run pins _ σ _ _ J2 q1) fun v s3 ⟨y, H3, J3, ry, hp3, b1, k2, ey, n2, r3, hz, q3⟩ => ?_)))
  subst ey
  cases ry
  refine wpAny_bind (wpAny_standAt (wpAny_pure ?_))
  refine wpAny_bind (mergeW_run J3 hp3 r3 n2 hz fun s4 J4 => ?_)
  exact wpAny_pure ⟨.ref s.heap.objs.size, _, J4, rfl, q3⟩
def mergeD (kds more : List (Key × D)) : List (Key × D) := more.foldl (fun acc kv => putD acc kv.1 kv.2) kds
theorem RelK.merge {H : Hp} : ∀ {more : List (Key × V)} {md : List (Key × D)} {kvs : List (Key × V)} {kds : List (Key × D)}, RelK K nf H more md → RelK K nf H kvs kds → RelK K nf H (mergeK kvs more) (mergeD kds md)
  | _, _, _, _, .nil, q => q
  | _, _, kvs, kds, @RelK.cons _ _ _ k v vs d ds h r, q => by
    show RelK K nf H (mergeK (putK kvs k v) vs) (mergeD (putD kds k d) ds)
    exact RelK.merge r (q.put h)
theorem mergeD_len : ∀ (more kds : List (Key × D)), (mergeD kds more).length ≤ kds.length + more.length
  | [], kds => by show kds.length ≤ kds.length + 0; omega
  | p :: r, kds => by
    have h1 := mergeD_len r (putD kds p.1 p.2)
    have h2 := putD_len kds p.1 p.2
    show (mergeD (putD kds p.1 p.2) r).length ≤ _
    rw [List.length_cons]; omega
/-- {**a, **b}, frozen -/
def dDS2 (da db : DT nf) : DT nf := fun env Q => da env fun x env1 => ∃ k1, x = .dct k1 ∧ db env1 fun y env2 => ∃ k2, y = .dct k2 ∧ k1.length + k2.length ≤ 1000000 ∧ Q (.dct (mergeD (mergeD [] k1) k2)) env2
theorem de_ds2 {a b : Expr} {pos : Pos} {da db : DT nf} (ha : DE X nf a da) (hb : DE X nf b db) : DE X nf (.Dict [none, none] [a, b] pos) (dDS2 da db) := pe_imp (pe_fz (pe_ds2 ha hb)) fun σ H Q ⟨env, fp, Qd, R, h, k⟩ p hp => by
  have x0 : Xt H (upd H p (.dK [])) := Xt.new hp
  have np : ∀ {H0 : Hp} {f : List Addr}, H0 p = none → (∃ env : EV nf, ∃ σ, EnvR X.K nf H0 σ env f) → p ∉ f := fun h0 ⟨env, σ, R⟩ m => by
    obtain ⟨u, e, _⟩ := R.trk p m
    rw [h0] at e; cases e
  have nfp := np hp ⟨env, σ, R⟩
  refine lift_run (R.ext x0) h fun v H1 d1 env1 fp1 r1 R1 c1 ⟨k1, e1, h1⟩ => ?_
  subst e1
  have hp1 : H1 p = some (.dK []) := c1.keep p _ upd_same nfp
  have nfp1 : p ∉ fp1 := fun m => by
    rcases c1.sub p m with z | z
    · exact nfp z
    · rw [upd_same] at z; cases z
  refine ⟨hp1, ?_⟩
  cases r1 with
  | @dct a ob kvs _ hq rr =>
    have na : p ≠ a := fun z => by subst z; rw [hp1] at hq; cases hq
    refine ⟨a, kvs, rfl, na, .inr ⟨ob, hq⟩, ?_⟩
    have up : ∀ {G : Hp} {u u' : HO}, G p = some u → ¬ Fzn nf u → Stp nf G (upd G p u') := fun {G u u'} hG nz b w e f => by
      by_cases hb : b = p
      · subst hb; rw [hG] at e; cases e; exact absurd f nz
      · rw [upd_ne hb]; exact e
    have up1 : Stp nf H1 (upd H1 p (.dK (mergeK [] kvs))) := up hp1 (fun z => z)
    have R1' : EnvR X.K nf (upd H1 p (.dK (mergeK [] kvs))) σ env1 fp1 := R1.frame (fun b m => upd_ne fun z => nfp1 (z ▸ m)) up1 R.2 ((x0.ch.trans c1).put hp)
    refine lift_run R1' h1 fun w H2 d2 env2 fp2 r2 R2 c2 ⟨k2, e2, hl, q⟩ => ?_
    subst e2
    have hp2 : H2 p = some (.dK (mergeK [] kvs)) := c2.keep p _ upd_same nfp1
    have nfp2 : p ∉ fp2 := fun m => by
      rcases c2.sub p m with z | z
      · exact nfp1 z
      · rw [upd_same] at z; cases z
    refine ⟨hp2, ?_⟩
    cases r2 with
    | @dct b ob2 kvs2 _ hq2 rr2 =>
      have nb : p ≠ b := fun z => by subst z; rw [hp2] at hq2; cases hq2
      have rr1 : RelK X.K nf H2 kvs k1 := (rr.mono up1).mono (c2.stp R1')
      have l1 := rr1.length
      have l2 := rr2.length
      have l3 := length_mergeK kvs []
      rw [List.length_nil] at l3
      refine ⟨b, kvs2, rfl, nb, .inr ⟨ob2, hq2⟩, Nat.le_trans (by omega) (sz_ok hl), p, _, rfl, upd_same, trivial, fun o => ?_⟩
      rw [upd_upd]
      have up2 : Stp nf H2 (upd H2 p (.frz o (.dK (mergeK (mergeK [] kvs) kvs2)))) := up hp2 (fun z => z)
      have CC : Ch fp H fp2 (upd H2 p (.frz o (.dK (mergeK (mergeK [] kvs) kvs2)))) := ?_
      · exact k _ _ _ env2 fp2 (.dct upd_same ((rr2.merge (rr1.merge .nil)).mono up2)) (R2.frame (fun b m => upd_ne fun z => nfp2 (z ▸ m)) up2 R.2 CC) CC q
      refine ⟨fun c u e n => ?_, fun c m => ?_, fun c e => ?_⟩
      · have nc : c ≠ p := ne_of_none e hp
        rw [upd_ne nc]
        refine c2.keep c u (by rw [upd_ne nc]; exact c1.keep c u (x0 c u e) n) fun m => ?_
        rcases c1.sub c m with z | z
        · exact n z
        · rw [x0 c u e] at z; cases z
      · rcases c2.sub c m with z | z
        · rcases c1.sub c z with y | y
          · exact .inl y
          · exact .inr ((x0.ch (fp := fp)).there c y)
        · have nc : c ≠ p := fun y => by subst y; rw [upd_same] at z; cases z
          rw [upd_ne nc] at z
          exact .inr ((x0.ch (fp := fp)).there c (c1.there c z))
      · have nc : c ≠ p := fun y => by subst y; rw [upd_same] at e; cases e
        rw [upd_ne nc] at e
        have e2 := c2.there c e
        rw [upd_ne nc] at e2
        exact (x0.ch (fp := fp)).there c (c1.there c e2)
end
end DL

namespace DL
open PySem L2
section
open PySem.W PySem.Calls PyProof.Rows
variable {prog : Program} {w : World} {A : Around} {E : Value → Shared → Prop} {s : Shared} {K : Frag} {x C L f g : Addr} {h₀ : Heap} {m : Str → Option Value} {ox : Obj} {od : Option Obj}
theorem dict_or_declines {a x : Addr} {Q : Value → Shared → Prop} (hT : s.TypeIs (.ref a) "dict") (hn : Looks (model prog w) s.heap (isInstance (.ref x) (.type "dict")) false) (h : Q .notImplemented s) :
    wpAny (model prog w) A (call (.builtin "dict.__or__") [.ref a, .ref x]) Q E s := by
  refine call_meetsIn PySem.F.slot_dict_or hT PySem.F.entry_dict_or (PySem.F.args_dict_or_2 _ _) (S := fun _ R s' => s' = s ∧ R (.ok (.ret .notImplemented)) s) (.of_wp fun A R s' ⟨es, hr⟩ => ?_) ⟨rfl, h⟩
  subst es
  unfold Builtin.«dict.__or__»
  have e : (Builtin.Dict.dictSlotArgs "__or__" ⟨[.ref a, .ref x], []⟩ : Sem (Value × Value)) = pure (.ref a, .ref x) := by
    unfold Builtin.Dict.dictSlotArgs Builtin.Dict.notOrdered slotArgs
    simp
  rw [e]
  simp only [pure_bind]
  show wpAny _ _ ((isInstance (.ref a) (.type "dict") <&&> isInstance (.ref x) (.type "dict")) >>= _) _ _ _
  refine wpAny_bind ?_
  show wpAny _ _ (isInstance (.ref a) (.type "dict") >>= _) _ _ _
  refine wpAny_bind (wpAny_isInstance hT isSubtype_dict_dict ?_)
  show wpAny _ _ (isInstance (.ref x) (.type "dict")) _ _ _
  refine hn.here ?_
  exact wpAny_bind (wpAny_rule (wpAny_bind (wpAny_pure (wpAny_pure ⟨_, rfl, hr⟩))))
/-- the left a dict, the right of an own class that reflects -/
theorem binR_dict {a x : Addr} {Q : Value → Shared → Prop} (F : Fr h₀ L s.heap m) (X₀ : K.In h₀) (I : InstAt s.heap x ox C od) (hT : s.TypeIs (.ref a) "dict") (hc : selfFirst K C = true)
    (hs : findIn K (.ref C) (PySem.dunder "or") = some (some (.ref f))) (hr : findIn K (.ref C) (dunderR "or") = some (some (.ref g))) (hf : isFn K (.ref g) = true) (hsub : subIn K (.ref C) (.type "dict") = some false)
    (h : wpAny (model prog w) A (call (.ref g) [.ref x, .ref a]) (PySem.W.CmpBack Q) E s) : wpAny (model prog w) A (binaryOp .BitOr (.ref a) (.ref x)) Q E s := by
  have X := X₀.keeps F.keep
  obtain ⟨cd, rest, hcd, hm⟩ := ksp_first hc
  have one := ksp_try X I hr hf h
  have two : wpAny (model prog w) A (tryMethod (.ref a) (PySem.dunder "or") (.ref x)) (fun r s' => r = none ∧ s' = s) E s :=
    wpAny_tryMethod_declines hT PySem.F.slot_dict_or (dict_or_declines hT (I.type.andThen (looks_subIn X hsub)) ⟨rfl, rfl, rfl⟩)
  have L1 : Looks (model prog w) s.heap (typeOf (.ref x)) (.ref C) := I.type
  have L3 : Looks (model prog w) s.heap (fillsNumberSlot (.ref C) "or") true := fills_K X hcd hm hs
  have L5 : Looks (model prog w) s.heap (isSubtype (.ref C) (.type "dict")) false := looks_subIn X hsub
  have hne : (Value.type "dict" == Value.ref C) = false := Bool.eq_false_iff.mpr fun q => by cases beq_iff_eq.mp q
  unfold binaryOp
  refine wpAny_holding (wpAny_bind ?_)
  show wpAny _ _ (binaryOp1 "or" _ _) _ _ _
  unfold binaryOp1
  refine wpAny_bind (wpAny_typeOf hT (wpAny_bind (L1.here (wpAny_bind (wpAny_of_eq PySem.F.fills_dict_or ?_)))))
  simp only [hne, Bool.false_eq_true, if_false]
  refine wpAny_bind (L3.here ?_)
  simp only [Bool.and_self, if_true]
  refine wpAny_bind (L5.here ?_)
  have hpy : numberSlotInPython (.type "dict") "or" = pure false := rfl
  simp only [Bool.false_eq_true, if_false, pure_bind, Bool.not_false, Bool.and_self, if_true, hpy]
  refine wpAny_bind (wpAny_mono two (fun r s' hq => ?_) fun _ _ e => e)
  obtain ⟨rfl, rfl⟩ := hq
  dsimp only
  refine wpAny_bind (wpAny_mono one (fun r s' hr' => ?_) fun _ _ e => e)
  obtain ⟨v, rfl, hq⟩ := hr'
  exact wpAny_bind (wpAny_rule (wpAny_pure (wpAny_pure hq)))
end

section
variable [Anch] {X : Cx} {nf : Addr → Nat} {K : PySem.W.Frag} {CX : CXT} {k : Nat} {f C : Addr} {fd : FuncData} {ps : List Str} {sp : Sp} {E : XK} {op : Operator}
theorem cmpBack_of {pins : List (Addr × Obj)} {σ : St} {Q : VK} {u : Value} {s' : Shared} (h : EP X pins σ Q u s') : PySem.W.CmpBack (EP X pins σ Q) u s' := by
  obtain ⟨v, H', I, r, q⟩ := id h
  cases v with
  | non => have r : u = _ := r; subst r; exact h
  | bl b => have r : u = _ := r; subst r; exact h
  | int i => obtain ⟨t, r⟩ := r; subst r; exact h
  | str i => obtain ⟨t, r⟩ := r; subst r; exact h
  | byt i => obtain ⟨t, r⟩ := r; subst r; exact h
  | flt i => obtain ⟨t, r⟩ := r; subst r; exact h
  | ref a => have r : u = _ := r; subst r; exact h
  | ty a => have r : u = _ := r; subst r; exact h
theorem rv_ref (a : Addr) : RelV (.ref a) (.ref a) := rfl
/-- an own class has the operator -/
structure OpC (K : PySem.W.Frag) (C : Addr) (nm : String) (f : Addr) : Prop where
  sf : PySem.W.selfFirst K C = true
  hs : PySem.W.findIn K (.ref C) (PySem.dunder nm) = some (some (.ref f))
  hf : PySem.W.isFn K (.ref f) = true
structure OpT (K : PySem.W.Frag) (C : Addr) (nm T : String) (rc fo ro : Option Value) : Prop where
  hr : PySem.W.findIn K (.ref C) (dunderR nm) = some rc
  hp : rc = none ∨ ∃ g : Addr, rc = some (.ref g)
  h1 : PySem.W.findIn K (.type T) (PySem.dunder nm) = some fo
  h2 : PySem.W.findIn K (.type T) (dunderR nm) = some ro
  hsub : PySem.W.subIn K (.type T) (.ref C) = some false
structure OpRd (K : PySem.W.Frag) (C : Addr) (f g : Addr) : Prop where
  sf : PySem.W.selfFirst K C = true
  hs : PySem.W.findIn K (.ref C) (PySem.dunder "or") = some (some (.ref f))
  hr : PySem.W.findIn K (.ref C) (dunderR "or") = some (some (.ref g))
  hf : PySem.W.isFn K (.ref g) = true
  hsub : PySem.W.subIn K (.ref C) (.type "dict") = some false
theorem op_own (F : FnOk X.prog X.w X.K X.mg X.base CX k f fd ps sp) (hr : Room k X.A) (hb : Binds X.K fd ps []) (hx : Passes CX X E) (o : OpC X.K C op.info.2 f) :
    OpR X (binaryOp op) (fun x y H Q => (∃ a b dx dy fs gs, x = .ref a ∧ y = .ref b ∧ H a = some (.ins C dx fs) ∧ H b = some (.ins C dy gs)) ∧ sp [x, y] H Q E) := by
  intro pins s σ H x y v u Q I rx ry ⟨⟨a, b, dx, dy, fs, gs, ex, ey, ha, hb'⟩, h⟩
  subst ex ey
  cases rx; cases ry
  obtain ⟨m, hF⟩ := I.fr
  obtain ⟨mA, O, _⟩ := ins_get I.hok ha
  obtain ⟨mB, O2, _⟩ := ins_get I.hok hb'
  obtain ⟨od, J, _⟩ := O.look
  obtain ⟨od2, J2, _⟩ := O2.look
  refine PySem.W.binop_K hF I.mod.kin J J2.type o.sf o.hs o.hf ?_
  exact wpAny_mono (run_fn F hr hb .nil hx I (.cons (rv_ref _) (.cons (rv_ref _) .nil)) h) (fun _ _ q => cmpBack_of q) fun _ _ e => e
theorem op_ownD (F : FnOk X.prog X.w X.K X.mg X.base CX k f fd ps sp) (hr : Room k X.A) (hb : Binds X.K fd ps []) (hx : Passes CX X E) {rc fo ro : Option Value} (o : OpC X.K C op.info.2 f) (t : OpT X.K C op.info.2 "dict" rc fo ro) :
    OpR X (binaryOp op) (fun x y H Q => (∃ a b dx fs kvs, x = .ref a ∧ y = .ref b ∧ H a = some (.ins C dx fs) ∧ Rd H b (.dK kvs)) ∧ sp [x, y] H Q E) := by
  intro pins s σ H x y v u Q I rx ry ⟨⟨a, b, dx, fs, kvs, ex, ey, ha, hb'⟩, h⟩
  subst ex ey
  cases rx; cases ry
  obtain ⟨m, hF⟩ := I.fr
  obtain ⟨mA, O, _⟩ := ins_get I.hok ha
  obtain ⟨od, J, _⟩ := O.look
  obtain ⟨_, _, vs, _, dd⟩ := dk_rd I.hok hb'
  obtain ⟨ob, es, ep, h1, h2, _⟩ := id dd
  refine binT_looks hF I.mod.kin J (T := "dict") ?_ o.sf o.hs o.hf t.hr t.hp t.h1 t.h2 t.hsub ?_
  · exact h2.1 ▸ (PySem.W.Looks.ld h1).andThen .now
  · exact wpAny_mono (run_fn F hr hb .nil hx I (.cons (rv_ref _) (.cons (rv_ref _) .nil)) h) (fun _ _ q => cmpBack_of q) fun _ _ e => e
theorem op_dOwn {g : Addr} (F : FnOk X.prog X.w X.K X.mg X.base CX k g fd ps sp) (hr : Room k X.A) (hb : Binds X.K fd ps []) (hx : Passes CX X E) (o : OpRd X.K C f g) :
    OpR X (binaryOp .BitOr) (fun x y H Q => (∃ a b dx fs kvs, x = .ref a ∧ y = .ref b ∧ H b = some (.ins C dx fs) ∧ Rd H a (.dK kvs)) ∧ sp [y, x] H Q E) := by
  intro pins s σ H x y v u Q I rx ry ⟨⟨a, b, dx, fs, kvs, ex, ey, ha, hb'⟩, h⟩
  subst ex ey
  cases rx; cases ry
  obtain ⟨m, hF⟩ := I.fr
  obtain ⟨mA, O, _⟩ := ins_get I.hok ha
  obtain ⟨od, J, _⟩ := O.look
  obtain ⟨_, _, vs, _, dd⟩ := dk_rd I.hok hb'
  refine binR_dict hF I.mod.kin J dd.typeIs o.sf o.hs o.hr o.hf o.hsub ?_
  exact wpAny_mono (run_fn F hr hb .nil hx I (.cons (rv_ref _) (.cons (rv_ref _) .nil)) h) (fun _ _ q => cmpBack_of q) fun _ _ e => e
/-- x op y by a method of x or of y (rev) -/
def dOwnOp (rev : Bool) (P : D → D → Prop) (S : SpD nf) (da db : DT nf) : DT nf := fun env Q => da env fun x env1 => db env1 fun y env2 => P x y ∧ S (if rev then [.fz y, .fz x] else [.fz x, .fz y]) fun d _ => Q d env2
theorem lift_own {rev : Bool} {P : D → D → Prop} {S : SpD nf} {da db : DT nf} {r : R2} (hr : ∀ H v w x y Q, Rel K nf H v x → Rel K nf H w y → P x y → toSp K nf 2 S (if rev then [w, v] else [v, w]) H Q E → r v w H Q) (σ : St) (H : Hp) (Q : VK) (h : lift K nf (dOwnOp rev P S da db) σ H Q) :
    tOp r (lift K nf da) (lift K nf db) σ H Q := by
  obtain ⟨env, fp, Qd, R, h, k⟩ := h
  refine lift_run R h fun v H1 x env1 fp1 r1 R1 c1 h1 => ?_
  refine lift_run R1 h1 fun w H2 y env2 fp2 r2 R2 c2 ⟨hP, hS⟩ => ?_
  have r1' := r1.mono (c2.stp R1)
  have pb : ∀ (x y : D) as', putBack env2 [.v x, .v y] as' = env2 := fun x y as' => by
    cases as' with
    | nil => simp [putBack]
    | cons s as' =>
      cases as' with
      | nil => simp [putBack]
      | cons s2 as2 => simp [putBack]
  refine hr H2 v w x y Q r1' r2 hP ?_
  cases rev with
  | false => exact sp_run (ads := [.v x, .v y]) R2 (.val r1' (.val r2 .nil)) rfl List.nodup_nil (fun i m => by cases m) (by simp only [pb]; exact hS) fun u H3 d env3 fp3 r3 R3 c3 q => k u H3 d env3 fp3 r3 R3 ((c1.trans c2).trans c3) q
  | true => exact sp_run (ads := [.v y, .v x]) R2 (.val r2 (.val r1' .nil)) rfl List.nodup_nil (fun i m => by cases m) (by simp only [pb]; exact hS) fun u H3 d env3 fp3 r3 R3 c3 q => k u H3 d env3 fp3 r3 R3 ((c1.trans c2).trans c3) q
def isO (C : Addr) (d : D) : Prop := ∃ fs, d = .obj C fs
def isDct (d : D) : Prop := ∃ ks, d = .dct ks
variable {a b : Expr} {pos : Pos} {da db : DT nf} {S : SpD nf}
theorem de_own (F : FnOk X.prog X.w X.K X.mg X.base CX k f fd ps (toSp X.K nf 2 S)) (hr : Room k X.A) (hb : Binds X.K fd ps []) (hx : Passes CX X E) (o : OpC X.K C op.info.2 f) (ha : DE X nf a da) (hb' : DE X nf b db) :
    DE X nf (.BinOp a op b pos) (dOwnOp false (fun x y => isO C x ∧ isO C y) S da db) := pe_imp (pe_op (op_own F hr hb hx o) ha hb') (lift_own fun H v w x y Q r1 r2 ⟨⟨fs, e1⟩, ⟨gs, e2⟩⟩ h => by
  subst e1 e2
  cases r1 with
  | obj h1 _ _ _ =>
    cases r2 with
    | obj h2 _ _ _ => exact ⟨⟨_, _, _, _, _, _, rfl, rfl, h1, h2⟩, h⟩)
theorem de_ownD (F : FnOk X.prog X.w X.K X.mg X.base CX k f fd ps (toSp X.K nf 2 S)) (hr : Room k X.A) (hb : Binds X.K fd ps []) (hx : Passes CX X E) {rc fo ro : Option Value} (o : OpC X.K C op.info.2 f) (t : OpT X.K C op.info.2 "dict" rc fo ro) (ha : DE X nf a da) (hb' : DE X nf b db) :
    DE X nf (.BinOp a op b pos) (dOwnOp false (fun x y => isO C x ∧ isDct y) S da db) := pe_imp (pe_op (op_ownD F hr hb hx o t) ha hb') (lift_own fun H v w x y Q r1 r2 ⟨⟨fs, e1⟩, ⟨gs, e2⟩⟩ h => by
  subst e1 e2
  cases r1 with
  | obj h1 _ _ _ =>
    cases r2 with
    | dct h2 _ => exact ⟨⟨_, _, _, _, _, rfl, rfl, h1, .inr ⟨_, h2⟩⟩, h⟩)
theorem de_dOwn {g : Addr} (F : FnOk X.prog X.w X.K X.mg X.base CX k g fd ps (toSp X.K nf 2 S)) (hr : Room k X.A) (hb : Binds X.K fd ps []) (hx : Passes CX X E) (o : OpRd X.K C f g) (ha : DE X nf a da) (hb' : DE X nf b db) :
    DE X nf (.BinOp a .BitOr b pos) (dOwnOp true (fun x y => isDct x ∧ isO C y) S da db) := pe_imp (pe_op (op_dOwn F hr hb hx o) ha hb') (lift_own fun H v w x y Q r1 r2 ⟨⟨fs, e1⟩, ⟨gs, e2⟩⟩ h => by
  subst e1 e2
  cases r1 with
  | dct h1 _ =>
    cases r2 with
    | obj h2 _ _ _ => exact ⟨⟨_, _, _, _, _, rfl, rfl, h2, .inr ⟨_, h1⟩⟩, h⟩)
end
end DL

namespace DL
open PySem L2
section
variable [Anch] {X : Cx} {nf : Addr → Nat} {K : PySem.W.Frag}
/-- {} , frozen -/
def dD0 : DT nf := fun env Q => Q (.dct []) env
theorem de_d0 {pos : Pos} : DE X nf (.Dict [] [] pos) dD0 := pe_imp (pe_fz pe_dnewK) fun σ H Q ⟨env, fp, Qd, R, q, k⟩ p hp => ⟨p, _, rfl, upd_same, trivial, fun o => by
  have x : Xt H (upd (upd H p (.dK [])) p (.frz o (.dK []))) := xt_fz (Xt.new hp) hp
  exact k _ _ _ env fp (.dct upd_same .nil) (R.ext x) x.ch q⟩
/-! names of the module, of the builtins -/
theorem de_gint {x : Str} {i : Int} {t : _} {pos : Pos} (hg : Gl X x) (hm : X.mg x = some (.int i t)) (hd : (x == ("__debug__" : Str)) = false := by decide) : DE X nf (.Name x pos) (dC (.int i)) := de_c (v := .int i) (pe_glob hg hm ⟨t, rfl⟩ hd) fun _ => .int i
theorem de_gstr {x : Str} {i : Str} {t : _} {pos : Pos} (hg : Gl X x) (hm : X.mg x = some (.str i t)) (hd : (x == ("__debug__" : Str)) = false := by decide) : DE X nf (.Name x pos) (dC (.str i)) := de_c (v := .str i) (pe_glob hg hm ⟨t, rfl⟩ hd) fun _ => .str i
theorem de_gref {x : Str} {a : Addr} {pos : Pos} (hg : Gl X x) (hm : X.mg x = some (.ref a)) (hd : (x == ("__debug__" : Str)) = false := by decide) : DE X nf (.Name x pos) (dC (.cls a)) := de_c (v := .ref a) (pe_glob hg hm rfl hd) fun _ => .cls a
theorem de_bty {x : Str} {T : String} {pos : Pos} (hg : Gl X x) (hm : X.mg x = none) (hv : bootBuiltins x = some (.type T)) (hn : x ≠ "__name__" := by decide) (hd : (x == ("__debug__" : Str)) = false := by decide) : DE X nf (.Name x pos) (dC (.ty T)) :=
  de_c (v := .ty T) (pe_bltn hg hm hv rfl hn hd) fun _ => .ty T
theorem de_gany {x : Str} {p : Addr} {d : D} {pos : Pos} (hg : Gl X x) (hm : X.mg x = some (.ref p)) (r : ∀ H, Rel X.K nf H (.ref p) d) (hd : (x == ("__debug__" : Str)) = false := by decide) : DE X nf (.Name x pos) (dC d) := de_c (v := .ref p) (pe_glob hg hm rfl hd) r
/-! list(d.items()) -/
def rItemsR : V → Hp → VK → Prop := fun x H Q => ∃ (d : Addr) (kvs : List (Key × V)), x = .ref d ∧ Rd H d (.dK kvs) ∧
  ∀ (H' : Hp) (p : Addr) (ts : List Addr), (∀ b o, H b = some o → H' b = some o) → H p = none → (∀ t ∈ ts, H t = none) → p ∉ ts → H' p = some (.lst (ts.map V.ref)) → Paired (fun (t : Addr) (q : Key × V) => H' t = some (.tup [kV q.1, q.2])) ts kvs → Q (.ref p) H'
open LiI PyProof.Rows PySem.Spec in
theorem pe_listItemsR {e : Expr} {te : TE} {p apos cpos pos : Pos} (hc : X.calm = true) (he : PE X e te) (hg : Gl X "list") (hm : X.mg "list" = none) (hbase : attributeBase e "items" X.env (eval e X.env) = eval e X.env := by rfl) (hline : (apos.endLine == cpos.line) = true := by rfl)
    (hs : starEach [.Call (.Attribute e "items" apos) [] [] cpos] X.env = (false, eval (.Call (.Attribute e "items" apos) [] [] cpos) X.env) :: starEach [] X.env := by rfl) :
    PE X (.Call (.Name "list" p) [.Call (.Attribute e "items" apos) [] [] cpos] [] pos) (fun σ H Q => te σ H fun x H1 => rItemsR x H1 Q) := by
  refine ⟨fun pins s σ H Q I hq => ?_⟩
  refine wpAny_Call_Name_kw (ld_blt I hg hm (by decide +kernel : bootBuiltins "list" = some (.type "list")) ?_)
  refine PyProof.Rows.callWith_type1 ?_ hs rfl
  rw [hs]
  show wpAny _ _ (spliced ((false, eval (.Call (.Attribute e "items" apos) [] [] cpos) X.env) :: backTo pos (starEach [] X.env))) _ _ s
  refine Calls.spliced_cons ?_
  refine wpAny_Call_method (T := "dict") (id := "dict.items") hbase rfl hline F.plainAttrs_dict F.slot_dict_items F.type_dict_items (thn (he.run pins s σ H _ I hq) fun u s1 ⟨x, H1, I1, rx, d, kvs, ex, hd, q⟩ => ?_)
  subst ex
  obtain rfl : u = Value.ref d := rx
  obtain ⟨hz, hs0, vs, kv, hdo⟩ := dk_rd I1.hok hd
  obtain ⟨ep, hat⟩ := hdo.dictAt
  have lk : kvs.length = vs.length := Paired.length kv
  have I2 : Inv X pins σ H1 { s1 with heap := s1.heap.push { cls := .type "dict_items", data := .fields #[.ref d] } } := I1.kept (t' := s1.toks) fun b ob q => Heap.get?_push_of_some _ q
  refine ⟨hdo.typeIs, hdo.mapOf.noDict, ?_⟩
  show wpAny _ _ (callWith cpos (.builtin "dict.items") [.ref d] [] []) _ X.xe s1
  refine method_meetsIn F.slot_dict_items F.entry_dict_items rfl (PySem.evalArgs_none ⟨rfl, hdo.typeIs, F.args_dict_items_1 _, _, meets_dict_items (mixKind X.prog X.w) d hs0, ⟨vs, hdo⟩, ?_⟩)
  refine Calls.spliced_nil ?_
  refine PySem.W.kdx_call (knd := mixKind X.prog X.w) (kvs := vs) (ep := ep) (I1.ok.hd hc) ⟨_, Heap.get?_push_size _ rfl, rfl, rfl⟩ (hat.push _) (by omega) fun h' tk acc c as hk hS hl hG hacc => ?_
  obtain ⟨H', k1, k2, k3, k4, k5, k6, J⟩ := items_laid (tk := tk) I2 hz kv hk hS hl hG hacc
  exact ⟨.ref _, H', J, rfl, q H' _ as k1 k2 k3 k4 k5 k6⟩
def dItems (da : DT nf) : DT nf := fun env Q => da env fun x env1 => ∃ kds, x = .dct kds ∧ Q (.lst (kds.map fun p => .tup [kD p.1, p.2])) env1
theorem rels_items {H : Hp} : ∀ {ts : List Addr} {kvs : List (Key × V)} {kds : List (Key × D)}, Paired (fun (t : Addr) (q : Key × V) => H t = some (.tup [kV q.1, q.2])) ts kvs → RelK K nf H kvs kds → Rels K nf H (ts.map V.ref) (kds.map fun p => .tup [kD p.1, p.2])
  | _, _, _, .nil, .nil => .nil
  | _, _, _, .cons h t, .cons r rr => .cons (.tup (SqT.of h) (.cons (rel_key _) (.cons r .nil))) (rels_items t rr)
theorem de_items {e : Expr} {da : DT nf} {p apos cpos pos : Pos} (hc : X.calm = true) (he : DE X nf e da) (hg : Gl X "list") (hm : X.mg "list" = none) (hbase : attributeBase e "items" X.env (eval e X.env) = eval e X.env := by rfl) (hline : (apos.endLine == cpos.line) = true := by rfl)
    (hs : starEach [.Call (.Attribute e "items" apos) [] [] cpos] X.env = (false, eval (.Call (.Attribute e "items" apos) [] [] cpos) X.env) :: starEach [] X.env := by rfl) :
    DE X nf (.Call (.Name "list" p) [.Call (.Attribute e "items" apos) [] [] cpos] [] pos) (dItems da) := pe_imp (pe_fz (pe_listItemsR hc he hg hm hbase hline hs)) fun σ H Q ⟨env, fp, Qd, R, h, k⟩ =>
  lift_run R h fun v H1 x env1 fp1 r1 R1 c1 ⟨kds, e, q⟩ => by
    subst e
    cases r1 with
    | @dct a ob kvs _ ha rr =>
      refine ⟨a, kvs, rfl, .inr ⟨ob, ha⟩, fun H' p ts xt hp hts npt hp' hpd => ⟨p, _, rfl, hp', trivial, fun o => ?_⟩⟩
      have xt' : Xt H1 H' := xt
      have x2 : Xt H1 (upd H' p (.frz o (.lst (ts.map V.ref)))) := xt_fz xt' hp
      have st : Stp nf H' (upd H' p (.frz o (.lst (ts.map V.ref)))) := fun b u e f => by
        by_cases hb : b = p
        · subst hb; rw [hp'] at e; cases e; exact f.elim
        · rw [upd_ne hb]; exact e
      refine k _ _ _ env1 fp1 (.lst ⟨o, upd_same⟩ ((rels_items hpd (rr.mono xt'.stp)).mono st)) (R1.ext x2) (c1.trans x2.ch) q
/-! dicts that are equal -/
theorem op_eqDR (hu : X.A.units < cLine) : OpR X (compareOp .Eq) (fun x y H Q => ∃ a b ks ls, x = .ref a ∧ y = .ref b ∧ Rd H a (.dK ks) ∧ Rd H b (.dK ls) ∧ ks.length = ls.length ∧ (∀ p ∈ ks, valV ls p.1 = some p.2 ∧ flatB p.2 = true) ∧ Q (.bl true) H) := by
  intro pins s σ H x y v u Q I rx ry h
  obtain ⟨a, b, ks, ls, rfl, rfl, ea, eb, hlen, hp, q⟩ := h
  obtain rfl : v = Value.ref a := rx
  obtain rfl : u = Value.ref b := ry
  obtain ⟨_, ya, va, ra, da⟩ := dk_rd I.hok ea
  obtain ⟨_, yb, vb, rb, db⟩ := dk_rd I.hok eb
  have hl : va.length = vb.length := by rw [← ra.length, ← rb.length]; exact hlen
  exact PySem.W.keq_eq (knd := mixKind X.prog X.w) (r := true) ya yb da db hu (fun _ => hits_all rb ra hp) (fin_bl I q (by simp [hl]))
theorem op_neDR (hu : X.A.units < cLine) : OpR X (compareOp .NotEq) (fun x y H Q => ∃ a b ks ls, x = .ref a ∧ y = .ref b ∧ Rd H a (.dK ks) ∧ Rd H b (.dK ls) ∧ ks.length = ls.length ∧ (∀ p ∈ ks, valV ls p.1 = some p.2 ∧ flatB p.2 = true) ∧ Q (.bl false) H) := by
  intro pins s σ H x y v u Q I rx ry h
  obtain ⟨a, b, ks, ls, rfl, rfl, ea, eb, hlen, hp, q⟩ := h
  obtain rfl : v = Value.ref a := rx
  obtain rfl : u = Value.ref b := ry
  obtain ⟨_, ya, va, ra, da⟩ := dk_rd I.hok ea
  obtain ⟨_, yb, vb, rb, db⟩ := dk_rd I.hok eb
  have hl : va.length = vb.length := by rw [← ra.length, ← rb.length]; exact hlen
  exact PySem.W.keq_ne (knd := mixKind X.prog X.w) (r := true) ya yb da db hu (fun _ => hits_all rb ra hp) (fin_bl I q (by simp [hl]))
def sameDct (ks ls : List (Key × D)) : Prop := ks.length = ls.length ∧ ∀ p ∈ ks, ∃ v, flatD p.2 = some v ∧ (valD ls p.1).bind flatD = some v
def fEqDct (r : Bool) : D → D → D → Prop := fun x y z => ∃ ks ls, x = .dct ks ∧ y = .dct ls ∧ sameDct ks ls ∧ z = .bl r
theorem flatB_of {v : V} (h : flatV v = true) : flatB v = true := by cases v <;> simp_all [flatV, flatB]
theorem same_of {H : Hp} {ks ls : List (Key × D)} {kvs lvs : List (Key × V)} (hk : RelK K nf H kvs ks) (hl : RelK K nf H lvs ls) (s : ∀ p ∈ ks, ∃ v, flatD p.2 = some v ∧ (valD ls p.1).bind flatD = some v) : ∀ p ∈ kvs, valV lvs p.1 = some p.2 ∧ flatB p.2 = true := by
  intro p m
  obtain ⟨i, hi, e⟩ := List.mem_iff_getElem.mp m
  obtain ⟨d, ed, r⟩ := hk.getV (i := i) (k := p.1) (v := p.2) (by rw [List.getElem?_eq_getElem hi, e])
  obtain ⟨v, e1, e2⟩ := s (p.1, d) (List.mem_of_getElem? ed)
  obtain ⟨ev, fv⟩ := flat_of r e1
  cases q : valD ls p.1 with
  | none => rw [q] at e2; cases e2
  | some d2 =>
    rw [q] at e2
    obtain ⟨w, ew, rw2⟩ := hl.val q
    obtain ⟨ev2, _⟩ := flat_of rw2 e2
    refine ⟨?_, flatB_of fv⟩
    rw [ew, ev2, ev]
theorem od_eqDct : OpD K nf (fun x y H Q => ∃ a b ks ls, x = .ref a ∧ y = .ref b ∧ Rd H a (.dK ks) ∧ Rd H b (.dK ls) ∧ ks.length = ls.length ∧ (∀ p ∈ ks, valV ls p.1 = some p.2 ∧ flatB p.2 = true) ∧ Q (.bl true) H) (fEqDct true) := by
  rintro H v w x y z r1 r2 ⟨ks, ls, rfl, rfl, ⟨s1, s2⟩, rfl⟩ Q q
  cases r1 with
  | dct h1 rr1 =>
    cases r2 with
    | dct h2 rr2 => exact ⟨_, _, _, _, rfl, rfl, .inr ⟨_, h1⟩, .inr ⟨_, h2⟩, by rw [rr1.length, rr2.length, s1], same_of rr1 rr2 s2, q _ H (.bl true) Xt.refl⟩
theorem od_neDct : OpD K nf (fun x y H Q => ∃ a b ks ls, x = .ref a ∧ y = .ref b ∧ Rd H a (.dK ks) ∧ Rd H b (.dK ls) ∧ ks.length = ls.length ∧ (∀ p ∈ ks, valV ls p.1 = some p.2 ∧ flatB p.2 = true) ∧ Q (.bl false) H) (fEqDct false) := by
  rintro H v w x y z r1 r2 ⟨ks, ls, rfl, rfl, ⟨s1, s2⟩, rfl⟩ Q q
  cases r1 with
  | dct h1 rr1 =>
    cases r2 with
    | dct h2 rr2 => exact ⟨_, _, _, _, rfl, rfl, .inr ⟨_, h1⟩, .inr ⟨_, h2⟩, by rw [rr1.length, rr2.length, s1], same_of rr1 rr2 s2, q _ H (.bl false) Xt.refl⟩
def dEqDct (r : Bool) (da db : DT nf) : DT nf := dOp (fEqDct r) da db
variable {a b : Expr} {pos : Pos} {da db : DT nf}
theorem de_eqDct (hu : X.A.units < cLine) (ha : DE X nf a da) (hb : DE X nf b db) : DE X nf (.Compare a [.Eq] [b] pos) (dEqDct true da db) := de_cmp (op_eqDR hu) od_eqDct ha hb (nomark _)
theorem dc_eqDct (hu : X.A.units < cLine) (ha : DE X nf a da) (hb : DE X nf b db) : DC X nf (.Compare a [.Eq] [b] pos) (dBv (dEqDct true da db)) := dc_cmp (op_eqDR hu) od_eqDct ha hb (nomark _)
theorem dc_neDct (hu : X.A.units < cLine) (ha : DE X nf a da) (hb : DE X nf b db) : DC X nf (.Compare a [.NotEq] [b] pos) (dBv (dEqDct false da db)) := dc_cmp (op_neDR hu) od_neDct ha hb (nomark _)
end
end DL

namespace DL
open PySem L2
section
variable [Anch] {X : Cx} {nf : Addr → Nat} {K : PySem.W.Frag}
/-! ### defs that give back a thing of one's own -/
abbrev SpO (nf : Addr → Nat) := List (SD nf) → (SD nf → List (SD nf) → Prop) → Prop
def toSpO (K : PySem.W.Frag) (nf : Addr → Nat) (n : Nat) (S : SpO nf) : Sp := fun vs H Q _ => vs.length = n ∧ ∃ as fp Qd, as.length = n ∧ EnvL K nf H (vs.map some) as fp ∧ S as Qd ∧
  ∀ v H' s as' fi fp', as'.length = n → SlotR K nf H' (some v) fi s → EnvL K nf H' (vs.map some) as' fp' → (∀ a ∈ fi, a ∉ fp') → Ch fp H (fi ++ fp') H' → Qd s as' → Q v H'
def fnEndsO (as : List (SD nf)) (Qd : SD nf → List (SD nf) → Prop) : EndsD nf where
  nx env := BackOk as env ∧ Qd (.fz .non) (back as env)
  rt d env := BackOk as env ∧ Qd (.fz d) (back as env)
  ro v A env := BackOk as env ∧ Qd (.ow v A) (back as env)
theorem Ch.less {H H' : Hp} {fp f1 f2 : List Addr} (c : Ch fp H f1 H') (s : ∀ a ∈ f2, a ∈ f1) : Ch fp H f2 H' := ⟨c.keep, fun a m => c.sub a (s a m), c.there⟩
end
section
variable {X : Cx} {nf : Addr → Nat} {K : PySem.W.Frag}
theorem body_okO {body : List Stmt} {td : DTS nf} {N : List Str} {n : Nat} {S : SpO nf} (h : DSs X nf body td) (hn : n ≤ N.length) (hb : ∀ as Qd, as.length = n → S as Qd → td (fnEndsO as Qd) (as ++ List.replicate (N.length - n) .un))
    {vs : List V} {H : Hp} {Q : VK} {E : XK} (hs : toSpO X.K nf n S vs H Q E) : ∃ t, PSs X body t ∧ t { nx := fun _ H' => Q .non H', rt := Q } (start N vs) H := by
  obtain ⟨hv, as, fp, Qd, hl, R, s, k⟩ := hs
  refine ⟨_, h, as ++ List.replicate (N.length - n) .un, fp, fnEndsO as Qd, ⟨?_, trivial⟩, hb as Qd hl s, ?_⟩
  · have := R.pad (N.length - n)
    rw [← hv] at this ⊢
    exact this
  · refine ⟨fun σ' H' env' fp' R' c ⟨b, q⟩ => ?_, fun v d σ' H' env' fp' r R' c ⟨b, q⟩ => ?_, fun σ' H' env' fp' R' c q => q.elim, fun σ' H' env' fp' R' c q => q.elim, fun v A σ' H' env' fp' fi hi R' hn' c ⟨b, q⟩ => ?_⟩
    · obtain ⟨fq, R2, sub⟩ := EnvL.back (c.stpL (R.pad (N.length - n))) R R'.1 b
      exact k .non H' (.fz .non) _ [] fq (by rw [back_len, hl]) ⟨rfl, _, rfl, .non⟩ R2 (fun a m => by cases m) (c.less sub) q
    · obtain ⟨fq, R2, sub⟩ := EnvL.back (c.stpL (R.pad (N.length - n))) R R'.1 b
      exact k v H' (.fz d) _ [] fq (by rw [back_len, hl]) ⟨rfl, _, rfl, r⟩ R2 (fun a m => by cases m) (c.less sub) q
    · have c' : Ch fp H fp' H' := c.less fun a m => List.mem_append_right _ m
      obtain ⟨fq, R2, sub⟩ := EnvL.back (c'.stpL (R.pad (N.length - n))) R R'.1 b
      refine k v H' (.ow v A) _ fi fq (by rw [back_len, hl]) ⟨rfl, hi⟩ R2 (fun a m z => hn' a m (sub a z)) (c.less fun a m => ?_) q
      rcases List.mem_append.mp m with z | z
      · exact List.mem_append_left _ z
      · exact List.mem_append_right _ (sub a z)
end
section
variable [Anch] {X : Cx} {nf : Addr → Nat} {K : PySem.W.Frag}
/-- slot i gets a thing that stands apart from all -/
theorem EnvL.put {H : Hp} {σ : St} {env : EV nf} {fp : List Addr} (R : EnvL K nf H σ env fp) : ∀ {i : Nat} {v : V} {s : SD nf} {fi : List Addr}, i < env.length → SlotR K nf H (some v) fi s → (∀ a ∈ fi, a ∉ fp) →
    ∃ fp', EnvL K nf H (σ.set i (some v)) (env.set i s) fp' ∧ ∀ a ∈ fp', a ∈ fi ∨ a ∈ fp := by
  induction R with
  | nil => intro i v s fi h; simp at h
  | @cons o σ s0 env fp0 fq hs he hd ih =>
    intro i v s fi h hs' hn
    cases i with
    | zero =>
      refine ⟨fi ++ fq, .cons hs' he fun a m z => hn a m (List.mem_append_right _ z), fun a m => ?_⟩
      rcases List.mem_append.mp m with m | m
      · exact .inl m
      · exact .inr (List.mem_append_right _ m)
    | succ i =>
      obtain ⟨fp', R', sub⟩ := ih (i := i) (v := v) (s := s) (fi := fi) (by simpa using h) hs' fun a m z => hn a m (List.mem_append_right _ z)
      refine ⟨fp0 ++ fp', .cons hs R' fun a m z => ?_, fun a m => ?_⟩
      · rcases sub a z with q | q
        · exact hn a q (List.mem_append_left _ m)
        · exact hd a m q
      · rcases List.mem_append.mp m with m | m
        · exact .inr (List.mem_append_left _ m)
        · exact (sub a m).imp id (List.mem_append_right _)
/-- slot i is taken out -/
theorem EnvL.take {H : Hp} {σ : St} {env : EV nf} {fp : List Addr} (R : EnvL K nf H σ env fp) : ∀ {i : Nat} {v : V} {A : OA nf}, env[i]? = some (.ow v A) →
    ∃ fi fp', σ[i]? = some (some v) ∧ A.inv v fi H ∧ EnvL K nf H σ (env.set i .un) fp' ∧ (∀ a ∈ fi, a ∉ fp') ∧ ∀ a, a ∈ fi ++ fp' → a ∈ fp := by
  induction R with
  | nil => intro i v s h; simp at h
  | @cons o σ s0 env fp0 fq hs he hd ih =>
    intro i v A h
    cases i with
    | zero =>
      simp at h
      subst h
      exact ⟨fp0, [] ++ fq, by simp [hs.1], hs.2, (EnvL.cons (show SlotR K nf H o [] .un from rfl) he (fun a m => by cases m)), (fun a m z => hd a m z), fun a m => m⟩
    | succ i =>
      obtain ⟨fi, fp', e1, hi, R', hn, sub⟩ := ih (i := i) (v := v) (A := A) (by simpa using h)
      refine ⟨fi, fp0 ++ fp', by simpa using e1, hi, .cons hs R' fun a m z => hd a m (sub a (List.mem_append_right _ z)), fun a m z => ?_, fun a m => ?_⟩
      · rcases List.mem_append.mp z with z | z
        · exact hd a z (sub a (List.mem_append_left _ m))
        · exact hn a m z
      · rcases List.mem_append.mp m with m | m
        · exact List.mem_append_right _ (sub a (List.mem_append_left _ m))
        · rcases List.mem_append.mp m with m | m
          · exact List.mem_append_left _ m
          · exact List.mem_append_right _ (sub a (List.mem_append_right _ m))
/-- return x, x one's own -/
def sRetO (i : Nat) : DTS nf := fun De env => ∃ v A, env[i]? = some (.ow v A) ∧ De.ro v A (env.set i .un)
theorem ds_retO {i : Nat} {e : Expr} {pos : Pos} (h : PE X e (tVar i)) : DS X nf (.Return (some e) pos) (sRetO i) := ps_imp (ps_ret h) fun E σ H ⟨env, fp, De, R, ⟨v, A, e1, q⟩, br⟩ => by
  obtain ⟨fi, fp', e2, hi, R', hn, sub⟩ := R.1.take e1
  exact ⟨v, e2, br.ro v A σ H _ fp' fi hi (R.re R' (Ch.refl.less fun a m => sub a (List.mem_append_right _ m))) hn (Ch.refl.less sub) q⟩
/-- return [..], one's own -/
def sRetL (K : PySem.W.Frag) (r : DAs nf) : DTS nf := fun De env => r env fun xs env1 => xs.length ≤ 1000000 ∧ ∀ p, De.ro (.ref p) (lstA K nf xs) env1
theorem ds_retL {es : List Expr} {r : DAs nf} {lpos pos : Pos} (h : DA X nf es r) : DS X nf (.Return (some (.List es lpos)) pos) (sRetL X.K r) := ps_imp (ps_ret (pe_lst h)) fun E σ H ⟨env, fp, De, R, q, br⟩ =>
  ⟨env, fp, _, R, q, fun vs H1 ds env1 fp1 r1 R1 c1 ⟨hl, q1⟩ => ⟨by rw [r1.length]; exact sz_ok hl, fun p hp => by
    have x : Xt H1 (upd H1 p (.lst vs)) := Xt.new hp
    have np : p ∉ fp1 := fun m => by obtain ⟨u, e, _⟩ := R1.trk p m; rw [hp] at e; cases e
    refine br.ro (.ref p) (lstA X.K nf ds) σ _ env1 fp1 [p] ⟨p, vs, rfl, rfl, upd_same, r1.mono x.stp⟩ (R1.ext x) (fun a m z => np (by rw [List.mem_singleton.mp m] at z; exact z)) ?_ (q1 p)
    have c2 := c1.trans (x.ch (fp := fp1))
    refine ⟨c2.keep, fun a m => ?_, c2.there⟩
    rcases List.mem_append.mp m with m | m
    · rw [List.mem_singleton.mp m]; exact .inr (c1.there p hp)
    · exact c2.sub a m⟩⟩
/-- x = f(..), what comes back in slot i -/
def sCallO (n : Nat) (S : SpO nf) (dds : List D) (r : DM nf) (i : Nat) : DTS nf := fun De env => r env fun ads env1 => ads.length + dds.length = n ∧ (slotsOf (ads ++ dds.map AD.v)).Nodup ∧ (∀ i ∈ slotsOf (ads ++ dds.map AD.v), i < env1.length) ∧ i < env1.length ∧
  S ((ads ++ dds.map AD.v).map (resolve env1)) fun s as' => De.nx ((putBack env1 (ads ++ dds.map AD.v) as').set i s)
theorem spO_run {S : SpO nf} {n i : Nat} {σ : St} {H : Hp} {Q : VK} {E : XK} {env : EV nf} {fp : List Addr} {vs : List V} {ads : List AD} {Qd : EV nf → Prop} (R : EnvR K nf H σ env fp) (M : ArgsM K nf H σ vs ads) (hn : ads.length = n)
    (nd : (slotsOf ads).Nodup) (hin : ∀ i ∈ slotsOf ads, i < env.length) (hi : i < env.length) (s : S (ads.map (resolve env)) fun s as' => Qd ((putBack env ads as').set i s))
    (k : ∀ v H' env' fp', EnvR K nf H' (σ.set i (some v)) env' fp' → Ch fp H fp' H' → Qd env' → Q v H') : toSpO K nf n S vs H Q E := by
  obtain ⟨fpa, RA, put⟩ := R.args M nd hin
  refine ⟨by rw [M.len, hn], _, fpa, _, by rw [List.length_map, hn], RA, s, fun v H' s as' fi fp' hl r R' hd c q => ?_⟩
  have c' : Ch fpa H fp' H' := c.less fun a m => List.mem_append_right _ m
  obtain ⟨fp2, R2, c2, sub2, suba⟩ := put H' as' fp' (by rw [hl, hn]) R' c'
  have hdis : ∀ a ∈ fi, a ∉ fp2 := fun a m z => by
    rcases sub2 a z with q | ⟨q1, q2⟩
    · exact hd a m q
    · rcases c.sub a (List.mem_append_left _ m) with y | y
      · exact q2 y
      · obtain ⟨u, e, _⟩ := R.trk a q1
        rw [y] at e; cases e
  obtain ⟨fp3, R3, sub3⟩ := R2.1.put (i := i) (by rw [putBack_len]; exact hi) r hdis
  have CC : Ch fp H fp3 H' := ?_
  · exact k v H' _ fp3 (R.re R3 CC) CC q
  refine ⟨c2.keep, fun a m => ?_, c2.there⟩
  rcases sub3 a m with z | z
  · rcases c.sub a (List.mem_append_left _ z) with y | y
    · exact .inl (suba a y)
    · exact .inr y
  · exact c2.sub a z
section
variable {CX : CXT} {k n : Nat} {f C : Addr} {fd : FuncData} {ps : List Str} {S : SpO nf} {dvs : List V} {dds : List D} {ds : List Value} {E : XK} {x y m : Str} {p pos apos : Pos} {e o : Expr} {es : List Expr} {r : DM nf} {da : DT nf}
theorem ds_callO {i : Nat} {pos' cpos : Pos} (hN : X.N.Nodup) (hi : X.N[i]? = some y) (hy : Loc X.env.scope y) (F : FnOk X.prog X.w X.K X.mg X.base CX k f fd ps (toSpO X.K nf n S)) (hr : Room k X.A) (hg : Gl X x) (hm : X.mg x = some (.ref f)) (hk : PySem.W.keepIn X.K (.ref f) = true) (hb : Binds X.K fd ps ds) (hd : Vals dvs ds) (hdd : ∀ H, Rels X.K nf H dvs dds) (hx : Passes CX X E)
    (ha : DAM X nf (e :: es) r) (hdb : (x == ("__debug__" : Str)) = false := by decide) (he : starEach (e :: es) X.env = (false, eval e X.env) :: starEach es X.env := by rfl) (hpl : (backTo cpos (starEach es X.env)).any (·.1) = false := by rfl)
    (hs : swapsWith (.Call (.Name x p) (e :: es) [] cpos) (some (.Name y pos')) pos.line X.env = pure false := by rfl)
    (hf : X.fn y = true ∨ X.env.scope.names.lookup y = some .local := by first | exact .inl rfl | exact .inr rfl | assumption) :
    DS X nf (.Assign [.Name y pos'] (.Call (.Name x p) (e :: es) [] cpos) pos) (sCallO n S dds r i) := ps_imp (ps_set hN hi hy (pe_call F hr hg hm hk hb hd hx ha hdb he hpl) hs hf) fun E' σ H ⟨env, fp, De, R, h, br⟩ => by
  refine ⟨env, fp, _, R, h, fun vs H1 ads env1 fp1 r1 R1 c1 ⟨hl, nd, hin, hi', s⟩ => ?_⟩
  exact spO_run (i := i) R1 (r1.app id (hdd H1)) (by rw [List.length_append, List.length_map, hl]) nd hin hi' s fun v H' env' fp' R' c' q => br.nx _ H' env' fp' R' (c1.trans c') q
end
end
end DL

namespace DL
open PySem L2
section
variable [Anch] {X : Cx} {nf : Addr → Nat} {K : PySem.W.Frag}
/-- xs[i], by values, the place not below 0 -/
theorem get_list : PGet X (fun o i H Q => ∃ p xs k z, o = .ref p ∧ i = .int k ∧ SqL X.K H p xs ∧ 0 ≤ k ∧ xs[k.toNat]? = some z ∧ Q z H) := by
  intro pins s σ H o i ov iv Q I ro ri h
  obtain ⟨p, xs, k, z, rfl, rfl, hq, h0, he, q⟩ := h
  cases ro
  obtain ⟨t, rfl⟩ := ri
  obtain ⟨its, r, pl, hz⟩ := I.list hq
  obtain ⟨w, ew, rw'⟩ := r.get he
  have hl := r.length
  have hn := line63
  have hlt : k.toNat < xs.length := (List.getElem?_eq_some_iff.mp he).1
  exact wpAny_getItem_list pl.isList h0 (by omega) (by simpa using ew) ⟨z, H, I, rw', q⟩
/-! ### xs[i] = e, xs[i] += e of a slot's own list -/
theorem Rels.set {H : Hp} {v : V} {d : D} (h : Rel K nf H v d) : ∀ {vs : List V} {ds : List D} (i : Nat), Rels K nf H vs ds → Rels K nf H (vs.set i v) (ds.set i d)
  | _, _, _, .nil => .nil
  | _, _, 0, .cons _ r => .cons h r
  | _, _, i + 1, .cons h' r => .cons h' (Rels.set h i r)
def sLPut (K : PySem.W.Frag) (i : Nat) (db dv : DT nf) : DTS nf := fun De env => dv env fun d env1 => (∃ v xs, env1[i]? = some (.ow v (lstA K nf xs))) ∧ db env1 fun y env2 => ∃ v xs k j, env2[i]? = some (.ow v (lstA K nf xs)) ∧ y = .int k ∧ ixN xs.length k = some j ∧ De.nx (env2.set i (.ow v (lstA K nf (xs.set j d))))
theorem ds_lput {i : Nat} {o ix value : Expr} {db dv : DT nf} {pos pos' : Pos} (ho : PE X o (tVar i)) (hi : DE X nf ix db) (hv : DE X nf value dv) (hs : swapsWithSole [.Subscript o ix pos'] value pos.line X.env = pure false := by rfl) (hw : swappedStores [.Subscript o ix pos'] value X.env = pure none := by rfl)
    (h1 : (assignEach [.Subscript o ix pos'] X.env).map (·.2) = [assign (.Subscript o ix pos') X.env] := by rfl)
    (ha : ∀ v, assign (.Subscript o ix pos') X.env v = (do
      let ov ← holding [v] (eval o X.env)
      let iv ← holding [v, ov] (eval ix X.env)
      standAt pos'
      holding [v, ov, iv] (setItem ov iv v)
      release [v, ov, iv] []) := by intro _; rfl) :
    DS X nf (.Assign [.Subscript o ix pos'] value pos) (sLPut X.K i db dv) := ps_imp (ps_asg hv (pg_sub ho hi set_list ha) hs hw h1) fun E σ H ⟨env, fp, De, R, q, br⟩ =>
  lift_run R q fun w H1 d env1 fp1 r1 R1 c1 ⟨⟨v0, xs0, e0⟩, q1⟩ => by
    obtain ⟨p0, _, _, es0, _, _, _⟩ := R1.lstAt e0
    refine ⟨_, es0, lift_run R1 q1 fun u H2 y env2 fp2 r2 R2 c2 ⟨v, xs, k, j, e2, ek, hj, q2⟩ => ?_⟩
    obtain ⟨p, vs, ev, es, hp, rr, rep⟩ := R2.lstAt e2
    rw [es0] at es
    cases es
    subst ek
    have eu := rel_int r2
    subst eu
    obtain ⟨fp3, R3, c3⟩ := rep (vs.set j w) (xs.set j d) (Rels.set (r1.mono (c2.stp R1)) j rr)
    exact ⟨p0, vs, k, j, rfl, rfl, hp, by rw [rr.length]; exact hj, br.nx σ _ _ fp3 R3 ((c1.trans c2).trans c3) q2⟩
def sLAug (K : PySem.W.Frag) (i : Nat) (k : Int) (dv : DT nf) : DTS nf := fun De env => ∃ v xs z, env[i]? = some (.ow v (lstA K nf xs)) ∧ 0 ≤ k ∧ xs[k.toNat]? = some (.int z) ∧ dv env fun d env1 => ∃ y xs1, d = .int y ∧ env1[i]? = some (.ow v (lstA K nf xs1)) ∧ k.toNat < xs1.length ∧ De.nx (env1.set i (.ow v (lstA K nf (xs1.set k.toNat (.int (z + y))))))
theorem ds_laug {i : Nat} {k : Int} {o value : Expr} {dv : DT nf} {j} {pos pos' ipos : Pos} (ho : PE X o (tVar i)) (hv : DE X nf value dv)
    (ha : ∀ ov iv new, augStore (.Constant (.int k) j ipos) ov iv new = (do holding [new, ov, iv] (setItem ov iv new); release [new, ov, iv] []; pure .next) := by intros; rfl) :
    DS X nf (.AugAssign (.Subscript o (.Constant (.int k) j ipos) pos') .Add value pos) (sLAug X.K i k dv) := ps_imp (ps_augS ho pe_int get_list hv ip_add set_list ha) fun E σ H ⟨env, fp, De, R, ⟨v, xs, z, e0, hk, hz, q⟩, br⟩ => by
  obtain ⟨p0, vs0, ev0, es0, hp0, rr0, _⟩ := R.lstAt e0
  subst ev0
  obtain ⟨u, eu, ru⟩ := rr0.get hz
  have eu2 := rel_int ru
  subst eu2
  refine ⟨_, es0, p0, vs0, k, _, rfl, rfl, SqL.of hp0, hk, eu, lift_run R q fun w H1 d env1 fp1 r1 R1 c1 ⟨y, xs1, ed, e1, hlt, q1⟩ => ?_⟩
  subst ed
  have ew := rel_int r1
  subst ew
  obtain ⟨p, vs, ev, es, hp, rr, rep⟩ := R1.lstAt e1
  rw [es0] at es
  cases es
  obtain ⟨fp3, R3, c3⟩ := rep (vs.set k.toNat (.int (z + y))) (xs1.set k.toNat (.int (z + y))) (Rels.set (.int _) _ rr)
  refine ⟨z, y, rfl, rfl, p0, vs, k, k.toNat, rfl, rfl, hp, ?_, br.nx σ _ _ fp3 R3 (c1.trans c3) q1⟩
  unfold ixN
  rw [if_pos hk, if_pos (by rw [rr.length]; omega)]
/-! ### the state of the draws: [great numbers, x, n, seed] -/
def stA (nf : Addr → Nat) (gr : List Int) (x n sd : Int) : OA nf where
  inv v fp H := ∃ t g, v = .ref t ∧ fp = [t, g] ∧ t ≠ g ∧ H t = some (.lst [.ref g, .int x, .int n, .int sd]) ∧ H g = some (.lst (gr.map .int))
  frame := by
    rintro v fp H H' ⟨t, g, e1, e2, ne, ht, hg⟩ k st
    subst e2
    exact ⟨t, g, e1, rfl, ne, by rw [k t (by simp)]; exact ht, by rw [k g (by simp)]; exact hg⟩
  trk := by
    rintro v fp H ⟨t, g, e1, e2, ne, ht, hg⟩ a m
    subst e2
    rcases List.mem_cons.mp m with m | m
    · subst m; exact ⟨_, ht, fun z => z⟩
    · rw [List.mem_singleton.mp m]; exact ⟨_, hg, fun z => z⟩
  nd := by
    rintro v fp H ⟨t, g, e1, e2, ne, ht, hg⟩
    subst e2
    simp [ne]
theorem upd_self {H : Hp} {g : Addr} {u : HO} (h : H g = some u) : upd H g u = H := by
  funext b
  by_cases hb : b = g
  · subst hb; rw [upd_same, h]
  · rw [upd_ne hb]
theorem EnvR.stAt {H : Hp} {σ : St} {env : EV nf} {fp : List Addr} (R : EnvR K nf H σ env fp) {i : Nat} {v : V} {gr : List Int} {x n sd : Int} (e : env[i]? = some (.ow v (stA nf gr x n sd))) :
    ∃ t g, v = .ref t ∧ σ[i]? = some (some (.ref t)) ∧ t ≠ g ∧ H t = some (.lst [.ref g, .int x, .int n, .int sd]) ∧ H g = some (.lst (gr.map .int)) ∧
      ∀ gr' x' n' sd', ∃ fp', EnvR K nf (upd (upd H g (.lst (gr'.map .int))) t (.lst [.ref g, .int x', .int n', .int sd'])) σ (env.set i (.ow v (stA nf gr' x' n' sd'))) fp' ∧ Ch fp H fp' (upd (upd H g (.lst (gr'.map .int))) t (.lst [.ref g, .int x', .int n', .int sd'])) := by
  obtain ⟨o, fi, e1, ⟨eo, t, g, ev, ef, ne, ht, hg⟩, sub, rep⟩ := R.at e
  subst eo ev ef
  refine ⟨t, g, rfl, e1, ne, ht, hg, fun gr' x' n' sd' => ?_⟩
  have off : ∀ a, a ∉ [t, g] → upd (upd H g (.lst (gr'.map .int))) t (.lst [.ref g, .int x', .int n', .int sd']) a = H a := fun a m => by
    have h1 : a ≠ t := fun z => m (by simp [z])
    have h2 : a ≠ g := fun z => m (by simp [z])
    rw [upd_ne h1, upd_ne h2]
  have st : Stp nf H (upd (upd H g (.lst (gr'.map .int))) t (.lst [.ref g, .int x', .int n', .int sd'])) := fun a u h f => by
    by_cases ha : a ∈ [t, g]
    · rcases List.mem_cons.mp ha with m | m
      · subst m; rw [ht] at h; cases h; exact f.elim
      · rw [List.mem_singleton.mp m, hg] at h; cases h; exact f.elim
    · rw [off a ha]; exact h
  obtain ⟨fp', R', sub'⟩ := rep _ (some (.ref t)) (.ow (.ref t) (stA nf gr' x' n' sd')) [t, g] ⟨rfl, t, g, rfl, rfl, ne, upd_same, by rw [upd_ne (Ne.symm ne), upd_same]⟩ (fun a u h m => by rw [off a m]; exact h) (fun a m => .inl m) st
  have es : σ.set i (some (.ref t)) = σ := by
    obtain ⟨h1, h2⟩ := List.getElem?_eq_some_iff.mp e1
    rw [← h2]
    exact List.set_getElem_self h1
  rw [es] at R'
  refine R.rex R' ⟨fun a u h m => ?_, sub', fun a h => ?_⟩
  · rw [off a fun z => m (sub a z)]; exact h
  · by_cases ha : a ∈ [t, g]
    · exfalso
      rcases List.mem_cons.mp ha with m | m
      · subst m; rw [upd_same] at h; cases h
      · have m := List.mem_singleton.mp m
        subst m; rw [upd_ne (Ne.symm ne), upd_same] at h; cases h
    · rw [off a ha] at h; exact h
def stF (x n sd : Int) : Int → Option Int
  | 1 => some x | 2 => some n | 3 => some sd | _ => none
def stP (gr : List Int) (x n sd : Int) (j : Int) (z : Int) : OA nf := if j = 1 then stA nf gr z n sd else if j = 2 then stA nf gr x z sd else stA nf gr x n z
/-- s[j] -/
def dStI (i : Nat) (j : Int) : DT nf := fun env Q => ∃ v gr x n sd z, env[i]? = some (.ow v (stA nf gr x n sd)) ∧ stF x n sd j = some z ∧ Q (.int z) env
theorem stF_at {x n sd z j : Int} {g : Addr} (h : stF x n sd j = some z) : atI [V.ref g, .int x, .int n, .int sd] j = some (.int z) := by
  unfold stF at h
  split at h
  · cases h; rfl
  · cases h; rfl
  · cases h; rfl
  · cases h
theorem de_stI {i : Nat} {j : Int} {o : Expr} {q} {pos ipos : Pos} (ho : PE X o (tVar i)) (hs : PlainIx (.Constant (.int j) q ipos) := by exact fun _ _ => rfl) : DE X nf (.Subscript o (.Constant (.int j) q ipos) pos) (dStI i j) := pe_imp (pe_ix ix_list ho pe_int hs) fun σ H Q ⟨env, fp, Qd, R, ⟨v, gr, x, n, sd, z, e, hz, q⟩, k⟩ => by
  obtain ⟨t, g, ev, es, ne, ht, hg, _⟩ := R.stAt e
  exact ⟨_, es, t, _, j, .int z, rfl, rfl, SqL.of ht, stF_at hz, k _ H _ env fp (.int z) R Ch.refl q⟩
/-- s[0] != [] -/
def dStN (i : Nat) : DB nf := fun env Q => ∃ v gr x n sd, env[i]? = some (.ow v (stA nf gr x n sd)) ∧ Q (!gr.isEmpty) env
theorem dp_ints {H : Hp} : ∀ (gr : List Int), DpAll K H (gr.map V.int) (gr.map PyData.int)
  | [] => .nil
  | x :: xs => .cons (.int x) (dp_ints xs)
theorem dc_stN {i : Nat} {o : Expr} {q} {pos ipos pos2 lpos : Pos} (hu : X.A.units + 64 < cLine) (ho : PE X o (tVar i)) (hs : PlainIx (.Constant (.int 0) q ipos) := by exact fun _ _ => rfl) :
    DC X nf (.Compare (.Subscript o (.Constant (.int 0) q ipos) pos) [.NotEq] [.List [] lpos] pos2) (dStN i) := pt_imp (pt_cmpB (op_neD hu) (pe_ix ix_list ho pe_int hs) (pe_lst pa_nil) (nomark _)) fun σ H Q ⟨env, fp, Qd, R, ⟨v, gr, x, n, sd, e, q⟩, k⟩ => by
  obtain ⟨t, g, ev, es, ne, ht, hg, _⟩ := R.stAt e
  refine ⟨_, es, t, _, 0, .ref g, rfl, rfl, SqL.of ht, rfl, Nat.zero_le _, fun p hp => ?_⟩
  have xt : Xt H (upd H p (.lst [])) := Xt.new hp
  refine ⟨.list (gr.map .int), .list [], .lst (SqL.of (xt _ _ hg)) (dp_ints gr), .lst (SqL.of upd_same) .nil, PySem.W.shaped_ints gr, by decide, !gr.isEmpty, ?_, k _ _ env fp (R.ext xt) xt.ch q⟩
  cases gr <;> simp [PyData.eqv, PyData.eqvAll]
/-- s[j] = e -/
def sStS (i : Nat) (j : Int) (a : DT nf) : DTS nf := fun De env => a env fun d env1 => ∃ z v gr x n sd, d = .int z ∧ env1[i]? = some (.ow v (stA nf gr x n sd)) ∧ 1 ≤ j ∧ j ≤ 3 ∧ De.nx (env1.set i (.ow v (stP gr x n sd j z)))
theorem st_upd {H : Hp} {σ : St} {env : EV nf} {fp : List Addr} (R : EnvR K nf H σ env fp) {i : Nat} {v : V} {gr : List Int} {x n sd : Int} (e : env[i]? = some (.ow v (stA nf gr x n sd))) {j z : Int} (h1 : 1 ≤ j) (h3 : j ≤ 3) :
    ∃ t g, v = .ref t ∧ σ[i]? = some (some (.ref t)) ∧ H t = some (.lst [.ref g, .int x, .int n, .int sd]) ∧ ixN 4 j = some j.toNat ∧ ∃ fp', EnvR K nf (upd H t (.lst ([V.ref g, .int x, .int n, .int sd].set j.toNat (.int z)))) σ (env.set i (.ow v (stP gr x n sd j z))) fp' ∧
      Ch fp H fp' (upd H t (.lst ([V.ref g, .int x, .int n, .int sd].set j.toNat (.int z)))) := by
  obtain ⟨t, g, ev, es, ne, ht, hg, rep⟩ := R.stAt e
  refine ⟨t, g, ev, es, ht, ?_, ?_⟩
  · unfold ixN
    rw [if_pos (by omega), if_pos (by omega)]
  · have hj : j = 1 ∨ j = 2 ∨ j = 3 := by omega
    rcases hj with rfl | rfl | rfl
    · have := rep gr z n sd
      rw [upd_self hg] at this
      exact this
    · have := rep gr x z sd
      rw [upd_self hg] at this
      exact this
    · have := rep gr x n z
      rw [upd_self hg] at this
      exact this
theorem ds_stS {i : Nat} {j : Int} {o value : Expr} {q} {a : DT nf} {pos pos' ipos : Pos} (ho : PE X o (tVar i)) (hv : DE X nf value a) (hs : swapsWithSole [.Subscript o (.Constant (.int j) q ipos) pos'] value pos.line X.env = pure false := by rfl) (hw : swappedStores [.Subscript o (.Constant (.int j) q ipos) pos'] value X.env = pure none := by rfl)
    (h1 : (assignEach [.Subscript o (.Constant (.int j) q ipos) pos'] X.env).map (·.2) = [assign (.Subscript o (.Constant (.int j) q ipos) pos') X.env] := by rfl)
    (ha : ∀ v, assign (.Subscript o (.Constant (.int j) q ipos) pos') X.env v = (do
      let ov ← holding [v] (eval o X.env)
      let iv ← holding [v, ov] (eval (.Constant (.int j) q ipos) X.env)
      standAt pos'
      holding [v, ov, iv] (setItem ov iv v)
      release [v, ov, iv] []) := by intro _; rfl) : DS X nf (.Assign [.Subscript o (.Constant (.int j) q ipos) pos'] value pos) (sStS i j a) := ps_imp (ps_asg hv (pg_sub ho pe_int set_list ha) hs hw h1) fun E σ H ⟨env, fp, De, R, q, br⟩ =>
  lift_run R q fun w H1 d env1 fp1 r1 R1 c1 ⟨z, v, gr, x, n, sd, ed, e, h1, h3, q1⟩ => by
    subst ed
    have ew := rel_int r1
    subst ew
    obtain ⟨t, g, ev, es, ht, hix, fp2, R2, c2⟩ := st_upd R1 e (z := z) h1 h3
    exact ⟨_, es, t, _, j, j.toNat, rfl, rfl, ht, hix, br.nx σ _ _ fp2 R2 (c1.trans c2) q1⟩
/-- s[j] += e -/
def sStG (i : Nat) (j : Int) (a : DT nf) : DTS nf := fun De env => ∃ v gr x n sd y, env[i]? = some (.ow v (stA nf gr x n sd)) ∧ stF x n sd j = some y ∧ 1 ≤ j ∧ j ≤ 3 ∧ a env fun d env1 => ∃ z gr1 x1 n1 sd1, d = .int z ∧ env1[i]? = some (.ow v (stA nf gr1 x1 n1 sd1)) ∧ De.nx (env1.set i (.ow v (stP gr1 x1 n1 sd1 j (y + z))))
theorem ds_stG {i : Nat} {j : Int} {o value : Expr} {q} {a : DT nf} {pos pos' ipos : Pos} (ho : PE X o (tVar i)) (hv : DE X nf value a)
    (ha : ∀ ov iv new, augStore (.Constant (.int j) q ipos) ov iv new = (do holding [new, ov, iv] (setItem ov iv new); release [new, ov, iv] []; pure .next) := by intros; rfl) :
    DS X nf (.AugAssign (.Subscript o (.Constant (.int j) q ipos) pos') .Add value pos) (sStG i j a) := ps_imp (ps_augS ho pe_int get_list hv ip_add set_list ha) fun E σ H ⟨env, fp, De, R, ⟨v, gr, x, n, sd, y, e, hy, h1, h3, q⟩, br⟩ => by
  obtain ⟨t, g, ev, es, ne, ht, hg, _⟩ := R.stAt e
  subst ev
  have hix : [V.ref g, .int x, .int n, .int sd][j.toNat]? = some (.int y) := by
    have hj : j = 1 ∨ j = 2 ∨ j = 3 := by omega
    rcases hj with rfl | rfl | rfl <;> (simp [stF] at hy; subst hy; rfl)
  refine ⟨_, es, t, _, j, _, rfl, rfl, SqL.of ht, by omega, hix, lift_run R q fun w H1 d env1 fp1 r1 R1 c1 ⟨z, gr1, x1, n1, sd1, ed, e1, q1⟩ => ?_⟩
  subst ed
  have ew := rel_int r1
  subst ew
  obtain ⟨t1, g1, ev1, es1, ht1, hix1, fp2, R2, c2⟩ := st_upd R1 e1 (z := y + z) h1 h3
  rw [es] at es1
  cases es1
  exact ⟨y, z, rfl, rfl, t, _, j, j.toNat, rfl, rfl, ht1, hix1, br.nx σ _ _ fp2 R2 (c1.trans c2) q1⟩
/-- s[1] = s[0].pop(0) -/
def sStPop (i : Nat) : DTS nf := fun De env => ∃ v y gr x n sd, env[i]? = some (.ow v (stA nf (y :: gr) x n sd)) ∧ De.nx (env.set i (.ow v (stA nf gr y n sd)))
theorem ds_stPop {i : Nat} {o o2 : Expr} {q q2 q3} {pos pos' ipos ipos2 ipos3 spos apos cpos : Pos} (ho : PE X o (tVar i)) (ho2 : PE X o2 (tVar i))
    (hbase : attributeBase (.Subscript o2 (.Constant (.int 0) q2 ipos2) spos) "pop" X.env (eval (.Subscript o2 (.Constant (.int 0) q2 ipos2) spos) X.env) = eval (.Subscript o2 (.Constant (.int 0) q2 ipos2) spos) X.env := by rfl)
    (hfew : ((backTo cpos (starEach [.Constant (.int 0) q3 ipos3] X.env)).all (fun x => !x.1) && (backToKw cpos (keywordEach [] X.env)).all (fun x => x.1.isSome) && decide (([.Constant (.int 0) q3 ipos3] : List Expr).length + ([] : List Keyword).length + (if ([] : List Keyword).isEmpty then 0 else 1) < 30)) = true := by rfl)
    (hline : (apos.endLine == cpos.line) = true := by rfl) (hst : starEach [.Constant (.int 0) q3 ipos3] X.env = (false, eval (.Constant (.int 0) q3 ipos3) X.env) :: starEach [] X.env := by rfl) (hplain : (backTo cpos (starEach [] X.env)).any (·.1) = false := by rfl)
    (hix : PlainIx (.Constant (.int 0) q2 ipos2) := by exact fun _ _ => rfl)
    (hs : swapsWithSole [.Subscript o (.Constant (.int 1) q ipos) pos'] (.Call (.Attribute (.Subscript o2 (.Constant (.int 0) q2 ipos2) spos) "pop" apos) [.Constant (.int 0) q3 ipos3] [] cpos) pos.line X.env = pure false := by rfl)
    (hw : swappedStores [.Subscript o (.Constant (.int 1) q ipos) pos'] (.Call (.Attribute (.Subscript o2 (.Constant (.int 0) q2 ipos2) spos) "pop" apos) [.Constant (.int 0) q3 ipos3] [] cpos) X.env = pure none := by rfl)
    (h1 : (assignEach [.Subscript o (.Constant (.int 1) q ipos) pos'] X.env).map (·.2) = [assign (.Subscript o (.Constant (.int 1) q ipos) pos') X.env] := by rfl)
    (ha : ∀ v, assign (.Subscript o (.Constant (.int 1) q ipos) pos') X.env v = (do
      let ov ← holding [v] (eval o X.env)
      let iv ← holding [v, ov] (eval (.Constant (.int 1) q ipos) X.env)
      standAt pos'
      holding [v, ov, iv] (setItem ov iv v)
      release [v, ov, iv] []) := by intro _; rfl) :
    DS X nf (.Assign [.Subscript o (.Constant (.int 1) q ipos) pos'] (.Call (.Attribute (.Subscript o2 (.Constant (.int 0) q2 ipos2) spos) "pop" apos) [.Constant (.int 0) q3 ipos3] [] cpos) pos) (sStPop i) := ps_imp (ps_asg (pe_bm PySem.F.plainAttrs_list PySem.F.slot_list_pop PySem.F.type_list_pop mt_popAt (pe_ix ix_list ho2 pe_int hix) (pa_cons pe_int pa_nil hst) hbase hfew hline hst hplain) (pg_sub ho pe_int set_list ha) hs hw h1) fun E σ H ⟨env, fp, De, R, ⟨v, y, gr, x, n, sd, e, q⟩, br⟩ => by
  obtain ⟨t, g, ev, es, ne, ht, hg, rep⟩ := R.stAt e
  obtain ⟨fp', R', c'⟩ := rep gr y n sd
  refine ⟨_, es, t, _, 0, .ref g, rfl, rfl, SqL.of ht, rfl, Or.inl ⟨rfl, _, SqL.of hg⟩, g, _, 0, 0, .int y, rfl, rfl, hg, by decide, by decide, seqIndex_of (Int.le_refl 0) (by simp), rfl, ?_⟩
  refine ⟨_, es, t, _, 1, 1, rfl, rfl, by rw [upd_ne ne]; exact ht, rfl, ?_⟩
  exact br.nx σ _ _ fp' R' c' q
/-- return [great, 0, 0, seed] -/
def sRetSt (K : PySem.W.Frag) (i : Nat) (r : DAs nf) : DTS nf := fun De env => ∃ v gr, env[i]? = some (.ow v (lstA K nf (gr.map .int))) ∧ r env fun xs env1 => ∃ x n sd, xs = [.int x, .int n, .int sd] ∧ env1[i]? = some (.ow v (lstA K nf (gr.map .int))) ∧ ∀ p, De.ro (.ref p) (stA nf gr x n sd) (env1.set i .un)
theorem rels_ints {H : Hp} : ∀ {vs : List V} {gr : List Int}, Rels K nf H vs (gr.map .int) → vs = gr.map V.int
  | _, [], .nil => rfl
  | _, s :: ss, .cons h r => by cases h; rw [rels_ints r]; rfl
theorem ds_retSt {i : Nat} {o : Expr} {es : List Expr} {r : DAs nf} {lpos pos : Pos} (ho : PE X o (tVar i)) (hr : DA X nf es r)
    (hs : starEach (o :: es) X.env = (false, eval o X.env) :: starEach es X.env := by rfl) : DS X nf (.Return (some (.List (o :: es) lpos)) pos) (sRetSt X.K i r) :=
  ps_imp (ps_ret (pe_lst (pa_cons ho hr hs))) fun E σ H ⟨env, fp, De, R, ⟨v, gr, ei, q⟩, br⟩ => by
    obtain ⟨g0, vs0, ev0, es0, hg0, _, _⟩ := R.lstAt ei
    refine ⟨_, es0, env, fp, _, R, q, fun vs H1 ds env1 fp1 r1 R1 c1 ⟨x, n, sd, exs, e1, q1⟩ => ?_⟩
    subst exs
    obtain ⟨fi, fp2, e2, ⟨g, ws, ev, ef, hg, rr⟩, R2', hn, sub⟩ := R1.1.take e1
    have R2 := R1.re R2' (Ch.refl.less fun a m => sub a (List.mem_append_right _ m))
    subst ef
    rw [es0] at e2
    cases e2
    cases ev
    have ew := rels_ints rr
    subst ew
    have evs : vs = [.int x, .int n, .int sd] := rels_ints (gr := [x, n, sd]) r1
    subst evs
    refine ⟨by show 4 ≤ sizeLine; decide, fun p hp => ?_⟩
    have xt : Xt H1 (upd H1 p (.lst [.ref g0, .int x, .int n, .int sd])) := Xt.new hp
    have npg : p ≠ g0 := fun z => by subst z; rw [hp] at hg; cases hg
    have np : p ∉ fp2 := fun m => by obtain ⟨u, e, _⟩ := R2.trk p m; rw [hp] at e; cases e
    refine br.ro (.ref p) (stA nf gr x n sd) σ _ _ fp2 [p, g0] ⟨p, g0, rfl, rfl, npg, upd_same, xt _ _ hg⟩ (R2.ext xt) (fun a m z => ?_) ?_ (q1 p)
    · rcases List.mem_cons.mp m with m | m
      · subst m; exact np z
      · exact hn a m z
    · have c2 := c1.trans (xt.ch (fp := fp1))
      refine ⟨c2.keep, fun a m => ?_, c2.there⟩
      rcases List.mem_append.mp m with m | m
      · rcases List.mem_cons.mp m with m | m
        · subst m; exact .inr (c1.there a hp)
        · exact c2.sub a (sub a (List.mem_append_left _ m))
      · exact c2.sub a (sub a (List.mem_append_right _ m))
end
end DL

/-! one rule an operator, whatever the data -/
namespace DL
open PySem L2
section
variable [Anch] {X : Cx} {nf : Addr → Nat} {K : PySem.W.Frag}
/-- the answer as it is, or frozen if it is a new thing -/
def orFz (Q : VK) : VK := fun v H' => Q v H' ∨ ∃ p u, v = .ref p ∧ H' p = some u ∧ Mut (some u) ∧ ∀ o, Q v (upd H' p (.frz o u))
def tFzO (t : TE) : TE := fun σ H Q => t σ H (orFz Q)
theorem pe_fzO {e : Expr} {t : TE} (h : PE X e t) : PE X e (tFzO t) := by
  refine ⟨fun pins s σ H Q I hw => ?_⟩
  refine thn (h.run pins s σ H _ I hw) fun v s1 ⟨x, H1, I1, r, q⟩ => ?_
  rcases q with q | ⟨p, u, ex, hp, mu, q⟩
  · exact ⟨x, H1, I1, r, q⟩
  · obtain ⟨o, I2⟩ := I1.lock hp mu
    exact ⟨x, _, I2, r, q o⟩
def rFzO (r : R2) : R2 := fun x y H Q => r x y H (orFz Q)
theorem OpD.or {r r' : R2} {f f' : D → D → D → Prop} (h : OpD K nf r f) (h' : OpD K nf r' f') : OpD K nf (fun x y H Q => r x y H Q ∨ r' x y H Q) (fun x y z => f x y z ∨ f' x y z) := by
  rintro H v w x y z r1 r2 (q | q) Q k
  · exact .inl (h H v w x y z r1 r2 q Q k)
  · exact .inr (h' H v w x y z r1 r2 q Q k)
theorem OpD.imp {r : R2} {f f' : D → D → D → Prop} (h : OpD K nf r f) (i : ∀ x y z, f' x y z → f x y z) : OpD K nf r f' := fun H v w x y z r1 r2 q Q k => h H v w x y z r1 r2 (i x y z q) Q k
theorem OpD.fzO {r : R2} {f : D → D → D → Prop} (m : ∀ x y H (Q Q' : VK), (∀ v H', Q v H' → Q' v H') → r x y H Q → r x y H Q') (h : OpD K nf r f) : OpD K nf (rFzO r) f := fun H v w x y z r1 r2 q Q k => m v w H _ _ (fun _ _ z => .inl z) (h H v w x y z r1 r2 q Q k)
/-- an operation whose answer is a D by a function -/
def fF (g : D → D → Option D) : D → D → D → Prop := fun x y z => g x y = some z
def dF (g : D → D → Option D) (da db : DT nf) : DT nf := fun env Q => da env fun x env1 => db env1 fun y env2 => ∃ z, g x y = some z ∧ Q z env2
/-! ### + -/
def addD : D → D → Option D
  | .int i, .int j => some (.int (i + j))
  | .str a, .str b => if a.length + b.length ≤ 1000000 then some (.str (a ++ b)) else none
  | .lst xs, .lst ys => if xs.length + ys.length ≤ 1000000 then some (.lst (xs ++ ys)) else none
  | _, _ => none
theorem od_catR : OpD K nf (rFzO fun x y H Q => ∃ l b xs zs, x = .ref l ∧ y = .ref b ∧ Rd H l (.lst xs) ∧ Rd H b (.lst zs) ∧ xs.length + zs.length ≤ sizeLine ∧ ∀ p, H p = none → Q (.ref p) (upd H p (.lst (xs ++ zs)))) fCatL := by
  rintro H v w x y z r1 r2 ⟨xs, ys, rfl, rfl, hl, rfl⟩ Q q
  cases r1 with
  | @lst a vs _ h1 rr1 =>
    cases r2 with
    | @lst b ws _ h2 rr2 =>
      refine ⟨a, b, vs, ws, rfl, rfl, h1.rd, h2.rd, by rw [rr1.length, rr2.length]; exact sz_ok hl, fun p hp => .inr ⟨p, _, rfl, upd_same, trivial, fun o => ?_⟩⟩
      have xt : Xt H (upd (upd H p (.lst (vs ++ ws))) p (.frz o (.lst (vs ++ ws)))) := xt_fz (Xt.new hp) hp
      exact q _ _ (.lst ⟨o, upd_same⟩ ((rr1.append rr2).mono xt.stp)) xt
theorem op_addG : OpR X (binaryOp .Add) (fun x y H Q => rI0 (fun i j => .int (i + j)) x y H Q ∨ (∃ i j, x = .str i ∧ y = .str j ∧ i.length + j.length ≤ sizeLine ∧ Q (.str (i ++ j)) H) ∨
    (∃ l b xs zs, x = .ref l ∧ y = .ref b ∧ Rd H l (.lst xs) ∧ Rd H b (.lst zs) ∧ xs.length + zs.length ≤ sizeLine ∧ ∀ p, H p = none → Q (.ref p) (upd H p (.lst (xs ++ zs))))) := op_add.or (op_add_str.or op_catR)
theorem od_addG : OpD K nf (rFzO fun x y H Q => rI0 (fun i j => .int (i + j)) x y H Q ∨ (∃ i j, x = .str i ∧ y = .str j ∧ i.length + j.length ≤ sizeLine ∧ Q (.str (i ++ j)) H) ∨
    (∃ l b xs zs, x = .ref l ∧ y = .ref b ∧ Rd H l (.lst xs) ∧ Rd H b (.lst zs) ∧ xs.length + zs.length ≤ sizeLine ∧ ∀ p, H p = none → Q (.ref p) (upd H p (.lst (xs ++ zs))))) (fF addD) := by
  rintro H v w x y z r1 r2 e Q q
  have e : addD x y = some z := e
  unfold addD at e
  split at e
  · cases e
    exact .inl ⟨_, _, rel_int r1, rel_int r2, .inl (q _ H (.int _) Xt.refl)⟩
  · split at e
    · rename_i h
      cases e
      exact .inr (.inl ⟨_, _, rel_str r1, rel_str r2, sz_ok h, .inl (q _ H (.str _) Xt.refl)⟩)
    · cases e
  · split at e
    · rename_i h
      cases e
      exact .inr (.inr (od_catR H v w _ _ _ r1 r2 ⟨_, _, rfl, rfl, h, rfl⟩ Q q))
    · cases e
  · cases e
variable {a b c : Expr} {pos : Pos} {da db dc : DT nf}
theorem de_addG (ha : DE X nf a da) (hb : DE X nf b db) : DE X nf (.BinOp a .Add b pos) (dF addD da db) := pe_imp (pe_fzO (pe_op op_addG ha hb)) fun σ H Q h => lift_op od_addG σ H Q h
/-! ### x[i] -/
def ixD : D → D → Option D
  | .lst xs, .int i => atI xs i
  | .tup xs, .int i => atI xs i
  | .str s, .int i => if s.length ≤ 1000000 then (atI s.cps.toList i).map fun c => .str ⟨#[c]⟩ else none
  | .dct kds, y => (keyOf y).bind (valD kds)
  | _, _ => none
def rDG : R2 := fun x y H Q => ∃ a v, x = .ref a ∧ DGet H a y (some v) ∧ Q v H
theorem ix_dict (hu : X.A.units + 1 < cLine) : IxR X rDG := by
  intro value slice pins s σ H x y v u Q I rx ry h hs
  obtain ⟨a, z, rfl, g, q⟩ := h
  cases rx
  have h1 := d_getItem (A := X.A) (E := X.xe) (Q := EP X pins σ Q) hu I g ry fun w' s3 I3 rw' => ⟨z, H, I3, rw', q⟩
  exact PyProof.Rows.tail_any (dict_typeIs I g) PySem.F.slot_dict_getitem.lookup h1 hs
theorem ixD_of {x y z : D} (e : ixD x y = some z) : (fIxL x y z ∨ fIxT x y z ∨ fIxS x y z) ∨ fDG x y z := by
  cases x with
  | lst xs => cases y <;> simp only [ixD] at e <;> first | cases e | exact .inl (.inl ⟨_, _, rfl, rfl, e⟩)
  | tup xs => cases y <;> simp only [ixD] at e <;> first | cases e | exact .inl (.inr (.inl ⟨_, _, rfl, rfl, e⟩))
  | str s =>
    cases y with
    | int i =>
      simp only [ixD] at e
      split at e
      · rename_i h
        cases hc : atI s.cps.toList i with
        | none => rw [hc] at e; cases e
        | some c =>
          rw [hc] at e
          simp only [Option.map_some, Option.some.injEq] at e
          exact .inl (.inr (.inr ⟨_, _, c, rfl, rfl, h, hc, e.symm⟩))
      · cases e
    | _ => simp only [ixD] at e; cases e
  | dct kds =>
    simp only [ixD] at e
    cases hk : keyOf y with
    | none => rw [hk] at e; cases e
    | some k => rw [hk] at e; exact .inr ⟨_, k, rfl, hk, e⟩
  | _ => simp only [ixD] at e; cases e
theorem od_dg : OpD K nf rDG fDG := by
  rintro H v w x y z r1 r2 ⟨kds, k, rfl, e1, e2⟩ Q q
  cases r1 with
  | @dct a ob kvs _ ha rr =>
    obtain ⟨u, e3, r3⟩ := rr.val e2
    have ew := key_of r2 e1
    subst ew
    exact ⟨a, u, rfl, .inl ⟨kvs, k, .inr ⟨ob, ha⟩, rfl, e3.symm⟩, q u H r3 Xt.refl⟩
theorem od_ixG : OpD K nf (fun x y H Q => rIx K x y H Q ∨ rDG x y H Q) (fF ixD) := ((od_ixL.or (od_ixT.or od_ixS)).or od_dg).imp fun _ _ _ e => ixD_of e
theorem de_ixG (hu : X.A.units + 1 < cLine) (ha : DE X nf a da) (hb : DE X nf b db) (hs : PlainIx b := by exact fun _ _ => rfl) : DE X nf (.Subscript a b pos) (dF ixD da db) := pe_imp (pe_ix (ix_seq.or (ix_dict hu)) ha hb hs) fun σ H Q h => lift_op od_ixG σ H Q h
/-! ### in -/
def signOf (s : Str) : Option Nat := match s.cps.toList with | [c] => some c | _ => none
theorem signOf_eq {s : Str} {c : Nat} (h : signOf s = some c) : s = ⟨#[c]⟩ := by
  unfold signOf at h
  split at h
  · rename_i c' e
    cases h
    cases s with
    | mk cps => simp at e; cases cps; simp at e; subst e; rfl
  · cases h
def inD : D → D → Option Bool
  | x, .lst xs => (flatD x).bind fun v => (flatDs xs).map fun us => inV v us
  | x, .tup xs => (flatD x).bind fun v => (flatDs xs).map fun us => inV v us
  | .str x, .str s => (signOf x).map fun c => decide (c ∈ s.cps.toList)
  | x, .dct kds => (keyOf x).map fun k => (valD kds k).isSome
  | _, _ => none
def inF (neg : Bool) : D → D → Option D := fun x y => (inD x y).map fun b => .bl (if neg then !b else b)
theorem op_dIn (hu : X.A.units + 1 < cLine) : OpR X (compareOp .In) (fun y x H2 Q => ∃ a o, x = .ref a ∧ DGet H2 a y o ∧ Q (.bl o.isSome) H2) := by
  intro pins s σ H x y v u Q I rx ry h
  obtain ⟨a, o, rfl, g, q⟩ := h
  cases ry
  exact d_in hu I g rx fun s3 I3 => ⟨.bl o.isSome, H, I3, rfl, q⟩
theorem op_dNotIn (hu : X.A.units + 1 < cLine) : OpR X (compareOp .NotIn) (fun y x H2 Q => ∃ a o, x = .ref a ∧ DGet H2 a y o ∧ Q (.bl (!o.isSome)) H2) := by
  intro pins s σ H x y v u Q I rx ry h
  obtain ⟨a, o, rfl, g, q⟩ := h
  cases ry
  exact d_notIn hu I g rx fun s3 I3 => ⟨.bl (!o.isSome), H, I3, rfl, q⟩
theorem inD_of {x y : D} {b : Bool} (e : inD x y = some b) (neg : Bool) : fIn neg x y (.bl (if neg then !b else b)) ∨ (∃ (c : Nat) (s : Str), x = .str ⟨#[c]⟩ ∧ y = .str s ∧ b = decide (c ∈ s.cps.toList)) ∨ fDIn neg x y (.bl (if neg then !b else b)) := by
  cases y with
  | lst xs =>
    simp only [inD] at e
    cases h1 : flatD x with
    | none => rw [h1] at e; cases e
    | some v =>
      cases h2 : flatDs xs with
      | none => rw [h1, h2] at e; cases e
      | some us =>
        rw [h1, h2] at e
        simp only [Option.bind_some, Option.map_some, Option.some.injEq] at e
        subst e
        exact .inl ⟨xs, v, us, .inl rfl, h1, h2, rfl⟩
  | tup xs =>
    simp only [inD] at e
    cases h1 : flatD x with
    | none => rw [h1] at e; cases e
    | some v =>
      cases h2 : flatDs xs with
      | none => rw [h1, h2] at e; cases e
      | some us =>
        rw [h1, h2] at e
        simp only [Option.bind_some, Option.map_some, Option.some.injEq] at e
        subst e
        exact .inl ⟨xs, v, us, .inr rfl, h1, h2, rfl⟩
  | str s =>
    cases x with
    | str t =>
      simp only [inD] at e
      cases h : signOf t with
      | none => rw [h] at e; cases e
      | some c =>
        rw [h] at e
        simp only [Option.map_some, Option.some.injEq] at e
        have := signOf_eq h
        subst this
        exact .inr (.inl ⟨c, s, rfl, rfl, e.symm⟩)
    | _ => simp only [inD] at e; cases e
  | dct kds =>
    have e' : (keyOf x).map (fun k => (valD kds k).isSome) = some b := by
      cases x <;> simpa only [inD] using e
    cases h : keyOf x with
    | none => rw [h] at e'; cases e'
    | some k =>
      rw [h] at e'
      simp only [Option.map_some, Option.some.injEq] at e'
      subst e'
      exact .inr (.inr ⟨kds, k, rfl, h, rfl⟩)
  | _ => cases x <;> simp only [inD] at e <;> cases e
theorem od_inG : OpD K nf (fun x y H Q => rIn K false x y H Q ∨ (∃ (c : Nat) (z : Str), x = .str ⟨#[c]⟩ ∧ y = .str z ∧ Q (.bl (decide (c ∈ z.cps.toList))) H) ∨ (∃ a o, y = .ref a ∧ DGet H a x o ∧ Q (.bl o.isSome) H)) (fF (inF false)) :=
  (od_in.or (od_inS.or od_din)).imp fun x y z e => by
    have e : (inD x y).map (fun b => D.bl (if false = true then !b else b)) = some z := e
    cases h : inD x y with
    | none => rw [h] at e; cases e
    | some b =>
      rw [h] at e
      simp only [Option.map_some, Option.some.injEq] at e
      subst e
      rcases inD_of h false with q | ⟨c, s, e1, e2, e3⟩ | q
      · exact .inl q
      · exact .inr (.inl ⟨c, s, e1, e2, by rw [e3]; rfl⟩)
      · exact .inr (.inr q)
/-- not in: a text in a text is left out -/
def ninF : D → D → Option D := fun x y => match y with | .str _ => none | _ => inF true x y
theorem od_ninG : OpD K nf (fun x y H Q => rIn K true x y H Q ∨ (∃ a o, y = .ref a ∧ DGet H a x o ∧ Q (.bl (!o.isSome)) H)) (fF ninF) :=
  (od_in.or od_dnin).imp fun x y z e => by
    have e : ninF x y = some z := e
    unfold ninF at e
    split at e
    · cases e
    · rename_i hy
      have e : (inD x y).map (fun b => D.bl (if true = true then !b else b)) = some z := e
      cases h : inD x y with
      | none => rw [h] at e; cases e
      | some b =>
        rw [h] at e
        simp only [Option.map_some, Option.some.injEq] at e
        subst e
        rcases inD_of h true with q | ⟨c, s, e1, e2, e3⟩ | q
        · exact .inl q
        · exact absurd e2 (hy s)
        · exact .inr q
theorem de_inG (hu : X.A.units + 1 < cLine) (ha : DE X nf a da) (hb : DE X nf b db) (hm : behindInMarks .In b = false := by rfl) : DE X nf (.Compare a [.In] [b] pos) (dF (inF false) da db) := de_cmp (op_in_seq.or (op_in_sign.or (op_dIn hu))) od_inG ha hb hm
theorem dc_inG (hu : X.A.units + 1 < cLine) (ha : DE X nf a da) (hb : DE X nf b db) (hm : behindInMarks .In b = false := by rfl) : DC X nf (.Compare a [.In] [b] pos) (dBv (dF (inF false) da db)) := dc_cmp (op_in_seq.or (op_in_sign.or (op_dIn hu))) od_inG ha hb hm
theorem de_ninG (hu : X.A.units + 1 < cLine) (ha : DE X nf a da) (hb : DE X nf b db) (hm : behindInMarks .NotIn b = false := by rfl) : DE X nf (.Compare a [.NotIn] [b] pos) (dF ninF da db) := de_cmp (op_notIn_seq.or (op_dNotIn hu)) od_ninG ha hb hm
theorem dc_ninG (hu : X.A.units + 1 < cLine) (ha : DE X nf a da) (hb : DE X nf b db) (hm : behindInMarks .NotIn b = false := by rfl) : DC X nf (.Compare a [.NotIn] [b] pos) (dBv (dF ninF da db)) := dc_cmp (op_notIn_seq.or (op_dNotIn hu)) od_ninG ha hb hm
/-! ### ==: scalars, nested data, equal dicts -/
def eqQ (neg : Bool) : D → D → D → Prop := fun x y z => fEq neg x y z ∨ fEqD neg x y z ∨ fEqDct (!neg) x y z
def dEqG (neg : Bool) (da db : DT nf) : DT nf := dOp (eqQ neg) da db
theorem de_eqG (hu : X.A.units + 64 < cLine) (ha : DE X nf a da) (hb : DE X nf b db) : DE X nf (.Compare a [.Eq] [b] pos) (dEqG false da db) := de_cmp (op_eq.or ((op_eqD hu).or (op_eqDR (by omega)))) (od_eq.or (od_eqD.or od_eqDct)) ha hb (nomark _)
theorem dc_eqG (hu : X.A.units + 64 < cLine) (ha : DE X nf a da) (hb : DE X nf b db) : DC X nf (.Compare a [.Eq] [b] pos) (dBv (dEqG false da db)) := dc_cmp (op_eq.or ((op_eqD hu).or (op_eqDR (by omega)))) (od_eq.or (od_eqD.or od_eqDct)) ha hb (nomark _)
theorem de_neG (hu : X.A.units + 64 < cLine) (ha : DE X nf a da) (hb : DE X nf b db) : DE X nf (.Compare a [.NotEq] [b] pos) (dEqG true da db) := de_cmp (op_ne.or ((op_neD hu).or (op_neDR (by omega)))) (od_ne.or (od_neD.or od_neDct)) ha hb (nomark _)
theorem dc_neG (hu : X.A.units + 64 < cLine) (ha : DE X nf a da) (hb : DE X nf b db) : DC X nf (.Compare a [.NotEq] [b] pos) (dBv (dEqG true da db)) := dc_cmp (op_ne.or ((op_neD hu).or (op_neDR (by omega)))) (od_ne.or (od_neD.or od_neDct)) ha hb (nomark _)
/-! ### a < b < c, ints -/
def dChain (g g' : Int → Int → Bool) (da db dc : DT nf) : DT nf := fun env Q => da env fun x env1 => db env1 fun y env2 => ∃ i j, x = .int i ∧ y = .int j ∧ if g i j = true then dc env2 fun z env3 => ∃ k, z = .int k ∧ Q (.bl (g' j k)) env3 else Q (.bl false) env2
theorem lift_chain {g g' : Int → Int → Bool} (σ : St) (H : Hp) (Q : VK) (h : lift K nf (dChain g g' da db dc) σ H Q) : tChain (rI0 fun i j => .bl (g i j)) (rI0 fun i j => .bl (g' i j)) (lift K nf da) (lift K nf db) (lift K nf dc) σ H Q := by
  obtain ⟨env, fp, Qd, R, h, k⟩ := h
  refine lift_run R h fun v H1 x env1 fp1 r1 R1 c1 h1 => ?_
  refine lift_run R1 h1 fun w H2 y env2 fp2 r2 R2 c2 ⟨i, j, ex, ey, q⟩ => ?_
  subst ex ey
  have e1 := rel_int r1
  have e2 := rel_int r2
  subst e1 e2
  refine ⟨i, j, rfl, rfl, g i j, rfl, ?_⟩
  cases hg : g i j with
  | true =>
    rw [hg, if_pos rfl] at q
    rw [if_pos rfl]
    refine lift_run R2 q fun u H3 z env3 fp3 r3 R3 c3 ⟨m, ez, q3⟩ => ?_
    subst ez
    have e3 := rel_int r3
    subst e3
    exact ⟨j, m, rfl, rfl, k _ H3 _ env3 fp3 (.bl _) R3 ((c1.trans c2).trans c3) q3⟩
  | false =>
    rw [hg, if_neg Bool.false_ne_true] at q
    rw [if_neg Bool.false_ne_true]
    exact k _ H2 _ env2 fp2 (.bl false) R2 (c1.trans c2) q
theorem de_chain {op op' : CmpOp} {g g' : Int → Int → Bool} (ho : OpR X (compareOp op) (rI0 fun i j => .bl (g i j))) (ho' : OpR X (compareOp op') (rI0 fun i j => .bl (g' i j))) (ha : DE X nf a da) (hb : DE X nf b db) (hc : DE X nf c dc)
    (hm : lastMarks [op, op'] [b, c] = false := by with_unfolding_all rfl) : DE X nf (.Compare a [op, op'] [b, c] pos) (dChain g g' da db dc) := pe_imp (pe_chain ho ho' ha hb hc hm) lift_chain
theorem dc_chain {op op' : CmpOp} {g g' : Int → Int → Bool} (ho : OpR X (compareOp op) (rI0 fun i j => .bl (g i j))) (ho' : OpR X (compareOp op') (rI0 fun i j => .bl (g' i j))) (ha : DE X nf a da) (hb : DE X nf b db) (hc : DE X nf c dc)
    (hm : lastMarks [op, op'] [b, c] = false := by with_unfolding_all rfl) : DC X nf (.Compare a [op, op'] [b, c] pos) (dBv (dChain g g' da db dc)) := pt_imp (pt_chain ho ho' ha hb hc hm) (lift_B2 lift_chain)
/-! ### len, list -/
theorem CbD.or {r r' : List V → Hp → VK → Prop} {f f' : List D → D → Prop} (h : CbD K nf r f) (h' : CbD K nf r' f') : CbD K nf (fun xs H Q => r xs H Q ∨ r' xs H Q) (fun x z => f x z ∨ f' x z) := by
  rintro H vs ds d rr (q | q) Q k
  · exact .inl (h H vs ds d rr q Q k)
  · exact .inr (h' H vs ds d rr q Q k)
theorem CbD.imp {r : List V → Hp → VK → Prop} {f f' : List D → D → Prop} (h : CbD K nf r f) (i : ∀ x z, f' x z → f x z) : CbD K nf r f' := fun H vs ds d rr q Q k => h H vs ds d rr (i _ _ q) Q k
theorem call_lenR : CallR X (.builtin "len") (fun xs H Q => ∃ a kvs, xs = [V.ref a] ∧ Rd H a (.dK kvs) ∧ Q (.int kvs.length) H) := by
  intro pins s σ H xs us Q I r h
  obtain ⟨a, kvs, rfl, ha, q⟩ := h
  obtain ⟨u, rfl, ru⟩ := vals1 r
  cases ru
  exact d_len I ha fun t s' I' => ⟨.int kvs.length, H, I', ⟨t, rfl⟩, q⟩
theorem call_lenG : CallR X (.builtin "len") (fun xs H Q => (∃ p ys, xs = [.ref p] ∧ (SqL X.K H p ys ∨ SqT X.K H p ys) ∧ Q (.int ys.length) H) ∨ (∃ z, xs = [.str z] ∧ z.length ≤ sizeLine ∧ Q (.int z.length) H) ∨ ∃ a kvs, xs = [V.ref a] ∧ Rd H a (.dK kvs) ∧ Q (.int kvs.length) H) :=
  L2.CallR.or call_len_seq (L2.CallR.or call_len_str call_lenR)
def fLenD : List D → D → Prop := fun ds d => ∃ kds, ds = [.dct kds] ∧ d = .int kds.length
theorem cd_lenD : CbD K nf (fun xs H Q => ∃ a kvs, xs = [V.ref a] ∧ Rd H a (.dK kvs) ∧ Q (.int kvs.length) H) fLenD := by
  rintro H vs ds d r ⟨kds, rfl, rfl⟩ Q q
  obtain ⟨v, rfl, h⟩ := rels1x r
  cases h with
  | dct h rr => exact ⟨_, _, rfl, .inr ⟨_, h⟩, by rw [rr.length]; exact q _ H (.int _) Xt.refl⟩
def lenD : D → Option Int
  | .lst xs => some xs.length
  | .tup xs => some xs.length
  | .dct xs => some xs.length
  | .str z => if z.length ≤ 1000000 then some z.length else none
  | _ => none
def fLenG : List D → D → Prop := fun ds d => ∃ x n, ds = [x] ∧ lenD x = some n ∧ d = .int n
theorem cd_lenG : CbD K nf (fun xs H Q => (∃ p ys, xs = [.ref p] ∧ (SqL K H p ys ∨ SqT K H p ys) ∧ Q (.int ys.length) H) ∨ (∃ z, xs = [.str z] ∧ z.length ≤ sizeLine ∧ Q (.int z.length) H) ∨ ∃ a kvs, xs = [V.ref a] ∧ Rd H a (.dK kvs) ∧ Q (.int kvs.length) H) fLenG :=
  (cd_len.or (cd_lenS.or cd_lenD)).imp fun ds d ⟨x, n, e, h, ed⟩ => by
    subst e ed
    cases x with
    | lst xs => cases h; exact .inl ⟨xs, .inl rfl, rfl⟩
    | tup xs => cases h; exact .inl ⟨xs, .inr rfl, rfl⟩
    | dct xs => cases h; exact .inr (.inr ⟨xs, rfl, rfl⟩)
    | str z =>
      simp only [lenD] at h
      split at h
      · rename_i hl
        cases h
        exact .inr (.inl ⟨z, rfl, hl, rfl⟩)
      · cases h
    | _ => cases h
end
end DL

namespace DL
open PySem L2
section
variable {nf : Addr → Nat}
/-! ### loops by invariants, heap-free -/
theorem for_inv {g : DG nf} {b : DTS nf} {De : EndsD nf} (Iv : List D → EV nf → Prop) (step : ∀ x xs env (R : EV nf → Prop), Iv (x :: xs) env → (∀ env', Iv xs env' → R env') → g x env fun env1 => b { De with nx := R, ct := R, bk := De.nx } env1) (fin : ∀ env, Iv [] env → De.nx env) :
    ∀ ds env, Iv ds env → dFor g b ds De env
  | [], env, h => fin env h
  | x :: xs, env, h => step x xs env (dFor g b xs De) h fun env' h' => for_inv Iv step fin xs env' h'
theorem lc_inv {g : DG nf} {dt : DB nf} {de : DT nf} {js : List Nat} {Q : List D → EV nf → Prop} (Iv : List D → List D → EV nf → Prop)
    (step : ∀ x xs acc env (R : List D → EV nf → Prop), Iv (x :: xs) acc env → (∀ acc' env', Iv xs acc' env' → R acc' env') → g x env fun env1 => dt env1 fun b env2 => if b = true then de env2 fun d env3 => acc.length < 1000000 ∧ R (acc ++ [d]) (wipeD env3 js) else R acc (wipeD env2 js))
    (fin : ∀ acc env, Iv [] acc env → Q acc env) : ∀ ds acc env, Iv ds acc env → dComp g dt de js ds acc env Q
  | [], acc, env, h => fin acc env h
  | x :: xs, acc, env, h => step x xs acc env (fun acc env => dComp g dt de js xs acc env Q) h fun acc' env' h' => lc_inv Iv step fin xs acc' env' h'
/-- a comprehension over one name whose parts change nothing -/
theorem lc_pure {j : Nat} {dt : DB nf} {de : DT nf} {Q : List D → EV nf → Prop} {env : EV nf} (p : D → Bool) (f : D → D) (hj : env[j]? = some .un) {ds : List D}
    (ht : ∀ x ∈ ds, ∀ R : Bool → EV nf → Prop, R (p x) (env.set j (.fz x)) → dt (env.set j (.fz x)) R) (he : ∀ x ∈ ds, p x = true → ∀ R : D → EV nf → Prop, R (f x) (env.set j (.fz x)) → de (env.set j (.fz x)) R)
    {acc : List D} (hl : acc.length + ds.length ≤ 1000000) (q : Q (acc ++ (ds.filter p).map f) env) : dComp (gN j) dt de [j] ds acc env Q := by
  have hlen : j < env.length := (List.getElem?_eq_some_iff.mp hj).1
  have hback : ∀ x : D, (env.set j (.fz x)).set j .un = env := fun x => by
    rw [List.set_set]
    apply List.ext_getElem?
    intro i
    by_cases hi : j = i
    · subst hi; rw [List.getElem?_set_self hlen, hj]
    · rw [List.getElem?_set_ne hi]
  induction ds generalizing acc with
  | nil => simpa [dComp] using q
  | cons x xs ih =>
    show gN j x env _
    refine ⟨hlen, ?_⟩
    refine ht x List.mem_cons_self _ ?_
    have hl' : acc.length + xs.length + 1 ≤ 1000000 := by rw [List.length_cons] at hl; omega
    have ih' := fun acc (h : acc.length + xs.length ≤ 1000000) (q : Q (acc ++ (xs.filter p).map f) env) => ih (acc := acc) (fun y m => ht y (List.mem_cons_of_mem _ m)) (fun y m => he y (List.mem_cons_of_mem _ m)) h q
    cases hp : p x with
    | true =>
      rw [if_pos rfl]
      refine he x List.mem_cons_self hp _ ⟨by omega, ?_⟩
      show dComp (gN j) dt de [j] xs (acc ++ [f x]) ((env.set j (.fz x)).set j .un) Q
      rw [hback]
      refine ih' _ (by rw [List.length_append]; show acc.length + 1 + xs.length ≤ _; omega) ?_
      rw [List.filter_cons, hp] at q
      simpa using q
    | false =>
      rw [if_neg Bool.false_ne_true]
      show dComp (gN j) dt de [j] xs acc ((env.set j (.fz x)).set j .un) Q
      rw [hback]
      refine ih' _ (by omega) ?_
      rw [List.filter_cons, hp] at q
      simpa using q
/-- the same for a dict -/
theorem dc_pure {j : Nat} {dk dv : DT nf} {Q : List (Key × D) → EV nf → Prop} {env : EV nf} (fk : D → Key) (f : D → D) (hj : env[j]? = some .un) {ds : List D}
    (hk : ∀ x ∈ ds, ∀ R : D → EV nf → Prop, R (kD (fk x)) (env.set j (.fz x)) → dk (env.set j (.fz x)) R) (he : ∀ x ∈ ds, ∀ R : D → EV nf → Prop, R (f x) (env.set j (.fz x)) → dv (env.set j (.fz x)) R)
    {acc : List (Key × D)} (hl : acc.length + ds.length ≤ 1000000) (q : Q (ds.foldl (fun acc x => putD acc (fk x) (f x)) acc) env) : dCompD (gN j) dYes dk dv [j] ds acc env Q := by
  have hlen : j < env.length := (List.getElem?_eq_some_iff.mp hj).1
  have hback : ∀ x : D, (env.set j (.fz x)).set j .un = env := fun x => by
    rw [List.set_set]
    apply List.ext_getElem?
    intro i
    by_cases hi : j = i
    · subst hi; rw [List.getElem?_set_self hlen, hj]
    · rw [List.getElem?_set_ne hi]
  have key : ∀ k, keyOf (kD k) = some k := fun k => by cases k <;> rfl
  induction ds generalizing acc with
  | nil => simpa [dCompD] using q
  | cons x xs ih =>
    show gN j x env _
    refine ⟨hlen, ?_⟩
    show dk (env.set j (.fz x)) _
    refine hk x List.mem_cons_self _ (he x List.mem_cons_self _ ⟨fk x, key _, by rw [List.length_cons] at hl; omega, ?_⟩)
    show dCompD (gN j) dYes dk dv [j] xs (putD acc (fk x) (f x)) ((env.set j (.fz x)).set j .un) Q
    rw [hback]
    refine ih (fun y m => hk y (List.mem_cons_of_mem _ m)) (fun y m => he y (List.mem_cons_of_mem _ m)) ?_ q
    have := putD_len acc (fk x) (f x)
    rw [List.length_cons] at hl
    omega
end
end DL

namespace DL
open PySem L2
section
variable {K : PySem.W.Frag} {nf : Addr → Nat}
@[simp] theorem isi_str {s : Str} {T : String} {d : D} : fIsi K [.str s, .ty T] d ↔ ∃ b, kitB "str" T = some b ∧ d = .bl b := by
  constructor
  · rintro ⟨x, c, t, u, b, e, h, e1, e2, e3, ed⟩
    cases e; cases e1; cases e2
    exact ⟨b, e3, ed⟩
  · rintro ⟨b, h, e⟩
    exact ⟨_, _, _, _, b, rfl, (fun C fs z => by cases z), rfl, rfl, h, e⟩
@[simp] theorem isi_int {s : Int} {T : String} {d : D} : fIsi K [.int s, .ty T] d ↔ ∃ b, kitB "int" T = some b ∧ d = .bl b := by
  constructor
  · rintro ⟨x, c, t, u, b, e, h, e1, e2, e3, ed⟩
    cases e; cases e1; cases e2
    exact ⟨b, e3, ed⟩
  · rintro ⟨b, h, e⟩
    exact ⟨_, _, _, _, b, rfl, (fun C fs z => by cases z), rfl, rfl, h, e⟩
@[simp] theorem isi_dct {s : List (Key × D)} {T : String} {d : D} : fIsi K [.dct s, .ty T] d ↔ ∃ b, kitB "dict" T = some b ∧ d = .bl b := by
  constructor
  · rintro ⟨x, c, t, u, b, e, h, e1, e2, e3, ed⟩
    cases e; cases e1; cases e2
    exact ⟨b, e3, ed⟩
  · rintro ⟨b, h, e⟩
    exact ⟨_, _, _, _, b, rfl, (fun C fs z => by cases z), rfl, rfl, h, e⟩
@[simp] theorem kb1 : kitB "str" "str" = some true := by decide +kernel
@[simp] theorem kb2 : kitB "int" "bool" = some false := by decide +kernel
@[simp] theorem kb3 : kitB "str" "bool" = some false := by decide +kernel
@[simp] theorem kb4 : kitB "int" "int" = some true := by decide +kernel
@[simp] theorem kb5 : kitB "str" "int" = some false := by decide +kernel
@[simp] theorem kb6 : kitB "dict" "dict" = some true := by decide +kernel
/-- isinstance with an own class -/
theorem isi_own {C : Addr} {fs : List (Str × D)} (h : IsiC K C) {d : D} (e : d = .bl true) : fIsi K [.obj C fs, .cls C] d := ⟨_, _, _, _, true, rfl, (fun C' fs' z => by cases z; exact h), rfl, rfl, if_pos (beq_self_eq_true _), e⟩
theorem isi_dctO {C : Addr} {s : List (Key × D)} (h : PySem.W.kitOne K (.type "dict") (.ref C) = some false) {d : D} (e : d = .bl false) : fIsi K [.dct s, .cls C] d := ⟨_, _, _, _, false, rfl, (fun C fs z => by cases z), rfl, rfl, h, e⟩
end
end DL

/-! steps: one lemma a construct, for goals in continuation form -/
namespace DL
open PySem L2
section
variable {nf : Addr → Nat} {K : PySem.W.Frag} {De : EndsD nf} {env env' env1 : EV nf} {i j n : Nat} {d x y z : D} {a b : DTS nf} {da db dc : DT nf} {ta tb tc : DB nf} {ra : DAs nf} {rm : DM nf} {Q : D → EV nf → Prop} {QB : Bool → EV nf → Prop} {QA : List D → EV nf → Prop} {QM : List AD → EV nf → Prop} {QN : EV nf → Prop}
/-! tests -/
theorem ite_s {c : Bool} {A B : Prop} (h1 : c = true → A) (h2 : c = false → B) : if c = true then A else B := by
  cases c with
  | true => exact h1 rfl
  | false => exact h2 rfl
theorem iteT_s {c : Bool} {A B : Prop} (e : c = true) (h : A) : if c = true then A else B := by rw [if_pos e]; exact h
theorem iteF_s {c : Bool} {A B : Prop} (e : c = false) (h : B) : if c = true then A else B := by rw [if_neg (by rw [e]; exact Bool.false_ne_true)]; exact h
/-! statements -/
theorem sNext_s (h : De.nx env) : sNext De env := h
theorem sSeq_s (h : a { De with nx := b De } env) : sSeq a b De env := h
theorem sBrk_s (h : De.bk env) : sBrk De env := h
theorem sCnt_s (h : De.ct env) : sCnt De env := h
theorem sIf_s (h : tc env fun k env1 => if k = true then a De env1 else b De env1) : sIf tc a b De env := h
theorem sRet_s (h : da env De.rt) : sRet da De env := h
theorem sRetN_s (h : De.rt .non env) : sRetN De env := h
theorem sDrop_s (h : da env fun _ env1 => De.nx env1) : sDrop da De env := h
def SetK (i : Nat) (De : EndsD nf) : D → EV nf → Prop := fun d env1 => i < env1.length ∧ De.nx (env1.set i (.fz d))
theorem sSet_s (h : da env (SetK i De)) : sSet i da De env := h
theorem setK_s (hl : Nat.blt i env.length = true) (e : env.set i (.fz d) = env') (h : De.nx env') : SetK i De d env := ⟨Nat.blt_eq.mp hl, e ▸ h⟩
theorem sAsg_s {g : DG nf} (h : da env fun d env1 => g d env1 De.nx) : sAsg da g De env := h
theorem gN_s (hl : Nat.blt i env.length = true) (e : env.set i (.fz d) = env') (h : QN env') : gN i d env QN := ⟨Nat.blt_eq.mp hl, e ▸ h⟩
theorem gT_s {g : DGs nf} {ds : List D} (hn : ds.length = n) (h : g ds env QN) : gT n g (.tup ds) env QN := ⟨ds, rfl, hn, h⟩
theorem gsNil_s (h : QN env) : gsNil [] env QN := ⟨rfl, h⟩
theorem gsCons_s {g : DG nf} {r : DGs nf} {ds : List D} (h : g d env fun env1 => r ds env1 QN) : gsCons g r (d :: ds) env QN := ⟨d, ds, rfl, h⟩
/-! owned lists -/
theorem sSetL_s (h : ra env fun xs env1 => xs.length ≤ 1000000 ∧ i < env1.length ∧ ∀ p, De.nx (env1.set i (.ow (.ref p) (lstA K nf xs)))) : sSetL K i ra De env := h
theorem setL_s {xs : List D} {env' : Addr → EV nf} (hz : Nat.ble xs.length 1000000 = true) (hl : Nat.blt i env.length = true) (e : ∀ p, env.set i (.ow (.ref p) (lstA K nf xs)) = env' p) (h : ∀ p, De.nx (env' p)) : xs.length ≤ 1000000 ∧ i < env.length ∧ ∀ p, De.nx (env.set i (.ow (.ref p) (lstA K nf xs))) := ⟨Nat.le_of_ble_eq_true hz, Nat.blt_eq.mp hl, fun p => by rw [e p]; exact h p⟩
theorem nxe_s {f : EV nf → Prop} (e : env = env') (h : f env') : f env := e ▸ h
def AppK (K : PySem.W.Frag) (i : Nat) (De : EndsD nf) : D → EV nf → Prop := fun d env1 => ∃ v xs, env1[i]? = some (.ow v (lstA K nf xs)) ∧ xs.length < 1000000 ∧ De.nx (env1.set i (.ow v (lstA K nf (xs ++ [d]))))
theorem appW_s {v : V} {xs : List D} (e : env[i]? = some (.ow v (lstA K nf xs))) (h : da env (AppK K i De)) : (∃ v xs, env[i]? = some (SD.ow v (lstA K nf xs))) ∧ sApp K i da De env := ⟨⟨v, xs, e⟩, h⟩
theorem appK_s {v : V} {xs : List D} (e : env[i]? = some (.ow v (lstA K nf xs))) (hl : xs.length < 1000000) (e2 : env.set i (.ow v (lstA K nf (xs ++ [d]))) = env') (h : De.nx env') : AppK K i De d env := ⟨v, xs, e, hl, e2 ▸ h⟩
theorem dVarF_s {v : V} {xs : List D} (e : env[i]? = some (.ow v (lstA K nf xs))) (e2 : env.set i (.fz (.lst xs)) = env') (h : Q (.lst xs) env') : dVarF K i env Q := ⟨v, xs, e, e2 ▸ h⟩
theorem dVarFD_s {v : V} {xs : List (Key × D)} (e : env[i]? = some (.ow v (dctA K nf xs))) (e2 : env.set i (.fz (.dct xs)) = env') (h : Q (.dct xs) env') : dVarFD K i env Q := ⟨v, xs, e, e2 ▸ h⟩
theorem sSetD0_s {env' : Addr → EV nf} (hl : Nat.blt i env.length = true) (e : ∀ p, env.set i (.ow (.ref p) (dctA K nf [])) = env' p) (h : ∀ p, De.nx (env' p)) : sSetD0 K i De env := ⟨Nat.blt_eq.mp hl, fun p => by rw [e p]; exact h p⟩
theorem sSetDD_s (h : ra env fun ds env1 => ∃ kds, ds = [.dct kds] ∧ i < env1.length ∧ ∀ p, De.nx (env1.set i (.ow (.ref p) (dctA K nf kds)))) : sSetDD K i ra De env := h
theorem setDD_s {kds : List (Key × D)} {env' : Addr → EV nf} (hl : Nat.blt i env.length = true) (e : ∀ p, env.set i (.ow (.ref p) (dctA K nf kds)) = env' p) (h : ∀ p, De.nx (env' p)) : ∃ kds', [D.dct kds] = [.dct kds'] ∧ i < env.length ∧ ∀ p, De.nx (env.set i (.ow (.ref p) (dctA K nf kds'))) := ⟨kds, rfl, Nat.blt_eq.mp hl, fun p => by rw [e p]; exact h p⟩
def DPutK2 (K : PySem.W.Frag) (i : Nat) (d : D) (De : EndsD nf) : D → EV nf → Prop := fun y env2 => ∃ v kds k, env2[i]? = some (.ow v (dctA K nf kds)) ∧ keyOf y = some k ∧ kds.length < 1000000 ∧ De.nx (env2.set i (.ow v (dctA K nf (putD kds k d))))
def DPutK (K : PySem.W.Frag) (i : Nat) (db : DT nf) (De : EndsD nf) : D → EV nf → Prop := fun d env1 => (∃ v kds, env1[i]? = some (.ow v (dctA K nf kds))) ∧ db env1 (DPutK2 K i d De)
theorem sDPutV_s {dv : DT nf} (h : dv env (DPutK K i db De)) : sDPutV K i db dv De env := h
theorem dPutK_s {v : V} {kds : List (Key × D)} (e : env[i]? = some (.ow v (dctA K nf kds))) (h : db env (DPutK2 K i d De)) : DPutK K i db De d env := ⟨⟨v, kds, e⟩, h⟩
theorem dPutK2_s {v : V} {kds : List (Key × D)} {k : Key} (e : env[i]? = some (.ow v (dctA K nf kds))) (ek : keyOf y = some k) (hl : kds.length < 1000000) (e2 : env.set i (.ow v (dctA K nf (putD kds k d))) = env') (h : De.nx env') : DPutK2 K i d De y env := ⟨v, kds, k, e, ek, hl, e2 ▸ h⟩
/-! expressions -/
theorem dVar_s (e : env[i]? = some (.fz d)) (h : Q d env) : dVar i env Q := ⟨d, e, h⟩
theorem dC_s (h : Q d env) : dC d env Q := h
def BvK (QB : Bool → EV nf → Prop) : D → EV nf → Prop := fun x env1 => ∃ b, x = .bl b ∧ QB b env1
theorem dBv_s (h : da env (BvK QB)) : dBv da env QB := h
theorem bvK_s {b : Bool} (h : QB b env) : BvK QB (.bl b) env := ⟨b, rfl, h⟩
theorem dNot_s (h : ta env fun c env1 => QB (!c) env1) : dNot ta env QB := h
theorem dAnd_s (h : ta env fun c env1 => if c = true then tb env1 QB else QB false env1) : dAnd ta tb env QB := h
theorem dOr_s (h : ta env fun c env1 => if c = true then QB true env1 else tb env1 QB) : dOr ta tb env QB := h
theorem dYes_s (h : QB true env) : dYes env QB := h
def AndVK (db : DT nf) (Q : D → EV nf → Prop) : D → EV nf → Prop := fun x env1 => ∃ c, x = .bl c ∧ if c = true then db env1 Q else Q (.bl false) env1
def OrVK (db : DT nf) (Q : D → EV nf → Prop) : D → EV nf → Prop := fun x env1 => ∃ c, x = .bl c ∧ if c = true then Q (.bl true) env1 else db env1 Q
def NotVK (Q : D → EV nf → Prop) : D → EV nf → Prop := fun x env1 => ∃ c, x = .bl c ∧ Q (.bl (!c)) env1
theorem dAndV_s (h : da env (AndVK db Q)) : dAndV da db env Q := h
theorem dOrV_s (h : da env (OrVK db Q)) : dOrV da db env Q := h
theorem dNotV_s (h : da env (NotVK Q)) : dNotV da env Q := h
theorem andVK_s {c : Bool} (h : if c = true then db env Q else Q (.bl false) env) : AndVK db Q (.bl c) env := ⟨c, rfl, h⟩
theorem orVK_s {c : Bool} (h : if c = true then Q (.bl true) env else db env Q) : OrVK db Q (.bl c) env := ⟨c, rfl, h⟩
theorem notVK_s {c : Bool} (h : Q (.bl (!c)) env) : NotVK Q (.bl c) env := ⟨c, rfl, h⟩
theorem dIf_s (h : tc env fun c env1 => if c = true then da env1 Q else db env1 Q) : dIf tc da db env Q := h
theorem dIsN_s (h : da env fun x env1 => Q (.bl (isNon x)) env1) : dIsN da env Q := h
theorem aNil_s (h : QA [] env) : aNil env QA := h
theorem aCons_s (h : da env fun x env1 => ra env1 fun xs env2 => QA (x :: xs) env2) : aCons da ra env QA := h
theorem dTup_s (h : ra env fun xs env1 => xs.length ≤ 1000000 ∧ Q (.tup xs) env1) : dTup ra env Q := h
theorem dLst_s (h : ra env fun xs env1 => xs.length ≤ 1000000 ∧ Q (.lst xs) env1) : dLst ra env Q := h
theorem lenQ_s {xs : List D} {A : Prop} (hl : Nat.ble xs.length 1000000 = true) (h : A) : xs.length ≤ 1000000 ∧ A := ⟨Nat.le_of_ble_eq_true hl, h⟩
theorem dD0_s (h : Q (.dct []) env) : dD0 env Q := h
/-! operations -/
def OpK (f : D → D → D → Prop) (Q : D → EV nf → Prop) (x y : D) : EV nf → Prop := fun env2 => ∃ z, f x y z ∧ Q z env2
theorem dOp_s {f : D → D → D → Prop} (h : da env fun x env1 => db env1 fun y env2 => OpK f Q x y env2) : dOp f da db env Q := h
theorem opK_s {f : D → D → D → Prop} (e : f x y z) (h : Q z env) : OpK f Q x y env := ⟨z, e, h⟩
theorem dAdd_s (h : dOp (fI0 fun i j => .int (i + j)) da db env Q) : dAdd da db env Q := h
theorem dSub_s (h : dOp (fI0 fun i j => .int (i - j)) da db env Q) : dSub da db env Q := h
theorem dMul_s (h : dOp (fI CMul fun i j => .int (i * j)) da db env Q) : dMul da db env Q := h
theorem dMod_s (h : dOp (fI (fun _ j => 0 < j) fun i j => .int (i % j)) da db env Q) : dMod da db env Q := h
theorem dDiv_s (h : dOp (fI CDivW fun i j => .int (i / j)) da db env Q) : dDiv da db env Q := h
theorem dPow_s (h : dOp (fI CPow fun i j => .int (i ^ j.toNat)) da db env Q) : dPow da db env Q := h
theorem dCmp_s {g : Int → Int → Bool} (h : dOp (fI0 fun i j => .bl (g i j)) da db env Q) : dCmp g da db env Q := h
theorem opI0_s {g : Int → Int → D} {i j : Int} (h : Q (g i j) env) : OpK (fI0 g) Q (.int i) (.int j) env := ⟨_, ⟨i, j, rfl, rfl, rfl⟩, h⟩
theorem opI_s {C : Int → Int → Prop} {g : Int → Int → D} {i j : Int} (c : C i j) (h : Q (g i j) env) : OpK (fI C g) Q (.int i) (.int j) env := ⟨_, ⟨i, j, rfl, rfl, c, rfl⟩, h⟩
theorem dEqG_s {neg : Bool} (h : dOp (eqQ neg) da db env Q) : dEqG neg da db env Q := h
theorem eqF_s {b : Bool} (e : eqS x y = some b) (h : Q (.bl b) env) : OpK (eqQ false) Q x y env := ⟨_, .inl ⟨b, e, rfl⟩, h⟩
theorem eqT_s {b : Bool} (e : eqS x y = some b) (h : Q (.bl (!b)) env) : OpK (eqQ true) Q x y env := ⟨_, .inl ⟨b, e, rfl⟩, h⟩
theorem eqDF_s {p q : PyData} (e1 : pyOf x = some p) (e2 : pyOf y = some q) (s1 : SeqAt.shaped p = true) (s2 : SeqAt.shaped q = true) (h : Q (.bl (PyData.eqv p q)) env) : OpK (eqQ false) Q x y env := ⟨_, .inr (.inl ⟨p, q, e1, e2, s1, s2, rfl⟩), h⟩
theorem eqDT_s {p q : PyData} (e1 : pyOf x = some p) (e2 : pyOf y = some q) (s1 : SeqAt.shaped p = true) (s2 : SeqAt.shaped q = true) (h : Q (.bl (!PyData.eqv p q)) env) : OpK (eqQ true) Q x y env := ⟨_, .inr (.inl ⟨p, q, e1, e2, s1, s2, rfl⟩), h⟩
theorem eqDctF_s {ks ls : List (Key × D)} (s : sameDct ks ls) (h : Q (.bl true) env) : OpK (eqQ false) Q (.dct ks) (.dct ls) env := ⟨_, .inr (.inr ⟨ks, ls, rfl, rfl, s, rfl⟩), h⟩
def FK (g : D → D → Option D) (Q : D → EV nf → Prop) (x y : D) : EV nf → Prop := fun env2 => ∃ z, g x y = some z ∧ Q z env2
theorem dF_s {g : D → D → Option D} (h : da env fun x env1 => db env1 fun y env2 => FK g Q x y env2) : dF g da db env Q := h
theorem fK_s {g : D → D → Option D} (e : g x y = some z) (h : Q z env) : FK g Q x y env := ⟨z, e, h⟩
theorem addI_s {i j : Int} (h : Q (.int (i + j)) env) : FK addD Q (.int i) (.int j) env := ⟨_, rfl, h⟩
theorem addS_s {s t : Str} (hl : s.length + t.length ≤ 1000000) (h : Q (.str (s ++ t)) env) : FK addD Q (.str s) (.str t) env := ⟨_, if_pos hl, h⟩
theorem addL_s {s t : List D} (hl : s.length + t.length ≤ 1000000) (h : Q (.lst (s ++ t)) env) : FK addD Q (.lst s) (.lst t) env := ⟨_, if_pos hl, h⟩
theorem ixL_s {xs : List D} {k : Int} (e : atI xs k = some z) (h : Q z env) : FK ixD Q (.lst xs) (.int k) env := ⟨z, e, h⟩
theorem ixT_s {xs : List D} {k : Int} (e : atI xs k = some z) (h : Q z env) : FK ixD Q (.tup xs) (.int k) env := ⟨z, e, h⟩
theorem ixS_s {s : Str} {k : Int} {c : Nat} (hl : s.length ≤ 1000000) (e : atI s.cps.toList k = some c) (h : Q (.str ⟨#[c]⟩) env) : FK ixD Q (.str s) (.int k) env := ⟨_, by show (if s.length ≤ 1000000 then (atI s.cps.toList k).map _ else none) = _; rw [if_pos hl, e]; rfl, h⟩
theorem ixDct_s {kds : List (Key × D)} {k : Key} (ek : keyOf y = some k) (e : valD kds k = some z) (h : Q z env) : FK ixD Q (.dct kds) y env := ⟨z, by show (keyOf y).bind (valD kds) = _; rw [ek]; exact e, h⟩
theorem in_s {neg b : Bool} (e : inD x y = some b) (h : Q (.bl (if neg then !b else b)) env) : FK (inF neg) Q x y env := ⟨_, by unfold inF; rw [e]; rfl, h⟩
theorem inS_s {c : Nat} {s : Str} (h : Q (.bl (decide (c ∈ s.cps.toList))) env) : FK (inF false) Q (.str ⟨#[c]⟩) (.str s) env := ⟨_, rfl, h⟩
theorem ninL_s {xs : List D} {b : Bool} (e : inD x (.lst xs) = some b) (h : Q (.bl (!b)) env) : FK ninF Q x (.lst xs) env := ⟨_, by show (inD x (.lst xs)).map _ = _; rw [e]; rfl, h⟩
theorem ninT_s {xs : List D} {b : Bool} (e : inD x (.tup xs) = some b) (h : Q (.bl (!b)) env) : FK ninF Q x (.tup xs) env := ⟨_, by show (inD x (.tup xs)).map _ = _; rw [e]; rfl, h⟩
def ChK2 (g' : Int → Int → Bool) (j : Int) (Q : D → EV nf → Prop) : D → EV nf → Prop := fun z env3 => ∃ k, z = .int k ∧ Q (.bl (g' j k)) env3
def ChK (g g' : Int → Int → Bool) (dc : DT nf) (Q : D → EV nf → Prop) (x y : D) : EV nf → Prop := fun env2 => ∃ i j, x = .int i ∧ y = .int j ∧ if g i j = true then dc env2 (ChK2 g' j Q) else Q (.bl false) env2
theorem dChain_s {g g' : Int → Int → Bool} (h : da env fun x env1 => db env1 fun y env2 => ChK g g' dc Q x y env2) : dChain g g' da db dc env Q := h
theorem chK_s {g g' : Int → Int → Bool} {i j : Int} (h : if g i j = true then dc env (ChK2 g' j Q) else Q (.bl false) env) : ChK g g' dc Q (.int i) (.int j) env := ⟨i, j, rfl, rfl, h⟩
theorem chK2_s {g' : Int → Int → Bool} {j k : Int} (h : Q (.bl (g' j k)) env) : ChK2 g' j Q (.int k) env := ⟨k, rfl, h⟩
/-! built-ins -/
def CbK (f : List D → D → Prop) (Q : D → EV nf → Prop) : List D → EV nf → Prop := fun ds env1 => ∃ d, f ds d ∧ Q d env1
theorem dCB_s {f : List D → D → Prop} (h : ra env (CbK f Q)) : dCB f ra env Q := h
theorem cbK_s {f : List D → D → Prop} {ds : List D} (e : f ds d) (h : Q d env) : CbK f Q ds env := ⟨d, e, h⟩
theorem cbInt_s {i : Int} (h : Q (.int i) env) : CbK fInt Q [.int i] env := ⟨_, .inl ⟨i, rfl, rfl⟩, h⟩
theorem cbIntB_s {b : Bool} (h : Q (.int (if b then 1 else 0)) env) : CbK fInt Q [.bl b] env := ⟨_, .inr ⟨b, rfl, rfl⟩, h⟩
theorem cbAbs_s {i : Int} (h : Q (.int (if i < 0 then -i else i)) env) : CbK fAbs Q [.int i] env := ⟨_, ⟨i, rfl, rfl⟩, h⟩
theorem cbLenL_s {xs : List D} (h : Q (.int xs.length) env) : CbK fLenG Q [.lst xs] env := ⟨_, ⟨_, _, rfl, rfl, rfl⟩, h⟩
theorem cbLenT_s {xs : List D} (h : Q (.int xs.length) env) : CbK fLenG Q [.tup xs] env := ⟨_, ⟨_, _, rfl, rfl, rfl⟩, h⟩
theorem cbLenD_s {xs : List (Key × D)} (h : Q (.int xs.length) env) : CbK fLenG Q [.dct xs] env := ⟨_, ⟨_, _, rfl, rfl, rfl⟩, h⟩
theorem cbLenS_s {s : Str} (hl : s.length ≤ 1000000) (h : Q (.int s.length) env) : CbK fLenG Q [.str s] env := ⟨_, ⟨_, _, rfl, if_pos hl, rfl⟩, h⟩
theorem cbList_s {xs : List D} (h : Q (.lst xs) env) : CbK fList Q [.lst xs] env := ⟨_, ⟨xs, .inl rfl, rfl⟩, h⟩
theorem cbListT_s {xs : List D} (h : Q (.lst xs) env) : CbK fList Q [.tup xs] env := ⟨_, ⟨xs, .inr rfl, rfl⟩, h⟩
theorem cbTuple_s {xs : List D} (h : Q (.tup xs) env) : CbK fTuple Q [.lst xs] env := ⟨_, ⟨xs, .inl rfl, rfl⟩, h⟩
theorem cbTupleT_s {xs : List D} (h : Q (.tup xs) env) : CbK fTuple Q [.tup xs] env := ⟨_, ⟨xs, .inr rfl, rfl⟩, h⟩
theorem cbDict_s {kds : List (Key × D)} (h : Q (.dct kds) env) : CbK fDict Q [.dct kds] env := ⟨_, ⟨kds, rfl, rfl⟩, h⟩
theorem cbListD_s {kds : List (Key × D)} (h : Q (.lst (kds.map fun kd => kD kd.1)) env) : CbK fListD Q [.dct kds] env := ⟨_, ⟨kds, rfl, rfl⟩, h⟩
theorem cbAll_s {bs : List Bool} (h : Q (.bl (bs.all id)) env) : CbK fAll Q [.lst (bs.map .bl)] env := ⟨_, ⟨bs, rfl, rfl⟩, h⟩
theorem cbStrI_s {k : Int} (hl : k.natAbs.log2 < 1920) (h : Q (.str (toString k)) env) : CbK fStrI Q [.int k] env := ⟨_, ⟨k, rfl, hl, rfl⟩, h⟩
theorem isiStr_s {s : Str} {T : String} {b : Bool} (e : kitB "str" T = some b) (h : Q (.bl b) env) : CbK (fIsi K) Q [.str s, .ty T] env := ⟨_, isi_str.mpr ⟨b, e, rfl⟩, h⟩
theorem isiInt_s {s : Int} {T : String} {b : Bool} (e : kitB "int" T = some b) (h : Q (.bl b) env) : CbK (fIsi K) Q [.int s, .ty T] env := ⟨_, isi_int.mpr ⟨b, e, rfl⟩, h⟩
theorem isiDct_s {s : List (Key × D)} {T : String} {b : Bool} (e : kitB "dict" T = some b) (h : Q (.bl b) env) : CbK (fIsi K) Q [.dct s, .ty T] env := ⟨_, isi_dct.mpr ⟨b, e, rfl⟩, h⟩
theorem isiOwn_s {C : Addr} {fs : List (Str × D)} (c : IsiC K C) (h : Q (.bl true) env) : CbK (fIsi K) Q [.obj C fs, .cls C] env := ⟨_, isi_own c rfl, h⟩
theorem isiDctO_s {C : Addr} {s : List (Key × D)} (c : PySem.W.kitOne K (.type "dict") (.ref C) = some false) (h : Q (.bl false) env) : CbK (fIsi K) Q [.dct s, .cls C] env := ⟨_, isi_dctO c rfl, h⟩
theorem dSortS_s (h : ra env fun ds env1 => ∃ ss : List Str, ds = [.lst (ss.map .str)] ∧ ss.length < 64 ∧ ∀ ys : List Str, ys.Perm ss → PyProof.Rows.sortedS ys = true → Q (.lst (ys.map .str)) env1) : dSortS ra env Q := h
theorem sortS_s {xs : List D} {ss : List Str} (e : xs = ss.map .str) (hl : ss.length < 64) (h : ∀ ys : List Str, ys.Perm ss → PyProof.Rows.sortedS ys = true → Q (.lst (ys.map .str)) env) : ∃ ss : List Str, [D.lst xs] = [.lst (ss.map .str)] ∧ ss.length < 64 ∧ ∀ ys : List Str, ys.Perm ss → PyProof.Rows.sortedS ys = true → Q (.lst (ys.map .str)) env := ⟨ss, by rw [e], hl, h⟩
def ItemsK (Q : D → EV nf → Prop) : D → EV nf → Prop := fun x env1 => ∃ kds, x = .dct kds ∧ Q (.lst (kds.map fun p => .tup [kD p.1, p.2])) env1
theorem dItems_s (h : da env (ItemsK Q)) : dItems da env Q := h
theorem itemsK_s {kds : List (Key × D)} (h : Q (.lst (kds.map fun p => .tup [kD p.1, p.2])) env) : ItemsK Q (.dct kds) env := ⟨kds, rfl, h⟩
def DS2K2 (k1 : List (Key × D)) (Q : D → EV nf → Prop) : D → EV nf → Prop := fun y env2 => ∃ k2, y = .dct k2 ∧ k1.length + k2.length ≤ 1000000 ∧ Q (.dct (mergeD (mergeD [] k1) k2)) env2
def DS2K (db : DT nf) (Q : D → EV nf → Prop) : D → EV nf → Prop := fun x env1 => ∃ k1, x = .dct k1 ∧ db env1 (DS2K2 k1 Q)
theorem dDS2_s (h : da env (DS2K db Q)) : dDS2 da db env Q := h
theorem dS2K_s {k1 : List (Key × D)} (h : db env (DS2K2 k1 Q)) : DS2K db Q (.dct k1) env := ⟨k1, rfl, h⟩
theorem dS2K2_s {k1 k2 : List (Key × D)} (hl : k1.length + k2.length ≤ 1000000) (h : Q (.dct (mergeD (mergeD [] k1) k2)) env) : DS2K2 k1 Q (.dct k2) env := ⟨k2, rfl, hl, h⟩
/-! texts -/
def SplK2 (s : Str) (Q : D → EV nf → Prop) : D → EV nf → Prop := fun y env2 => ∃ b, y = .str b ∧ (b.length == 0) = false ∧ s.length + 2 ≤ 1000000 ∧ Q (.lst ((Txt.split s b).map .str)) env2
def SplK (db : DT nf) (Q : D → EV nf → Prop) : D → EV nf → Prop := fun x env1 => ∃ a, x = .str a ∧ db env1 (SplK2 a Q)
theorem dSplit_s (h : da env (SplK db Q)) : dSplit da db env Q := h
theorem splK_s {s : Str} (h : db env (SplK2 s Q)) : SplK db Q (.str s) env := ⟨s, rfl, h⟩
theorem splK2_s {s b : Str} (h1 : (b.length == 0) = false) (h2 : s.length + 2 ≤ 1000000) (h : Q (.lst ((Txt.split s b).map .str)) env) : SplK2 s Q (.str b) env := ⟨b, rfl, h1, h2, h⟩
def JoinK2 (s : Str) (Q : D → EV nf → Prop) : D → EV nf → Prop := fun y env2 => ∃ ys : List Str, (y = .lst (ys.map .str) ∨ y = .tup (ys.map .str)) ∧ (ys.map (·.length)).sum + ys.length * s.length ≤ 1000000 ∧ Q (.str (Txt.join s ys)) env2
def JoinK (db : DT nf) (Q : D → EV nf → Prop) : D → EV nf → Prop := fun x env1 => ∃ a, x = .str a ∧ db env1 (JoinK2 a Q)
theorem dJoin_s (h : da env (JoinK db Q)) : dJoin da db env Q := h
theorem joinK_s {s : Str} (h : db env (JoinK2 s Q)) : JoinK db Q (.str s) env := ⟨s, rfl, h⟩
theorem joinK2_s {s : Str} {xs : List D} {ys : List Str} (e : xs = ys.map .str) (hl : (ys.map (·.length)).sum + ys.length * s.length ≤ 1000000) (h : Q (.str (Txt.join s ys)) env) : JoinK2 s Q (.lst xs) env := ⟨ys, .inl (by rw [e]), hl, h⟩
def OK' (Q : Option Int → EV nf → Prop) : D → EV nf → Prop := fun x env1 => ∃ i, x = .int i ∧ Q (some i) env1
theorem oNone_s {Q : Option Int → EV nf → Prop} (h : Q none env) : oNone env Q := h
theorem oSome_s {Q : Option Int → EV nf → Prop} (h : da env (OK' Q)) : oSome da env Q := h
theorem ok'_s {Q : Option Int → EV nf → Prop} {i : Int} (h : Q (some i) env) : OK' Q (.int i) env := ⟨i, rfl, h⟩
def SlSK (x : D) (l u : Option Int) (Q : D → EV nf → Prop) : EV nf → Prop := fun env3 => ∃ z, x = .str z ∧ z.length ≤ 1000000 ∧ Q (.str (cutS z l u)) env3
theorem dSlS_s {lo hi : DO nf} (h : da env fun x env1 => lo env1 fun l env2 => hi env2 fun u env3 => SlSK x l u Q env3) : dSlS da lo hi env Q := h
theorem slSK_s {s : Str} {l u : Option Int} (hl : s.length ≤ 1000000) (h : Q (.str (cutS s l u)) env) : SlSK (.str s) l u Q env := ⟨s, rfl, hl, h⟩
def SlLK (x : D) (l u : Option Int) (Q : D → EV nf → Prop) : EV nf → Prop := fun env3 => ∃ xs, x = .lst xs ∧ Q (.lst ((xs.drop (HT.sIx xs.length 0 l)).take (HT.sIx xs.length xs.length u - HT.sIx xs.length 0 l))) env3
theorem dSlL_s {lo hi : DO nf} (h : da env fun x env1 => lo env1 fun l env2 => hi env2 fun u env3 => SlLK x l u Q env3) : dSlL da lo hi env Q := h
theorem slLK_s {xs : List D} {l u : Option Int} (h : Q (.lst ((xs.drop (HT.sIx xs.length 0 l)).take (HT.sIx xs.length xs.length u - HT.sIx xs.length 0 l))) env) : SlLK (.lst xs) l u Q env := ⟨xs, rfl, h⟩
/-! fields, methods, calls -/
def FldK (C : Addr) (m : Str) (Q : D → EV nf → Prop) : D → EV nf → Prop := fun ob env1 => ∃ fds d, ob = .obj C fds ∧ fds.lookup m = some d ∧ Q d env1
theorem dFld_s {C : Addr} {m : Str} (h : da env (FldK C m Q)) : dFld C m da env Q := h
theorem fldK_s {C : Addr} {m : Str} {fds : List (Str × D)} (e : fds.lookup m = some d) (h : Q d env) : FldK C m Q (.obj C fds) env := ⟨fds, d, rfl, e, h⟩
theorem mNil_s (h : QM [] env) : mNil env QM := h
theorem mVal_s (h : da env fun d env1 => rm env1 fun ads env2 => QM (.v d :: ads) env2) : mVal da rm env QM := h
theorem mSlot_s {s : SD nf} (e : env[i]? = some s) (hs : isSet s) (h : rm env fun ads env2 => QM (.o i :: ads) env2) : mSlot i rm env QM := ⟨⟨s, e, hs⟩, h⟩
def ndB : List Nat → Bool
  | [] => true
  | x :: xs => !(xs.elem x) && ndB xs
theorem nd_of : ∀ {l : List Nat}, ndB l = true → l.Nodup
  | [], _ => List.nodup_nil
  | x :: xs, h => by
    simp only [ndB, Bool.and_eq_true, Bool.not_eq_true', List.elem_eq_mem, decide_eq_false_iff_not] at h
    exact List.nodup_cons.mpr ⟨h.1, nd_of h.2⟩
def PutK (env : EV nf) (ads : List AD) (Q : D → EV nf → Prop) : D → List (SD nf) → Prop := fun d as' => Q d (putBack env ads as')
theorem putK_s {ads : List AD} {as' : List (SD nf)} (e : putBack env ads as' = env') (h : Q d env') : PutK env ads Q d as' := by show Q d (putBack env ads as'); rw [e]; exact h
def CallK (n : Nat) (S : SpD nf) (dds : List D) (Q : D → EV nf → Prop) : List AD → EV nf → Prop := fun ads env1 => ads.length + dds.length = n ∧ (slotsOf (ads ++ dds.map AD.v)).Nodup ∧ (∀ i ∈ slotsOf (ads ++ dds.map AD.v), i < env1.length) ∧
  S ((ads ++ dds.map AD.v).map (resolve env1)) fun d as' => Q d (putBack env1 (ads ++ dds.map AD.v) as')
theorem dCall_s {S : SpD nf} {dds : List D} (h : rm env (CallK n S dds Q)) : dCall n S dds rm env Q := h
theorem ofAll {l : List Nat} {n : Nat} (h : l.all (fun i => Nat.blt i n) = true) : ∀ i ∈ l, i < n := fun i m => Nat.blt_eq.mp (List.all_eq_true.mp h i m)
theorem callK_s {S : SpD nf} {dds : List D} {ads ads' : List AD} {as : List (SD nf)} (h1 : ads.length + dds.length = n) (e1 : ads ++ dds.map AD.v = ads') (h2 : ndB (slotsOf ads') = true) (h3 : (slotsOf ads').all (fun i => Nat.blt i env.length) = true)
    (e2 : ads'.map (resolve env) = as) (h : S as (PutK env ads' Q)) : CallK n S dds Q ads env := by subst e1; subst e2; exact ⟨h1, nd_of h2, ofAll h3, h⟩
def MethK2 (n : Nat) (S : SpD nf) (dds : List D) (ob : D) (Q : D → EV nf → Prop) : List AD → EV nf → Prop := fun ads env1 => ads.length + dds.length + 1 = n ∧ (slotsOf (ads ++ dds.map AD.v)).Nodup ∧ (∀ i ∈ slotsOf (ads ++ dds.map AD.v), i < env1.length) ∧
  S ((AD.v ob :: (ads ++ dds.map AD.v)).map (resolve env1)) fun d as' => Q d (putBack env1 (AD.v ob :: (ads ++ dds.map AD.v)) as')
def MethK (n : Nat) (C : Addr) (m : Str) (S : SpD nf) (dds : List D) (r : DM nf) (Q : D → EV nf → Prop) : D → EV nf → Prop := fun ob env0 => ∃ fds, ob = .obj C fds ∧ fds.lookup m = none ∧ r env0 (MethK2 n S dds ob Q)
theorem dMeth_s {C : Addr} {m : Str} {S : SpD nf} {dds : List D} (h : da env (MethK n C m S dds rm Q)) : dMeth n C m S dds da rm env Q := h
theorem methK_s {C : Addr} {m : Str} {S : SpD nf} {dds : List D} {fds : List (Str × D)} (e : fds.lookup m = none) (h : rm env (MethK2 n S dds (.obj C fds) Q)) : MethK n C m S dds rm Q (.obj C fds) env := ⟨fds, rfl, e, h⟩
theorem methK2_s {S : SpD nf} {dds : List D} {ads ads' : List AD} {ob : D} {as : List (SD nf)} (h1 : ads.length + dds.length + 1 = n) (e1 : ads ++ dds.map AD.v = ads') (h2 : ndB (slotsOf ads') = true) (h3 : (slotsOf ads').all (fun i => Nat.blt i env.length) = true)
    (e2 : (AD.v ob :: ads').map (resolve env) = as) (h : S as (PutK env (AD.v ob :: ads') Q)) : MethK2 n S dds ob Q ads env := by subst e1; subst e2; exact ⟨h1, nd_of h2, ofAll h3, h⟩
def MkK (y : Addr) (C : Addr) (env : EV nf) (ads : List AD) (Q : D → EV nf → Prop) : D → List (SD nf) → Prop := fun d as' => d = .non ∧ ∃ fds rest, as' = .fr (.ref y) (.obj C fds) :: rest ∧ Q (.obj C fds) (putBack env ads rest)
def MakeK (K : PySem.W.Frag) (n : Nat) (C : Addr) (S : SpD nf) (dds : List D) (Q : D → EV nf → Prop) : List AD → EV nf → Prop := fun ads env1 => ads.length + dds.length + 1 = n ∧ 0 < nf C ∧ (slotsOf (ads ++ dds.map AD.v)).Nodup ∧ (∀ i ∈ slotsOf (ads ++ dds.map AD.v), i < env1.length) ∧
  ∀ y, S (.ow (.ref y) (insA K nf C []) :: (ads ++ dds.map AD.v).map (resolve env1)) (MkK y C env1 (ads ++ dds.map AD.v) Q)
theorem dMake_s {C : Addr} {S : SpD nf} {dds : List D} (h : rm env (MakeK K n C S dds Q)) : dMake K n C S dds rm env Q := h
theorem makeK_s {C : Addr} {S : SpD nf} {dds : List D} {ads ads' : List AD} {as : List (SD nf)} (h1 : ads.length + dds.length + 1 = n) (e1 : ads ++ dds.map AD.v = ads') (h0 : 0 < nf C) (h2 : ndB (slotsOf ads') = true) (h3 : (slotsOf ads').all (fun i => Nat.blt i env.length) = true)
    (e2 : ads'.map (resolve env) = as) (h : ∀ y, S (.ow (.ref y) (insA K nf C []) :: as) (MkK y C env ads' Q)) : MakeK K n C S dds Q ads env := by subst e1; subst e2; exact ⟨h1, h0, nd_of h2, ofAll h3, h⟩
theorem mkK_s {C y : Addr} {ads : List AD} {fds : List (Str × D)} {rest : List (SD nf)} (e : putBack env ads rest = env') (h : Q (.obj C fds) env') : MkK y C env ads Q .non (.fr (.ref y) (.obj C fds) :: rest) := ⟨rfl, fds, rest, rfl, by rw [e]; exact h⟩
def OwnK (rev : Bool) (P : D → D → Prop) (S : SpD nf) (Q : D → EV nf → Prop) (x y : D) : EV nf → Prop := fun env2 => P x y ∧ S (if rev then [.fz y, .fz x] else [.fz x, .fz y]) fun d _ => Q d env2
theorem dOwnOp_s {rev : Bool} {P : D → D → Prop} {S : SpD nf} (h : da env fun x env1 => db env1 fun y env2 => OwnK rev P S Q x y env2) : dOwnOp rev P S da db env Q := h
theorem ownF_s {P : D → D → Prop} {S : SpD nf} (p : P x y) (h : S [.fz x, .fz y] fun d _ => Q d env) : OwnK false P S Q x y env := ⟨p, h⟩
theorem ownT_s {P : D → D → Prop} {S : SpD nf} (p : P x y) (h : S [.fz y, .fz x] fun d _ => Q d env) : OwnK true P S Q x y env := ⟨p, h⟩
/-! the state of the draws -/
theorem dStI_s {v : V} {gr : List Int} {x n sd z : Int} {j : Int} (e : env[i]? = some (.ow v (stA nf gr x n sd))) (ez : stF x n sd j = some z) (h : Q (.int z) env) : dStI i j env Q := ⟨v, gr, x, n, sd, z, e, ez, h⟩
theorem dStN_s {v : V} {gr : List Int} {x n sd : Int} (e : env[i]? = some (.ow v (stA nf gr x n sd))) (h : QB (!gr.isEmpty) env) : dStN i env QB := ⟨v, gr, x, n, sd, e, h⟩
def StSK (i : Nat) (j : Int) (De : EndsD nf) : D → EV nf → Prop := fun d env1 => ∃ z v gr x n sd, d = .int z ∧ env1[i]? = some (.ow v (stA nf gr x n sd)) ∧ 1 ≤ j ∧ j ≤ 3 ∧ De.nx (env1.set i (.ow v (stP gr x n sd j z)))
theorem sStS_s {j : Int} (h : da env (StSK i j De)) : sStS i j da De env := h
theorem stSK_s {v : V} {gr : List Int} {x n sd z j : Int} {A : OA nf} (e : env[i]? = some (.ow v (stA nf gr x n sd))) (h1 : decide (1 ≤ j ∧ j ≤ 3) = true) (ea : stP gr x n sd j z = A) (e2 : env.set i (.ow v A) = env') (h : De.nx env') : StSK i j De (.int z) env :=
  ⟨z, v, gr, x, n, sd, rfl, e, (of_decide_eq_true h1).1, (of_decide_eq_true h1).2, by rw [ea, e2]; exact h⟩
def StGK (i : Nat) (j : Int) (v : V) (y : Int) (De : EndsD nf) : D → EV nf → Prop := fun d env1 => ∃ z gr1 x1 n1 sd1, d = .int z ∧ env1[i]? = some (.ow v (stA nf gr1 x1 n1 sd1)) ∧ De.nx (env1.set i (.ow v (stP gr1 x1 n1 sd1 j (y + z))))
theorem sStG_s {v : V} {gr : List Int} {x n sd y j : Int} (e : env[i]? = some (.ow v (stA nf gr x n sd))) (ey : stF x n sd j = some y) (h1 : decide (1 ≤ j ∧ j ≤ 3) = true) (h : da env (StGK i j v y De)) : sStG i j da De env := ⟨v, gr, x, n, sd, y, e, ey, (of_decide_eq_true h1).1, (of_decide_eq_true h1).2, h⟩
theorem stGK_s {v : V} {gr : List Int} {x n sd y z j : Int} {A : OA nf} (e : env[i]? = some (.ow v (stA nf gr x n sd))) (ea : stP gr x n sd j (y + z) = A) (e2 : env.set i (.ow v A) = env') (h : De.nx env') : StGK i j v y De (.int z) env := ⟨z, gr, x, n, sd, rfl, e, by rw [ea, e2]; exact h⟩
theorem sStPop_s {v : V} {y : Int} {gr : List Int} {x n sd : Int} (e : env[i]? = some (.ow v (stA nf (y :: gr) x n sd))) (e2 : env.set i (.ow v (stA nf gr y n sd)) = env') (h : De.nx env') : sStPop i De env := ⟨v, y, gr, x, n, sd, e, by rw [e2]; exact h⟩
def RetStK (K : PySem.W.Frag) (i : Nat) (v : V) (gr : List Int) (De : EndsD nf) : List D → EV nf → Prop := fun xs env1 => ∃ x n sd, xs = [.int x, .int n, .int sd] ∧ env1[i]? = some (.ow v (lstA K nf (gr.map .int))) ∧ ∀ p, De.ro (.ref p) (stA nf gr x n sd) (env1.set i .un)
theorem sRetSt_s {v : V} {gr : List Int} (e : env[i]? = some (.ow v (lstA K nf (gr.map .int)))) (h : ra env (RetStK K i v gr De)) : sRetSt K i ra De env := ⟨v, gr, e, h⟩
theorem retStK_s {v : V} {gr : List Int} {x n sd : Int} (e : env[i]? = some (.ow v (lstA K nf (gr.map .int)))) (e2 : env.set i .un = env') (h : ∀ p, De.ro (.ref p) (stA nf gr x n sd) env') : RetStK K i v gr De [.int x, .int n, .int sd] env := ⟨x, n, sd, rfl, e, by rw [e2]; exact h⟩
theorem stP1 {gr : List Int} {x n sd z : Int} : stP gr x n sd 1 z = stA nf gr z n sd := rfl
theorem stP2 {gr : List Int} {x n sd z : Int} : stP gr x n sd 2 z = stA nf gr x z sd := rfl
theorem stP3 {gr : List Int} {x n sd z : Int} : stP gr x n sd 3 z = stA nf gr x n z := rfl
/-! owned results -/
def CallOK (n : Nat) (S : SpO nf) (dds : List D) (i : Nat) (De : EndsD nf) : List AD → EV nf → Prop := fun ads env1 => ads.length + dds.length = n ∧ (slotsOf (ads ++ dds.map AD.v)).Nodup ∧ (∀ i ∈ slotsOf (ads ++ dds.map AD.v), i < env1.length) ∧ i < env1.length ∧
  S ((ads ++ dds.map AD.v).map (resolve env1)) fun s as' => De.nx ((putBack env1 (ads ++ dds.map AD.v) as').set i s)
theorem sCallO_s {S : SpO nf} {dds : List D} (h : rm env (CallOK n S dds i De)) : sCallO n S dds rm i De env := h
def PutOK (env : EV nf) (ads : List AD) (i : Nat) (De : EndsD nf) : SD nf → List (SD nf) → Prop := fun s as' => De.nx ((putBack env ads as').set i s)
theorem putOK_s {ads : List AD} {s : SD nf} {as' : List (SD nf)} (e : (putBack env ads as').set i s = env') (h : De.nx env') : PutOK env ads i De s as' := by show De.nx ((putBack env ads as').set i s); rw [e]; exact h
theorem callOK_s {S : SpO nf} {dds : List D} {ads ads' : List AD} {as : List (SD nf)} (h1 : ads.length + dds.length = n) (e1 : ads ++ dds.map AD.v = ads') (h2 : ndB (slotsOf ads') = true) (h3 : (slotsOf ads').all (fun i => Nat.blt i env.length) = true) (h4 : Nat.blt i env.length = true)
    (e2 : ads'.map (resolve env) = as) (h : S as (PutOK env ads' i De)) : CallOK n S dds i De ads env := by subst e1; subst e2; exact ⟨h1, nd_of h2, ofAll h3, Nat.blt_eq.mp h4, h⟩
/-! an object on the way -/
def FldSK (K : PySem.W.Frag) (C : Addr) (i : Nat) (m : Str) (De : EndsD nf) : D → EV nf → Prop := fun d env1 => ∃ v fds, env1[i]? = some (.ow v (insA K nf C fds)) ∧ fds.lookup m = none ∧ fds.length < 999 ∧
  (fds.length + 1 < nf C → De.nx (env1.set i (.ow v (insA K nf C (fds ++ [(m, d)]))))) ∧ (fds.length + 1 = nf C → De.nx (env1.set i (.fr v (.obj C (fds ++ [(m, d)])))))
theorem sFldS_s {C : Addr} {m : Str} (h : da env (FldSK K C i m De)) : sFldS K C i m da De env := h
theorem fldLast_s {C : Addr} {m : Str} {v : V} {fds : List (Str × D)} (e : env[i]? = some (.ow v (insA K nf C fds))) (e0 : fds.lookup m = none) (hl : fds.length < 999) (hn : nf C = fds.length + 1) (e2 : env.set i (.fr v (.obj C (fds ++ [(m, d)]))) = env') (h : De.nx env') : FldSK K C i m De d env :=
  ⟨v, fds, e, e0, hl, fun z => by omega, fun _ => by rw [e2]; exact h⟩
theorem fldMore_s {C : Addr} {m : Str} {v : V} {fds : List (Str × D)} (e : env[i]? = some (.ow v (insA K nf C fds))) (e0 : fds.lookup m = none) (hl : fds.length < 999) (hn : fds.length + 1 < nf C) (e2 : env.set i (.ow v (insA K nf C (fds ++ [(m, d)]))) = env') (h : De.nx env') : FldSK K C i m De d env :=
  ⟨v, fds, e, e0, hl, fun _ => by rw [e2]; exact h, fun z => by omega⟩
/-! loops -/
theorem sFor_s {g : DG nf} (h : ra env fun ds env1 => dFor g b ds De env1) : sFor ra g b De env := h
theorem forNil_s {g : DG nf} (h : De.nx env) : dFor g b [] De env := h
theorem forCons_s {g : DG nf} {ds : List D} (h : g d env fun env1 => b { De with nx := dFor g b ds De, ct := dFor g b ds De, bk := De.nx } env1) : dFor g b (d :: ds) De env := h
def IlK (QA : List D → EV nf → Prop) : D → EV nf → Prop := fun d env1 => ∃ xs, lsOf d = some xs ∧ QA xs env1
theorem iL_s (h : da env (IlK QA)) : iL da env QA := h
theorem ilK_s {xs : List D} (h : QA xs env) : IlK QA (.lst xs) env := ⟨xs, rfl, h⟩
theorem ilS_s {ns : List Int} (h : QA (ns.map .int) env) : IlK QA (.scr ns) env := ⟨_, rfl, h⟩
def ItK (QA : List D → EV nf → Prop) : D → EV nf → Prop := fun d env1 => ∃ xs, d = .tup xs ∧ QA xs env1
theorem iT_s (h : da env (ItK QA)) : iT da env QA := h
theorem itK_s {xs : List D} (h : QA xs env) : ItK QA (.tup xs) env := ⟨xs, rfl, h⟩
def IsK (QA : List D → EV nf → Prop) : D → EV nf → Prop := fun d env1 => ∃ z, d = .str z ∧ QA (signsD z) env1
theorem iS_s (h : da env (IsK QA)) : iS da env QA := h
theorem isK_s {s : Str} (h : QA (signsD s) env) : IsK QA (.str s) env := ⟨s, rfl, h⟩
def IkK (QA : List D → EV nf → Prop) : D → EV nf → Prop := fun d env1 => ∃ kds, d = .dct kds ∧ QA (kds.map fun p => kD p.1) env1
theorem iK_s (h : da env (IkK QA)) : iK da env QA := h
theorem ikK_s {kds : List (Key × D)} (h : QA (kds.map fun p => kD p.1) env) : IkK QA (.dct kds) env := ⟨kds, rfl, h⟩
def IkvK (QA : List D → EV nf → Prop) : D → EV nf → Prop := fun d env1 => ∃ kds, d = .dct kds ∧ QA (kds.map fun p => .tup [kD p.1, p.2]) env1
theorem iKV_s (h : da env (IkvK QA)) : iKV da env QA := h
theorem ikvK_s {kds : List (Key × D)} (h : QA (kds.map fun p => .tup [kD p.1, p.2]) env) : IkvK QA (.dct kds) env := ⟨kds, rfl, h⟩
def Ir1K (QA : List D → EV nf → Prop) : List D → EV nf → Prop := fun ds env1 => ∃ n : Int, ds = [.int n] ∧ (-(2 ^ 62) ≤ n ∧ n < 2 ^ 62) ∧ QA (rangeD 0 n.toNat) env1
theorem iR1_s (h : ra env (Ir1K QA)) : iR1 ra env QA := h
theorem ir1K_s {n : Int} (hb : -(2 ^ 62) ≤ n ∧ n < 2 ^ 62) (h : QA (rangeD 0 n.toNat) env) : Ir1K QA [.int n] env := ⟨n, rfl, hb, h⟩
def Ir2K (QA : List D → EV nf → Prop) : List D → EV nf → Prop := fun ds env1 => ∃ a n : Int, ds = [.int a, .int n] ∧ (-(2 ^ 62) ≤ a ∧ a < 2 ^ 62 ∧ -(2 ^ 62) ≤ n ∧ n < 2 ^ 62) ∧ QA (rangeD a (n - a).toNat) env1
theorem iR2_s (h : ra env (Ir2K QA)) : iR2 ra env QA := h
theorem ir2K_s {a n : Int} (hb : -(2 ^ 62) ≤ a ∧ a < 2 ^ 62 ∧ -(2 ^ 62) ≤ n ∧ n < 2 ^ 62) (h : QA (rangeD a (n - a).toNat) env) : Ir2K QA [.int a, .int n] env := ⟨a, n, rfl, hb, h⟩
def LcK (g : DG nf) (ta : DB nf) (da : DT nf) (js : List Nat) (Q : D → EV nf → Prop) : List D → EV nf → Prop := fun ds env1 => dComp g ta da js ds [] (wipeD env1 js) fun acc env2 => Q (.lst acc) env2
def DcK (g : DG nf) (ta : DB nf) (da db : DT nf) (js : List Nat) (Q : D → EV nf → Prop) : List D → EV nf → Prop := fun ds env1 => dCompD g ta da db js ds [] (wipeD env1 js) fun acc env2 => Q (.dct acc) env2
theorem dLc_s {g : DG nf} {js : List Nat} (h : ra env (LcK g ta da js Q)) : dLc ra g ta da js env Q := h
theorem dDc_s {g : DG nf} {js : List Nat} (h : ra env (DcK g ta da db js Q)) : dDc ra g ta da db js env Q := h
theorem lcK_s {g : DG nf} {js : List Nat} {ds : List D} (e : wipeD env js = env') (h : dComp g ta da js ds [] env' fun acc env2 => Q (.lst acc) env2) : LcK g ta da js Q ds env := by subst e; exact h
theorem dcK_s {g : DG nf} {js : List Nat} {ds : List D} (e : wipeD env js = env') (h : dCompD g ta da db js ds [] env' fun acc env2 => Q (.dct acc) env2) : DcK g ta da db js Q ds env := by subst e; exact h
/-- a comprehension without a test whose element changes nothing -/
theorem lc_map {j : Nat} {de : DT nf} {Q : List D → EV nf → Prop} {env : EV nf} (f : D → D) (hj : env[j]? = some .un) {ds : List D}
    (he : ∀ x ∈ ds, ∀ R : D → EV nf → Prop, R (f x) (env.set j (.fz x)) → de (env.set j (.fz x)) R) (hl : ds.length ≤ 1000000) (q : Q (ds.map f) env) : dComp (gN j) dYes de [j] ds [] env Q :=
  lc_pure (fun _ => true) f hj (fun x _ R r => r) (fun x m _ R r => he x m R r) (by simpa using hl) (by rw [List.nil_append, List.filter_eq_self.mpr (fun _ _ => rfl)]; exact q)
theorem mem_signs {s : Str} {x : D} (h : x ∈ signsD s) : ∃ c ∈ s.cps.toList, x = .str ⟨#[c]⟩ := by
  simp only [signsD, List.mem_map] at h
  obtain ⟨c, hc, e⟩ := h
  exact ⟨c, hc, e.symm⟩
theorem signs_len {s : Str} : (signsD s).length = s.length := by simp [signsD, Str.length]
def InVK (K : PySem.W.Frag) (neg : Bool) (i : Nat) (Q : D → EV nf → Prop) : D → EV nf → Prop := fun x env1 => ∃ xs v us, lsAt K env1 i xs ∧ flatD x = some v ∧ flatDs xs = some us ∧ Q (.bl (if neg then !inV v us else inV v us)) env1
theorem dInV_s {neg : Bool} (h : da env (InVK K neg i Q)) : dInV K neg da i env Q := h
theorem inVK_s {xs : List D} {w : V} {us : List V} {v : V} {neg : Bool} (e : env[i]? = some (.ow v (lstA K nf xs))) (e1 : flatD x = some w) (e2 : flatDs xs = some us) (h : Q (.bl (if neg then !inV w us else inV w us)) env) : InVK K neg i Q x env := ⟨xs, w, us, .inr ⟨v, e⟩, e1, e2, h⟩
/-! places -/
theorem atI_of {α : Type} {xs : List α} {k : Int} (h0 : 0 ≤ k) (h : k < xs.length) : atI xs k = xs[k.toNat]? := by
  unfold atI ixN
  rw [if_pos h0, if_pos h]
  rfl
theorem atI_ex {α : Type} {xs : List α} {k : Int} (h0 : 0 ≤ k) (h : k < xs.length) : ∃ z ∈ xs, atI xs k = some z ∧ xs[k.toNat]? = some z := by
  have hk : k.toNat < xs.length := by omega
  exact ⟨xs[k.toNat], List.getElem_mem hk, by rw [atI_of h0 h]; exact List.getElem?_eq_getElem hk, List.getElem?_eq_getElem hk⟩
theorem atI_zero {α : Type} {x : α} {xs : List α} : atI (x :: xs) 0 = some x := by rw [atI_of (by omega) (by simp)]; rfl
theorem flat_strs : ∀ (ss : List Str), flatDs (ss.map D.str) = some (ss.map V.str)
  | [] => rfl
  | s :: ss => by show ((flatD (.str s)).bind fun v => (flatDs (ss.map D.str)).map fun vs => v :: vs) = _; rw [flat_strs ss]; rfl
/-! ends -/
theorem bo_nil : BackOk ([] : List (SD nf)) env := by cases env <;> trivial
theorem bo_fz {s : SD nf} {as : List (SD nf)} (h : BackOk as env) : BackOk (.fz d :: as) (s :: env) := h
theorem bo_un {s : SD nf} {as : List (SD nf)} (h : BackOk as env) : BackOk (.un :: as) (s :: env) := h
theorem bo_ow {v : V} {A A' : OA nf} {as : List (SD nf)} (h : BackOk as env) : BackOk (.ow v A :: as) (.ow v A' :: env) := ⟨.inl ⟨_, rfl⟩, h⟩
theorem bo_fr {v : V} {A : OA nf} {as : List (SD nf)} (h : BackOk as env) : BackOk (.ow v A :: as) (.fr v d :: env) := ⟨.inr ⟨_, rfl⟩, h⟩
theorem back_nil : back ([] : List (SD nf)) env = [] := by cases env <;> rfl
theorem back_fz {s : SD nf} {as : List (SD nf)} : back (.fz d :: as) (s :: env) = .fz d :: back as env := rfl
theorem back_un {s : SD nf} {as : List (SD nf)} : back (.un :: as) (s :: env) = .un :: back as env := rfl
theorem back_ow {s : SD nf} {v : V} {A : OA nf} {as : List (SD nf)} : back (.ow v A :: as) (s :: env) = s :: back as env := rfl
theorem pb_nil {as : List (SD nf)} : putBack env [] as = env := by cases as <;> rfl
theorem pb_v {s : SD nf} {r : List AD} {as : List (SD nf)} : putBack env (.v d :: r) (s :: as) = putBack env r as := rfl
theorem pb_o {s : SD nf} {r : List AD} {as : List (SD nf)} : putBack env (.o i :: r) (s :: as) = putBack (env.set i s) r as := rfl
theorem rs_v : resolve env (.v d) = .fz d := rfl
theorem rs_o : resolve env (.o i) = (env[i]?).getD .un := rfl
theorem wp_nil : wipeD env [] = env := rfl
theorem wp_cons {js : List Nat} : wipeD env (j :: js) = (wipeD env js).set j .un := rfl
theorem fnRt_s {as as' : List (SD nf)} {Qd : D → List (SD nf) → Prop} (hb : BackOk as env) (e : back as env = as') (h : Qd d as') : (fnEnds as Qd).rt d env := ⟨hb, by rw [e]; exact h⟩
theorem fnNx_s {as as' : List (SD nf)} {Qd : D → List (SD nf) → Prop} (hb : BackOk as env) (e : back as env = as') (h : Qd .non as') : (fnEnds as Qd).nx env := ⟨hb, by rw [e]; exact h⟩
theorem fnRo_s {as as' : List (SD nf)} {Qd : SD nf → List (SD nf) → Prop} {v : V} {A : OA nf} (hb : BackOk as env) (e : back as env = as') (h : Qd (.ow v A) as') : (fnEndsO as Qd).ro v A env := ⟨hb, by rw [e]; exact h⟩
theorem fnRtO_s {as as' : List (SD nf)} {Qd : SD nf → List (SD nf) → Prop} (hb : BackOk as env) (e : back as env = as') (h : Qd (.fz d) as') : (fnEndsO as Qd).rt d env := ⟨hb, by rw [e]; exact h⟩
end
end DL

/-! mathematics of dicts as lists of pairs, of sorted texts -/
namespace DL
open PySem L2
theorem nodup_len {α : Type} [DecidableEq α] : ∀ {l m : List α}, l.Nodup → (∀ x ∈ l, x ∈ m) → l.length ≤ m.length
  | [], _, _, _ => Nat.zero_le _
  | x :: l, m, nd, h => by
    have hx : x ∈ m := h x List.mem_cons_self
    have nd' := List.nodup_cons.mp nd
    have ih := nodup_len (m := m.erase x) nd'.2 fun y hy => by
      have : y ≠ x := fun e => nd'.1 (e ▸ hy)
      exact (List.mem_erase_of_ne this).mpr (h y (List.mem_cons_of_mem _ hy))
    have := List.length_erase_of_mem hx
    have hp : 0 < m.length := List.length_pos_of_mem hx
    rw [List.length_cons]
    omega
theorem valD_nil (k : Key) : valD [] k = none := rfl
theorem valD_cons (p : Key × D) (kds : List (Key × D)) (k : Key) : valD (p :: kds) k = if p.1 = k then some p.2 else valD kds k := by
  unfold valD
  rw [List.find?_cons]
  by_cases h : p.1 = k
  · simp [h]
  · simp [h]
theorem valD_mem : ∀ {kds : List (Key × D)} {k : Key} {d : D}, valD kds k = some d → (k, d) ∈ kds
  | [], _, _, h => by cases h
  | p :: kds, k, d, h => by
    rw [valD_cons] at h
    split at h
    · rename_i e; cases h; rw [← e]; exact List.mem_cons_self
    · exact List.mem_cons_of_mem _ (valD_mem h)
theorem valD_of : ∀ {kds : List (Key × D)} {k : Key} {d : D}, (kds.map (·.1)).Nodup → (k, d) ∈ kds → valD kds k = some d
  | [], _, _, _, h => by cases h
  | p :: kds, k, d, nd, h => by
    rw [List.map_cons] at nd
    have nd' := List.nodup_cons.mp nd
    rw [valD_cons]
    rcases List.mem_cons.mp h with e | m
    · subst e; simp
    · have : p.1 ≠ k := fun e => nd'.1 (e ▸ List.mem_map.mpr ⟨(k, d), m, rfl⟩)
      rw [if_neg this]
      exact valD_of nd'.2 m
theorem valD_none {kds : List (Key × D)} {k : Key} : valD kds k = none ↔ k ∉ kds.map (·.1) := by
  induction kds with
  | nil => simp [valD_nil]
  | cons p kds ih =>
    rw [valD_cons, List.map_cons, List.mem_cons]
    by_cases h : p.1 = k
    · rw [if_pos h]
      constructor
      · intro z; cases z
      · intro z; exact absurd (Or.inl h.symm) z
    · rw [if_neg h, ih]
      constructor
      · rintro z (w | w)
        · exact h w.symm
        · exact z w
      · exact fun z w => z (Or.inr w)
theorem valD_some {kds : List (Key × D)} {k : Key} (h : k ∈ kds.map (·.1)) : ∃ d, valD kds k = some d := by
  cases e : valD kds k with
  | none => exact absurd h (valD_none.mp e)
  | some d => exact ⟨d, rfl⟩
theorem putD_in {kds : List (Key × D)} {k : Key} {d : D} (h : k ∈ kds.map (·.1)) : putD kds k d = kds.map fun kv => if kv.1 = k then (kv.1, d) else kv := by
  unfold putD
  rw [if_pos]
  simp only [List.any_eq_true, decide_eq_true_eq]
  obtain ⟨p, hp, e⟩ := List.mem_map.mp h
  exact ⟨p, hp, e⟩
theorem putD_out {kds : List (Key × D)} {k : Key} {d : D} (h : k ∉ kds.map (·.1)) : putD kds k d = kds ++ [(k, d)] := by
  unfold putD
  rw [if_neg]
  simp only [List.any_eq_true, decide_eq_true_eq, not_exists, not_and]
  exact fun p hp e => h (List.mem_map.mpr ⟨p, hp, e⟩)
theorem map_put_keys (kds : List (Key × D)) (k : Key) (d : D) : (kds.map fun kv => if kv.1 = k then (kv.1, d) else kv).map (·.1) = kds.map (·.1) := by
  rw [List.map_map]
  apply List.map_congr_left
  intro p _
  simp only [Function.comp]
  split <;> rfl
theorem putD_keys (kds : List (Key × D)) (k : Key) (d : D) : (k ∈ kds.map (·.1) ∧ (putD kds k d).map (·.1) = kds.map (·.1)) ∨ (k ∉ kds.map (·.1) ∧ (putD kds k d).map (·.1) = kds.map (·.1) ++ [k]) := by
  by_cases h : k ∈ kds.map (·.1)
  · exact .inl ⟨h, by rw [putD_in h, map_put_keys]⟩
  · exact .inr ⟨h, by rw [putD_out h]; simp⟩
theorem putD_nd {kds : List (Key × D)} {k : Key} {d : D} (nd : (kds.map (·.1)).Nodup) : ((putD kds k d).map (·.1)).Nodup := by
  rcases putD_keys kds k d with ⟨_, e⟩ | ⟨h, e⟩
  · rw [e]; exact nd
  · rw [e]
    exact List.nodup_append.mpr ⟨nd, by simp, fun a ha b hb => by rw [List.mem_singleton.mp hb]; exact fun e => h (e ▸ ha)⟩
theorem valD_app (xs ys : List (Key × D)) (k : Key) : valD (xs ++ ys) k = (valD xs k).or (valD ys k) := by
  induction xs with
  | nil => simp [valD_nil]
  | cons p xs ih => rw [List.cons_append, valD_cons, valD_cons, ih]; split <;> simp
theorem valD_map_put (kds : List (Key × D)) (k k' : Key) (d : D) : valD (kds.map fun kv => if kv.1 = k then (kv.1, d) else kv) k' = if k' = k then (valD kds k').map (fun _ => d) else valD kds k' := by
  induction kds with
  | nil => simp [valD_nil]
  | cons p kds ih =>
    rw [List.map_cons, valD_cons, valD_cons, ih]
    by_cases h1 : p.1 = k
    · rw [if_pos h1]
      by_cases h2 : k' = k
      · simp [h1, h2]
      · simp [h1, h2, Ne.symm h2]
    · rw [if_neg h1]
      by_cases h2 : k' = k
      · subst h2; simp [h1]
      · simp [h2]
theorem valD_put (kds : List (Key × D)) (k k' : Key) (d : D) : valD (putD kds k d) k' = if k' = k then some d else valD kds k' := by
  by_cases h : k ∈ kds.map (·.1)
  · rw [putD_in h, valD_map_put]
    split
    · rename_i e
      subst e
      obtain ⟨d0, e0⟩ := valD_some h
      rw [e0]; rfl
    · rfl
  · rw [putD_out h, valD_app, valD_cons]
    by_cases e : k' = k
    · subst e
      rw [valD_none.mpr h]; simp
    · rw [if_neg e, if_neg (Ne.symm e)]
      simp [valD_nil]
theorem mem_put {kds : List (Key × D)} {k : Key} {d : D} {p : Key × D} (h : p ∈ putD kds k d) : p = (k, d) ∨ p ∈ kds := by
  by_cases hk : k ∈ kds.map (·.1)
  · rw [putD_in hk] at h
    obtain ⟨q, hq, e⟩ := List.mem_map.mp h
    split at e
    · rename_i e1; exact .inl (by rw [← e, e1])
    · exact .inr (e ▸ hq)
  · rw [putD_out hk] at h
    rcases List.mem_append.mp h with m | m
    · exact .inr m
    · exact .inl (List.mem_singleton.mp m)
theorem merge_nd : ∀ {more kds : List (Key × D)}, (kds.map (·.1)).Nodup → ((mergeD kds more).map (·.1)).Nodup
  | [], kds, nd => nd
  | p :: more, kds, nd => merge_nd (more := more) (kds := putD kds p.1 p.2) (putD_nd nd)
theorem mem_merge : ∀ {more kds : List (Key × D)} {p : Key × D}, p ∈ mergeD kds more → p ∈ kds ∨ p ∈ more
  | [], kds, p, h => .inl h
  | q :: more, kds, p, h => by
    rcases mem_merge (more := more) (kds := putD kds q.1 q.2) h with m | m
    · rcases mem_put m with e | m
      · exact .inr (e ▸ List.mem_cons_self)
      · exact .inl m
    · exact .inr (List.mem_cons_of_mem _ m)
theorem valD_merge : ∀ {more kds : List (Key × D)} (k : Key), (more.map (·.1)).Nodup → valD (mergeD kds more) k = (valD more k).or (valD kds k)
  | [], kds, k, _ => by simp [mergeD, valD_nil]
  | p :: more, kds, k, nd => by
    rw [List.map_cons] at nd
    have nd' := List.nodup_cons.mp nd
    show valD (mergeD (putD kds p.1 p.2) more) k = _
    rw [valD_merge k nd'.2, valD_put, valD_cons]
    by_cases e : k = p.1
    · subst e
      rw [valD_none.mpr nd'.1]; simp
    · rw [if_neg e, if_neg (Ne.symm e)]
/-- what a dict comprehension over names makes -/
theorem fold_put (g : Str → D) : ∀ (ys : List Str) (acc : List (Key × D)), ys.Nodup → (∀ y ∈ ys, (Sum.inr y : Key) ∉ acc.map (·.1)) → ys.foldl (fun acc y => putD acc (.inr y) (g y)) acc = acc ++ ys.map fun y => (Sum.inr y, g y)
  | [], acc, _, _ => by simp
  | y :: ys, acc, nd, h => by
    have nd' := List.nodup_cons.mp nd
    rw [List.foldl_cons, putD_out (h y List.mem_cons_self), fold_put g ys _ nd'.2]
    · simp
    · intro z hz
      rw [List.map_append, List.mem_append]
      rintro (w | w)
      · exact h z (List.mem_cons_of_mem _ hz) w
      · have : z = y := by simpa using w
        exact nd'.1 (this ▸ hz)
/-! sorted texts -/
open PyProof.Rows PySem.Spec in
theorem leS_trans {a b c : Str} (h1 : ltCps b.cps.toList a.cps.toList = false) (h2 : ltCps c.cps.toList b.cps.toList = false) : ltCps c.cps.toList a.cps.toList = false := by
  rw [ltCps_eq, decide_eq_false_iff_not] at h1 h2 ⊢
  exact List.not_lt.mpr (List.le_trans (List.not_lt.mp h1) (List.not_lt.mp h2))
open PyProof.Rows PySem.Spec in
theorem leS_anti {a b : Str} (h1 : ltCps b.cps.toList a.cps.toList = false) (h2 : ltCps a.cps.toList b.cps.toList = false) : a = b := by
  rw [ltCps_eq, decide_eq_false_iff_not] at h1 h2
  have e := List.le_antisymm (List.not_lt.mp h1) (List.not_lt.mp h2)
  cases a; cases b
  simp only at e
  rw [Array.toList_inj] at e
  rw [e]
open PyProof.Rows PySem.Spec in
theorem sortedS_pw : ∀ {l : List Str}, sortedS l = true → l.Pairwise (fun a b => ltCps b.cps.toList a.cps.toList = false) := by
  have rise : ∀ (l : List Str) (p : Str), risingS p l = true → (p :: l).Pairwise (fun a b => ltCps b.cps.toList a.cps.toList = false) := by
    intro l
    induction l with
    | nil => intro p _; simp
    | cons x l ih =>
      intro p h
      have h' : (!ltCps x.cps.toList p.cps.toList && risingS x l) = true := h
      simp only [Bool.and_eq_true, Bool.not_eq_true'] at h'
      have ihx := ih x h'.2
      refine List.pairwise_cons.mpr ⟨fun y hy => ?_, ihx⟩
      rcases List.mem_cons.mp hy with e | m
      · subst e; exact h'.1
      · exact leS_trans h'.1 (List.rel_of_pairwise_cons ihx m)
  intro l h
  cases l with
  | nil => simp
  | cons x l => exact rise l x h
/-- two sorted lists of the same things are one -/
theorem sorted_eq {α : Type} {r : α → α → Prop} (anti : ∀ a b, r a b → r b a → a = b) : ∀ {l m : List α}, l.Pairwise r → m.Pairwise r → l.Perm m → l = m
  | [], m, _, _, p => by rw [List.nil_perm.mp p]
  | x :: l, [], _, _, p => by exact absurd p.length_eq (by simp)
  | x :: l, y :: m, h1, h2, p => by
    have hx : x ∈ y :: m := p.subset List.mem_cons_self
    have hy : y ∈ x :: l := p.symm.subset List.mem_cons_self
    have e : x = y := by
      rcases List.mem_cons.mp hx with e | mx
      · exact e
      · rcases List.mem_cons.mp hy with e | my
        · exact e.symm
        · exact anti x y (List.rel_of_pairwise_cons h1 my) (List.rel_of_pairwise_cons h2 mx)
    subst e
    rw [sorted_eq anti (List.pairwise_cons.mp h1).2 (List.pairwise_cons.mp h2).2 (List.Perm.cons_inv p)]
open PyProof.Rows in
theorem sortedS_eq {l m : List Str} (h1 : sortedS l = true) (h2 : sortedS m = true) (p : l.Perm m) : l = m := sorted_eq (fun a b => leS_anti) (sortedS_pw h1) (sortedS_pw h2) p
/-- lists without doubles that have the same items -/
theorem perm_of {α : Type} [DecidableEq α] {l m : List α} (h1 : l.Nodup) (h2 : m.Nodup) (h : ∀ x, x ∈ l ↔ x ∈ m) : l.Perm m := (List.perm_ext_iff_of_nodup h1 h2).mpr h
/-! ### plain data: what == compares -/
mutual
def plainB : D → Bool
  | .non => true
  | .bl _ => true
  | .int _ => true
  | .str s => PyData.strOk s
  | .lst xs => plainsB xs
  | .tup xs => plainsB xs
  | _ => false
def plainsB : List D → Bool
  | [] => true
  | x :: xs => plainB x && plainsB xs
end
mutual
def depD : D → Nat
  | .lst xs => depsD xs + 1
  | .tup xs => depsD xs + 1
  | _ => 0
def depsD : List D → Nat
  | [] => 0
  | x :: xs => max (depD x) (depsD xs)
end
theorem plains_iff : ∀ {xs : List D}, plainsB xs = true ↔ ∀ x ∈ xs, plainB x = true
  | [] => by simp [plainsB]
  | x :: xs => by simp only [plainsB, Bool.and_eq_true, plains_iff (xs := xs), List.mem_cons, forall_eq_or_imp]
theorem deps_le : ∀ {xs : List D} {n : Nat}, depsD xs ≤ n ↔ ∀ x ∈ xs, depD x ≤ n
  | [], _ => by simp [depsD]
  | x :: xs, n => by simp only [depsD, Nat.max_le, deps_le (xs := xs), List.mem_cons, forall_eq_or_imp]
mutual
theorem py_of : ∀ {x : D}, plainB x = true → ∃ p, pyOf x = some p ∧ p.canLay0 = true ∧ p.depth = depD x ∧ PyData.eqv p p = true
  | .non, _ => ⟨.none, rfl, by simp [PyData.canLay0], by simp [PyData.depth, depD], by simp [PyData.eqv]⟩
  | .bl b, _ => ⟨.bool b, rfl, by simp [PyData.canLay0], by simp [PyData.depth, depD], by simp [PyData.eqv]⟩
  | .int i, _ => ⟨.int i, rfl, by simp [PyData.canLay0], by simp [PyData.depth, depD], by simp [PyData.eqv]⟩
  | .str s, h => ⟨.str s, rfl, by simpa [PyData.canLay0, plainB] using h, by simp [PyData.depth, depD], by simp [PyData.eqv]⟩
  | .lst xs, h => by
    obtain ⟨ps, e, c, d, q⟩ := pys_of (xs := xs) (by simpa [plainB] using h)
    exact ⟨.list ps, by simp [pyOf, e], by simpa [PyData.canLay0] using c, by simp [PyData.depth, depD, d], by simpa [PyData.eqv] using q⟩
  | .tup xs, h => by
    obtain ⟨ps, e, c, d, q⟩ := pys_of (xs := xs) (by simpa [plainB] using h)
    exact ⟨.tuple ps, by simp [pyOf, e], by simpa [PyData.canLay0] using c, by simp [PyData.depth, depD, d], by simpa [PyData.eqv] using q⟩
  | .ty _, h => by simp [plainB] at h
  | .cls _, h => by simp [plainB] at h
  | .dct _, h => by simp [plainB] at h
  | .obj _ _, h => by simp [plainB] at h
  | .scr _, h => by simp [plainB] at h
theorem pys_of : ∀ {xs : List D}, plainsB xs = true → ∃ ps, pyOfs xs = some ps ∧ PyData.canLayAll0 ps = true ∧ PyData.depthAll ps = depsD xs ∧ PyData.eqvAll ps ps = true
  | [], _ => ⟨[], rfl, by simp [PyData.canLayAll0], by simp [PyData.depthAll, depsD], by simp [PyData.eqvAll]⟩
  | x :: xs, h => by
    rw [plainsB, Bool.and_eq_true] at h
    obtain ⟨p, e, c, d, q⟩ := py_of h.1
    obtain ⟨ps, es, cs, ds, qs⟩ := pys_of h.2
    exact ⟨p :: ps, by simp [pyOfs, e, es], by simp [PyData.canLayAll0, c, cs], by simp [PyData.depthAll, depsD, d, ds], by simp [PyData.eqvAll, q, qs]⟩
end
section
variable {nf : Addr → Nat} {Q : D → EV nf → Prop} {x y : D} {env : EV nf}
theorem eqRefl_s (e : x = y) (h1 : plainB x = true) (h2 : depD x ≤ 64) (h : Q (.bl true) env) : OpK (eqQ false) Q x y env := by
  subst e
  obtain ⟨p, e, c, d, q⟩ := py_of h1
  have s : SeqAt.shaped p = true := by unfold SeqAt.shaped; rw [c, d]; simpa using h2
  exact eqDF_s e e s s (by rw [q]; exact h)
theorem neRefl_s (e : x = y) (h1 : plainB x = true) (h2 : depD x ≤ 64) (h : Q (.bl false) env) : OpK (eqQ true) Q x y env := by
  subst e
  obtain ⟨p, e, c, d, q⟩ := py_of h1
  have s : SeqAt.shaped p = true := by unfold SeqAt.shaped; rw [c, d]; simpa using h2
  exact eqDT_s e e s s (by rw [q]; exact h)
/-- xs == [] -/
theorem eqEmpty_s {xs : List D} (h1 : plainsB xs = true) (h2 : depsD xs ≤ 63) (h : Q (.bl xs.isEmpty) env) : OpK (eqQ false) Q (.lst xs) (.lst []) env := by
  obtain ⟨ps, e, c, d, q⟩ := pys_of h1
  have e1 : pyOf (.lst xs) = some (.list ps) := by simp [pyOf, e]
  have s : SeqAt.shaped (.list ps) = true := by unfold SeqAt.shaped; simp [PyData.canLay0, c, PyData.depth, d]; omega
  refine eqDF_s (q := .list []) e1 rfl s (by decide +kernel) ?_
  have : PyData.eqv (.list ps) (.list []) = xs.isEmpty := by
    cases xs with
    | nil => simp only [pyOfs, Option.some.injEq] at e; subst e; rfl
    | cons y ys =>
      have : ps ≠ [] := fun z => by
        subst z
        simp only [pyOfs] at e
        cases hy : pyOf y with
        | none => rw [hy] at e; cases e
        | some p =>
          rw [hy] at e
          cases hys : pyOfs ys with
          | none => rw [hys] at e; cases e
          | some qs => rw [hys] at e; cases e
      cases ps with
      | nil => exact absurd rfl this
      | cons p ps => simp [PyData.eqv, PyData.eqvAll]
  rw [this]
  exact h
theorem neEmpty_s {xs : List D} (h1 : plainsB xs = true) (h2 : depsD xs ≤ 63) (h : Q (.bl (!xs.isEmpty)) env) : OpK (eqQ true) Q (.lst xs) (.lst []) env := by
  obtain ⟨z, hz, hq⟩ := eqEmpty_s (Q := fun d env => ∃ b, d = .bl b ∧ Q (.bl (!b)) env) (env := env) h1 h2 ⟨_, rfl, h⟩
  obtain ⟨b, rfl, hq⟩ := hq
  rcases hz with ⟨c, e, ec⟩ | ⟨p, q, e1, e2, s1, s2, e⟩ | ⟨ks, ls, e1, _⟩
  · cases e
  · refine eqDT_s e1 e2 s1 s2 ?_
    have : b = PyData.eqv p q := by cases e; rfl
    rw [← this]
    exact hq
  · cases e1
end
theorem strs_plain {ss : List Str} (h : ∀ s ∈ ss, PyData.strOk s = true) : plainsB (ss.map .str) = true := plains_iff.mpr fun x hx => by
  obtain ⟨s, hs, rfl⟩ := List.mem_map.mp hx
  exact h s hs
theorem strs_dep (ss : List Str) : depsD (ss.map .str) = 0 := Nat.le_zero.mp (deps_le.mpr fun x hx => by
  obtain ⟨s, hs, rfl⟩ := List.mem_map.mp hx
  simp [depD])
end DL

/-! the end: the head's goal from the law's promise -/
namespace DL
open PySem L2
theorem kit_of {K : PySem.W.Frag} {C : Addr} {t : Value} {b : Bool} {x : _} (h1 : PySem.W.clsIn K C = some x) (h2 : PySem.W.typeIn K (.ref C) = some (.type "type")) (h3 : PySem.W.subIn K t (.ref C) = some b) (hn : (t == .ref C) = false) : PySem.W.kitOne K t (.ref C) = some b := by
  unfold PySem.W.kitOne PySem.W.kitCls
  rw [if_neg (by rw [hn]; exact Bool.false_ne_true)]
  show (if ((PySem.W.clsIn K C).isSome && PySem.W.typeIn K (.ref C) == some (.type "type")) = true then PySem.W.subIn K t (.ref C) else none) = some b
  rw [h1, h2]
  exact h3
theorem toSp_start {K : PySem.W.Frag} {nf : Addr → Nat} {S : SpD nf} {H : Hp} {a : Addr} {ns : List Int} {E : XK} (hO : Only H) (hS : SqL K H a (ns.map V.int)) (h : S [.fz (.scr ns)] fun d _ => d = .bl true) : toSp K nf 1 S [.ref a] H (fun v _ => v = .bl true) E := by
  have sl : SlotR K nf H (some (.ref a)) [] (.fz (.scr ns)) := ⟨rfl, _, rfl, .scr (.of hS hO)⟩
  have R : EnvL K nf H [some (.ref a)] [.fz (.scr ns)] ([] ++ []) := .cons sl .nil (fun a m => by cases m)
  refine ⟨rfl, [.fz (.scr ns)], [], _, rfl, R, h, fun v H' d as' fp' _ r _ _ q => ?_⟩
  subst q
  exact rel_bl r
theorem walkD {l : PySem.W.OpenLaw} {n k : Nat} {q : Program} {loose : List Str} {XP : (Str → Option Value) → Heap → Prop} {YP : World → Heap → Prop} {d : DefRec} {K : Params → PySem.W.Frag} {x : Str} {S : World → PySem.W.Frag → Sp → Prop}
    (hn : l.most = some n) (hn2 : n ≤ sizeLine) (hdf : d.params.defaults = []) (hr : Room k callerA)
    (hY : ∀ (w : World) (h : Heap), YP w h → (K w.params).In h)
    (F : ∀ (w : World) (mg : Str → Option Value) (fa : Addr) (h : Heap), (K w.params).In h → h.Ns mainGlobals mg → XP mg h → mg d.name = some (.ref fa) →
      ∃ (fd : FuncData) (sp : Sp), (∀ (s : Shared) (u : Value), BindsTo s fd ⟨[u], []⟩ [(x, u)]) ∧ S w (K w.params) sp ∧
        ∀ base : Heap, (K w.params).In base → base.Ns mainGlobals mg → FnOk l.prog w (K w.params) mg base CX0 k fa fd [x] sp)
    (Z : ∀ (w : World) (K : PySem.W.Frag) (sp : Sp), S w K sp → ∀ (H : Hp) (a : Addr) (ns : List Int), ns.length ≤ n → Only H → SqL K H a (ns.map V.int) → sp [.ref a] H (fun v _ => v = .bl true) fun _ _ _ => False) :
    PySem.W.WalkO q loose XP YP l.row.toRowW d [] (fun f vs => PySem.call f vs) := by
  refine Att.attach_call hn hdf fun w s₀ s₁ mg mb fa o pm cd doc a vs ns G Y ho hd hcd hmg hobj hints hlen hg => ?_
  have KX := hY w _ Y
  obtain ⟨fd, sp, hb, hS, hF⟩ := F w mg fa _ KX G.T.g G.X hmg
  exact law_call KX G.T.g G.T.b G.T.builtins G.T.nolimit hg hobj hints (Nat.le_trans hlen hn2) hr hF hb (fun H hO hL => Z w _ sp hS H a ns hlen hO hL) fun H e s' z => z
end DL

/-! more at D level: own ==, !=, own operators with a list or a tuple, == of dicts, is of bools, pop of a dict, a slot that is owned or frozen -/
namespace DL
open PySem L2
/-! ### != by an own == -/
section
open PySem.W PySem.Calls PyProof.Rows
variable {prog : Program} {w : World} {A : Around} {E : Value → Shared → Prop} {s : Shared} {K : Frag} {x y C f : Addr} {ox : Obj} {od : Option Obj}
theorem neEntry {Q : Fin → Shared → Prop} (X : K.In s.heap) (I : InstAt s.heap x ox C od) (he : findIn K (.ref C) "__eq__" = some (some (.ref f))) (hf : isFn K (.ref f) = true) (hu : A.units < cLine)
    (hc : wpAny (model prog w) A (call (.ref f) [.ref x, .ref y]) (fun v s' => ∃ b, v = .bool b ∧ Q (.done (.ret (.bool (!b)))) s') E s) :
    wpAny (model prog w) A (Builtin.«object.__ne__» ⟨[.ref x, .ref y], []⟩) Q E s := by
  unfold Builtin.«object.__ne__»
  have e : (slotArgs "__ne__" 1 ⟨[.ref x, .ref y], []⟩ : Sem (Value × List Value)) = pure (.ref x, [.ref y]) := by
    unfold slotArgs
    simp
  rw [e]
  simp only [pure_bind]
  refine wpAny_bind (wpAny_cRoomFor hu ?_)
  refine wpAny_bind (ifBound_K X I he hf (wpAny_mono hc (fun v s' ⟨b, ev, q⟩ => ?_) fun _ _ z => z))
  subst ev
  exact wpAny_bind (wpAny_truthy_bool (wpAny_pure q))
theorem neBound {Q : Option Value → Shared → Prop} {args : List Value} (X : K.In s.heap) (I : InstAt s.heap x ox C od) (hn : findIn K (.ref C) "__ne__" = some (some (.builtin "object.__ne__")))
    (h : wpAny (model prog w) A (call (.builtin "object.__ne__") (.ref x :: args)) (fun v => Q (some v)) E s) : wpAny (model prog w) A (callSpecialIfBound? (.ref x) "__ne__" args) Q E s := by
  unfold callSpecialIfBound? bindSpecialIfBound?
  refine wpAny_holding (wpAny_bind (wpAny_bind (wpAny_bind (I.type.here ((looks_findIn X hn).here ?_)))))
  have last : wpAny (model prog w) A (call (.builtin "object.__ne__") ([.ref x] ++ args) >>= fun v => pure (some v)) Q E s := wpAny_bind (wpAny_mono h (fun _ _ z => wpAny_pure z) fun _ _ z => z)
  refine wpAny_bind (wpAny_askSetting (wpAny_ite ?_))
  split
  · exact wpAny_bind (wpAny_of_eq (F.cmp_object.ne.bind _) (wpAny_pure (by exact last)))
  · exact wpAny_tryCatch (wpAny_bind (wpAny_of_eq (F.cmp_object.ne.bind _) (wpAny_pure (by exact last))))
theorem neOwn_run {oy : Obj} {od2 : Option Obj} {Q : Value → Shared → Prop} (X : K.In s.heap) (I : InstAt s.heap x ox C od) (J : InstAt s.heap y oy C od2) (he : findIn K (.ref C) "__eq__" = some (some (.ref f))) (hf : isFn K (.ref f) = true)
    (hn : findIn K (.ref C) "__ne__" = some (some (.builtin "object.__ne__"))) (hm : mroIn K C (.type "object") = some true) (hu : A.units + 1 < cLine)
    (hc : wpAny (model prog w) A.in1 (call (.ref f) [.ref x, .ref y]) (fun v s' => ∃ b, v = .bool b ∧ Q (.bool (!b)) s') E s) : wpAny (model prog w) A (compareOp .NotEq (.ref x) (.ref y)) Q E s := by
  have one : wpAny (model prog w) A (tryCompare (.ref x) "__ne__" (.ref y)) (fun r s' => ∃ b, r = some (.bool b) ∧ Q (.bool b) s') E s := by
    unfold tryCompare
    refine wpAny_bind (neBound X I hn (wpAny_call (codeAny_call_builtin F.cmp_object.ne.plain F.cmpEntry_ne (check_slot F.cmpKind_ne F.cmpSplit_ne (I.type.andThen (looks_mroIn X hm)) (F.cmpArgs_ne _ _) (neEntry (A := A.in1) X I he hf hu (wpAny_mono hc (fun v s' ⟨b, ev, q⟩ => ?_) fun _ _ z => z))))))
    refine ⟨b, ev, ?_⟩
    exact wpAny_pure ⟨_, rfl, q⟩
  unfold compareOp richCompare
  simp only [oneThing_ref]
  refine wpAny_holding (wpAny_bind (wpAny_cRoomFor (Nat.lt_of_succ_lt hu) ?_))
  rw [cmpInfo_NotEq]
  dsimp only
  refine wpAny_bind (I.type.here (wpAny_bind (J.type.here ?_)))
  rw [show (Value.ref C != Value.ref C) = false from by simp]
  simp only [Bool.false_eq_true, if_false]
  refine wpAny_bind (wpAny_pure ?_)
  simp only [Bool.false_eq_true, if_false]
  refine wpAny_bind (wpAny_mono one (fun r s' ⟨b, er, q⟩ => ?_) fun _ _ z => z)
  subst er
  exact wpAny_pure q
end
section
variable [Anch] {X : Cx} {nf : Addr → Nat} {K : PySem.W.Frag} {CX : CXT} {k : Nat} {f C : Addr} {fd : FuncData} {ps : List Str} {sp : Sp} {E : XK} {op : Operator}
/-- an own class has ==, and no != of its own -/
structure EqC (K : PySem.W.Frag) (C f : Addr) : Prop where
  hs : PySem.W.findIn K (.ref C) "__eq__" = some (some (.ref f))
  hf : PySem.W.isFn K (.ref f) = true
  hn : PySem.W.findIn K (.ref C) "__ne__" = some (some (.builtin "object.__ne__"))
  hm : PySem.W.mroIn K C (.type "object") = some true
  hd : PySem.W.subIn K (.type "dict") (.ref C) = some false
theorem op_eqOwn (F : FnOk X.prog X.w X.K X.mg X.base CX k f fd ps sp) (hr : Room k X.A) (hb : Binds X.K fd ps []) (hx : Passes CX X E) (o : EqC X.K C f) :
    OpR X (compareOp .Eq) (fun x y H Q => (∃ a b dx fs, x = .ref a ∧ y = .ref b ∧ H a = some (.ins C dx fs) ∧ ((∃ dy gs, H b = some (.ins C dy gs)) ∨ ∃ kvs, Rd H b (.dK kvs))) ∧ sp [x, y] H Q E) := by
  intro pins s σ H x y v u Q I rx ry ⟨⟨a, b, dx, fs, ex, ey, ha, hb'⟩, h⟩
  subst ex ey
  cases rx; cases ry
  obtain ⟨m, hF⟩ := I.fr
  obtain ⟨mA, O, _⟩ := ins_get I.hok ha
  obtain ⟨od, J, _⟩ := O.look
  have run := wpAny_mono (run_fn F hr hb .nil hx I (.cons (rv_ref _) (.cons (rv_ref _) .nil)) h) (fun _ _ q => cmpBack_of q) fun _ _ e => e
  unfold compareOp
  rcases hb' with ⟨dy, gs, hb'⟩ | ⟨kvs, hb'⟩
  · obtain ⟨mB, O2, _⟩ := ins_get I.hok hb'
    obtain ⟨od2, J2, _⟩ := O2.look
    exact PySem.W.cmp_K hr.units0 hF I.mod.kin J J2.type (by simp [PySem.W.notFirst]) o.hs o.hf run
  · obtain ⟨_, _, vs, _, dd⟩ := dk_rd I.hok hb'
    obtain ⟨ob, es, ep, h1, h2, _⟩ := id dd
    exact PySem.W.cmp_K hr.units0 hF I.mod.kin J (tb := .type "dict") (h2.1 ▸ (PySem.W.Looks.ld h1).andThen .now) (by simp [PySem.W.notFirst, o.hd]) o.hs o.hf run
theorem op_neOwn (F : FnOk X.prog X.w X.K X.mg X.base CX k f fd ps sp) (hr : Room (k + 1) X.A) (hb : Binds X.K fd ps []) (hx : Passes CX X E) (o : EqC X.K C f) :
    OpR X (compareOp .NotEq) (fun x y H Q => (∃ a b dx dy fs gs, x = .ref a ∧ y = .ref b ∧ H a = some (.ins C dx fs) ∧ H b = some (.ins C dy gs)) ∧ sp [x, y] H (fun v H' => ∃ c, v = .bl c ∧ Q (.bl (!c)) H') E) := by
  intro pins s σ H x y v u Q I rx ry ⟨⟨a, b, dx, dy, fs, gs, ex, ey, ha, hb'⟩, h⟩
  subst ex ey
  cases rx; cases ry
  obtain ⟨mA, O, _⟩ := ins_get I.hok ha
  obtain ⟨od, J, _⟩ := O.look
  obtain ⟨mB, O2, _⟩ := ins_get I.hok hb'
  obtain ⟨od2, J2, _⟩ := O2.look
  have hl : ([Value.ref a, .ref b] ++ []).length = ps.length := F.len _ _ _ _ h
  refine neOwn_run I.kIn J J2 o.hs o.hf o.hn o.hm (by have := hr.un; omega) (wpAny_call (codeAny_mono (F.run X.A.in1 X.stack s H ⟨[.ref a, .ref b], []⟩ ([.ref a, .ref b] ++ []) [.ref a, .ref b] _ E hr.in1 I.env0.in1 (hb s [.ref a, .ref b] I.kIn hl) (.cons (rv_ref _) (.cons (rv_ref _) .nil)) h) fun r s' hq => ?_))
  cases r with
  | error e => exact hx pins σ H s e s' I hq
  | ok fl =>
    cases fl with
    | ret z =>
      obtain ⟨w, H', I', r', c, ew, q⟩ := I.after hq
      subst ew
      cases r'
      exact ⟨c, rfl, .bl (!c), H', I', rfl, q⟩
    | next => exact False.elim hq
    | brk => exact False.elim hq
    | cont => exact False.elim hq
variable {a b : Expr} {pos : Pos} {da db : DT nf} {S : SpD nf}
def eqP (C : Addr) : D → D → Prop := fun x y => isO C x ∧ (isO C y ∨ isDct y)
def neP (C : Addr) : D → D → Prop := fun x y => isO C x ∧ isO C y
theorem eqP_r {H : Hp} {v w : V} {x y : D} {Q : VK} (r1 : Rel K nf H v x) (r2 : Rel K nf H w y) (p : eqP C x y) (h : toSp K nf 2 S [v, w] H Q E) :
    (∃ a b dx fs, v = .ref a ∧ w = .ref b ∧ H a = some (.ins C dx fs) ∧ ((∃ dy gs, H b = some (.ins C dy gs)) ∨ ∃ kvs, Rd H b (.dK kvs))) ∧ toSp K nf 2 S [v, w] H Q E := by
  obtain ⟨⟨fs, e1⟩, ⟨gs, e2⟩ | ⟨gs, e2⟩⟩ := p
  · subst e1 e2
    cases r1 with
    | obj h1 _ _ _ =>
      cases r2 with
      | obj h2 _ _ _ => exact ⟨⟨_, _, _, _, rfl, rfl, h1, .inl ⟨_, _, h2⟩⟩, h⟩
  · subst e1 e2
    cases r1 with
    | obj h1 _ _ _ =>
      cases r2 with
      | dct h2 _ => exact ⟨⟨_, _, _, _, rfl, rfl, h1, .inr ⟨_, .inr ⟨_, h2⟩⟩⟩, h⟩
theorem de_eqOwn (F : FnOk X.prog X.w X.K X.mg X.base CX k f fd ps (toSp X.K nf 2 S)) (hr : Room k X.A) (hb : Binds X.K fd ps []) (hx : Passes CX X E) (o : EqC X.K C f) (ha : DE X nf a da) (hb' : DE X nf b db) :
    DE X nf (.Compare a [.Eq] [b] pos) (dOwnOp false (eqP C) S da db) := pe_imp (pe_cmpR (op_eqOwn F hr hb hx o) ha hb' (nomark _)) (lift_own fun H v w x y Q r1 r2 p h => eqP_r r1 r2 p h)
theorem dc_eqOwn (F : FnOk X.prog X.w X.K X.mg X.base CX k f fd ps (toSp X.K nf 2 S)) (hr : Room k X.A) (hb : Binds X.K fd ps []) (hx : Passes CX X E) (o : EqC X.K C f) (ha : DE X nf a da) (hb' : DE X nf b db) :
    DC X nf (.Compare a [.Eq] [b] pos) (dBv (dOwnOp false (eqP C) S da db)) := pt_imp (pt_cmpB (op_eqOwn F hr hb hx o) ha hb' (nomark _)) (lift_B2 (lift_own fun H v w x y Q r1 r2 p h => eqP_r r1 r2 p h))
theorem lift_neOwn (σ : St) (H : Hp) (Q : VK) (h : lift K nf (dNotV (dOwnOp false (neP C) S da db)) σ H Q) :
    tOp (fun x y H Q => (∃ a b dx dy fs gs, x = .ref a ∧ y = .ref b ∧ H a = some (.ins C dx fs) ∧ H b = some (.ins C dy gs)) ∧ toSp K nf 2 S [x, y] H (fun v H' => ∃ c, v = .bl c ∧ Q (.bl (!c)) H') E) (lift K nf da) (lift K nf db) σ H Q := by
  obtain ⟨env, fp, Qd, R, h, k⟩ := h
  have h' : lift K nf (dOwnOp false (neP C) S da db) σ H (fun v H' => ∃ c, v = .bl c ∧ Q (.bl (!c)) H') := ⟨env, fp, _, R, h, fun v H' d env' fp' r R' c ⟨b, eb, q⟩ => by
    subst eb
    exact ⟨b, rel_bl r, k _ H' _ env' fp' (.bl _) R' c q⟩⟩
  exact lift_own (E := E) (r := fun x y H Q => (∃ a b dx dy fs gs, x = .ref a ∧ y = .ref b ∧ H a = some (.ins C dx fs) ∧ H b = some (.ins C dy gs)) ∧ toSp K nf 2 S [x, y] H Q E) (fun H v w x y Q r1 r2 ⟨⟨fs, e1⟩, ⟨gs, e2⟩⟩ h => by
    subst e1 e2
    cases r1 with
    | obj h1 _ _ _ =>
      cases r2 with
      | obj h2 _ _ _ => exact ⟨⟨_, _, _, _, _, _, rfl, rfl, h1, h2⟩, h⟩) σ H _ h'
theorem de_neOwn (F : FnOk X.prog X.w X.K X.mg X.base CX k f fd ps (toSp X.K nf 2 S)) (hr : Room (k + 1) X.A) (hb : Binds X.K fd ps []) (hx : Passes CX X E) (o : EqC X.K C f) (ha : DE X nf a da) (hb' : DE X nf b db) :
    DE X nf (.Compare a [.NotEq] [b] pos) (dNotV (dOwnOp false (neP C) S da db)) := pe_imp (pe_cmpR (op_neOwn F hr hb hx o) ha hb' (nomark _)) lift_neOwn
theorem dc_neOwn (F : FnOk X.prog X.w X.K X.mg X.base CX k f fd ps (toSp X.K nf 2 S)) (hr : Room (k + 1) X.A) (hb : Binds X.K fd ps []) (hx : Passes CX X E) (o : EqC X.K C f) (ha : DE X nf a da) (hb' : DE X nf b db) :
    DC X nf (.Compare a [.NotEq] [b] pos) (dBv (dNotV (dOwnOp false (neP C) S da db))) := pt_imp (pt_cmpB (op_neOwn F hr hb hx o) ha hb' (nomark _)) (lift_B2 lift_neOwn)
end
end DL

namespace DL
open PySem L2
section
variable [Anch] {X : Cx} {nf : Addr → Nat} {K : PySem.W.Frag} {CX : CXT} {k : Nat} {f C : Addr} {fd : FuncData} {ps : List Str} {sp : Sp} {E : XK} {op : Operator}
/-! ### own operator, a list or a tuple at the right -/
theorem op_ownS (F : FnOk X.prog X.w X.K X.mg X.base CX k f fd ps sp) (hr : Room k X.A) (hb : Binds X.K fd ps []) (hx : Passes CX X E) {r1 f1 o1 r2 f2 o2 : Option Value} (o : OpC X.K C op.info.2 f) (t1 : OpT X.K C op.info.2 "list" r1 f1 o1) (t2 : OpT X.K C op.info.2 "tuple" r2 f2 o2) :
    OpR X (binaryOp op) (fun x y H Q => (∃ a b dx fs, x = .ref a ∧ y = .ref b ∧ H a = some (.ins C dx fs) ∧ (TyX X.K H y (.type "list") ∨ TyX X.K H y (.type "tuple"))) ∧ sp [x, y] H Q E) := by
  intro pins s σ H x y v u Q I rx ry ⟨⟨a, b, dx, fs, ex, ey, ha, hb'⟩, h⟩
  subst ex ey
  cases rx; cases ry
  obtain ⟨m, hF⟩ := I.fr
  obtain ⟨mA, O, _⟩ := ins_get I.hok ha
  obtain ⟨od, J, _⟩ := O.look
  have run := wpAny_mono (run_fn F hr hb .nil hx I (.cons (rv_ref _) (.cons (rv_ref _) .nil)) h) (fun _ _ q => cmpBack_of q) fun _ _ e => e
  rcases hb' with ty | ty
  · obtain ⟨P, kx, hP, _⟩ := L2.kit_of I (rv_ref b) ty
    exact binT_looks hF I.mod.kin J (T := "list") (kx.ty _ _ I.kIn hP) o.sf o.hs o.hf t1.hr t1.hp t1.h1 t1.h2 t1.hsub run
  · obtain ⟨P, kx, hP, _⟩ := L2.kit_of I (rv_ref b) ty
    exact binT_looks hF I.mod.kin J (T := "tuple") (kx.ty _ _ I.kIn hP) o.sf o.hs o.hf t2.hr t2.hp t2.h1 t2.h2 t2.hsub run
def isSq (d : D) : Prop := ∃ xs, d = .lst xs ∨ d = .tup xs
variable {a b : Expr} {pos : Pos} {da db : DT nf} {S : SpD nf} {i : Nat}
theorem de_ownS (F : FnOk X.prog X.w X.K X.mg X.base CX k f fd ps (toSp X.K nf 2 S)) (hr : Room k X.A) (hb : Binds X.K fd ps []) (hx : Passes CX X E) {r1 f1 o1 r2 f2 o2 : Option Value} (o : OpC X.K C op.info.2 f) (t1 : OpT X.K C op.info.2 "list" r1 f1 o1) (t2 : OpT X.K C op.info.2 "tuple" r2 f2 o2)
    (ha : DE X nf a da) (hb' : DE X nf b db) : DE X nf (.BinOp a op b pos) (dOwnOp false (fun x y => isO C x ∧ isSq y) S da db) := pe_imp (pe_op (op_ownS F hr hb hx o t1 t2) ha hb') (lift_own fun H v w x y Q r1 r2 ⟨⟨fs, e1⟩, ⟨xs, e2⟩⟩ h => by
  subst e1
  cases r1 with
  | obj h1 _ _ _ =>
    rcases e2 with e2 | e2
    · subst e2
      have ty := ty_of (t := .type "list") (fun C fs z => by cases z) r2 rfl
      cases r2 with
      | lst h2 _ => exact ⟨⟨_, _, _, _, rfl, rfl, h1, .inl ty⟩, h⟩
    · subst e2
      have ty := ty_of (t := .type "tuple") (fun C fs z => by cases z) r2 rfl
      cases r2 with
      | tup h2 _ => exact ⟨⟨_, _, _, _, rfl, rfl, h1, .inr ty⟩, h⟩)
/-! ### == of dicts with flat values -/
def hitV (ls : List (Key × V)) (p : Key × V) : Bool := match valV ls p.1 with | none => false | some u => eqV p.2 u
theorem valV_mem : ∀ {ls : List (Key × V)} {k : Key} {u : V}, valV ls k = some u → ∃ p ∈ ls, p.2 = u
  | [], k, u, h => by cases h
  | p :: ls, k, u, h => by
    by_cases e : p.1 = k
    · rw [valV_pos e] at h; cases h; exact ⟨p, List.mem_cons_self, rfl⟩
    · rw [valV_neg e] at h
      obtain ⟨q, m, z⟩ := valV_mem h
      exact ⟨q, List.mem_cons_of_mem _ m, z⟩
theorem hits_gen {A : Around} {s : Shared} {ls : List (Key × V)} {vb : List (Key × Value)} (rb : KV ls vb) (fl : ∀ p ∈ ls, flatV p.2 = true) {ks : List (Key × V)} {va : List (Key × Value)} (ra : KV ks va) :
    (∀ p ∈ ks, flatV p.2 = true) → PySem.W.KeqHits A s vb va (ks.all (hitV ls)) := by
  unfold KV at ra
  induction ra with
  | nil => intro _; exact .nil
  | @cons p q ps qs h t ih =>
    intro hp
    obtain ⟨h1, h2⟩ := h
    obtain ⟨k, v⟩ := q
    have h1' : p.1 = k := h1
    have rr := rb.val p.1
    rw [List.all_cons]
    cases e : valV ls p.1 with
    | none =>
      rw [e] at rr
      have e0 : valueAt vb k = none := by rw [← h1']; cases z : valueAt vb p.1 with | none => rfl | some y => rw [z] at rr; exact rr.elim
      rw [show hitV ls p = false by unfold hitV; rw [e]]
      exact .miss e0
    | some u =>
      rw [e] at rr
      obtain ⟨y, hy, ry⟩ := rr.some_of
      rw [h1'] at hy
      obtain ⟨p', m', e'⟩ := valV_mem e
      rw [show hitV ls p = eqV p.2 u by unfold hitV; rw [e]]
      exact .hit hy (eqAt_V h2 ry (hp p List.mem_cons_self) (e' ▸ fl p' m')) (ih fun p' hm => hp p' (List.mem_cons_of_mem _ hm))
def eqDctV (ks ls : List (Key × V)) : Bool := ks.length == ls.length && ks.all (hitV ls)
def rEqDG (neg : Bool) : R2 := fun x y H Q => ∃ a b ks ls, x = .ref a ∧ y = .ref b ∧ Rd H a (.dK ks) ∧ Rd H b (.dK ls) ∧ (∀ p ∈ ks, flatV p.2 = true) ∧ (∀ p ∈ ls, flatV p.2 = true) ∧ Q (.bl (if neg then !eqDctV ks ls else eqDctV ks ls)) H
theorem op_eqDG (hu : X.A.units < cLine) : OpR X (compareOp .Eq) (rEqDG false) := by
  intro pins s σ H x y v u Q I rx ry h
  obtain ⟨a, b, ks, ls, rfl, rfl, ea, eb, f1, f2, q⟩ := h
  obtain rfl : v = Value.ref a := rx
  obtain rfl : u = Value.ref b := ry
  obtain ⟨_, ya, va, ra, da⟩ := dk_rd I.hok ea
  obtain ⟨_, yb, vb, rb, db⟩ := dk_rd I.hok eb
  exact PySem.W.keq_eq (knd := mixKind X.prog X.w) (r := ks.all (hitV ls)) ya yb da db hu (fun _ => hits_gen rb f2 ra f1) (fin_bl I q (by rw [← ra.length, ← rb.length]; rfl))
theorem op_neDG (hu : X.A.units < cLine) : OpR X (compareOp .NotEq) (rEqDG true) := by
  intro pins s σ H x y v u Q I rx ry h
  obtain ⟨a, b, ks, ls, rfl, rfl, ea, eb, f1, f2, q⟩ := h
  obtain rfl : v = Value.ref a := rx
  obtain rfl : u = Value.ref b := ry
  obtain ⟨_, ya, va, ra, da⟩ := dk_rd I.hok ea
  obtain ⟨_, yb, vb, rb, db⟩ := dk_rd I.hok eb
  exact PySem.W.keq_ne (knd := mixKind X.prog X.w) (r := ks.all (hitV ls)) ya yb da db hu (fun _ => hits_gen rb f2 ra f1) (fin_bl I q (by rw [← ra.length, ← rb.length]; rfl))
def eqF (d e : D) : Bool := match flatD d, flatD e with | some v, some u => eqV v u | _, _ => false
def hitD (ls : List (Key × D)) (p : Key × D) : Bool := match valD ls p.1 with | none => false | some e => eqF p.2 e
def eqDctD (ks ls : List (Key × D)) : Bool := ks.length == ls.length && ks.all (hitD ls)
def flatsB (ks : List (Key × D)) : Prop := ∀ p ∈ ks, ∃ v, flatD p.2 = some v
def fEqDG (neg : Bool) : D → D → D → Prop := fun x y z => ∃ ks ls, x = .dct ks ∧ y = .dct ls ∧ flatsB ks ∧ flatsB ls ∧ z = .bl (if neg then !eqDctD ks ls else eqDctD ks ls)
theorem RelK.flats {H : Hp} : ∀ {kvs : List (Key × V)} {ks : List (Key × D)}, RelK K nf H kvs ks → flatsB ks → ∀ p ∈ kvs, flatV p.2 = true
  | _, _, .nil, _, p, m => by cases m
  | _, _, .cons (d := d) h r, f, p, m => by
    rcases List.mem_cons.mp m with e | m
    · obtain ⟨v, ev⟩ := f _ List.mem_cons_self
      subst e
      exact (flat_of h ev).2
    · exact RelK.flats r (fun q hq => f q (List.mem_cons_of_mem _ hq)) p m
theorem all_hit {H : Hp} {lvs : List (Key × V)} {ls : List (Key × D)} (rl : RelK K nf H lvs ls) (fl : flatsB ls) : ∀ {kvs : List (Key × V)} {ks : List (Key × D)}, RelK K nf H kvs ks → flatsB ks → kvs.all (hitV lvs) = ks.all (hitD ls)
  | _, _, .nil, _ => rfl
  | _, _, @RelK.cons _ _ _ k v vs d ds h r, f => by
    rw [List.all_cons, List.all_cons, all_hit rl fl r (fun q hq => f q (List.mem_cons_of_mem _ hq))]
    congr 1
    obtain ⟨v', ev⟩ := f _ List.mem_cons_self
    have ev : flatD d = some v' := ev
    have e1 := (flat_of h ev).1
    unfold hitV hitD
    show (match valV lvs k with | none => false | some u => eqV v u) = (match valD ls k with | none => false | some e => eqF d e)
    cases e : valD ls k with
    | none =>
      have z := rl.val_none (k := k)
      rw [e] at z
      cases q : valV lvs k with
      | none => rfl
      | some u => rw [q] at z; cases z
    | some e' =>
      obtain ⟨u, eu, ru⟩ := rl.val e
      obtain ⟨u', eu'⟩ := fl _ (valD_mem e)
      rw [eu]
      have e2 := (flat_of ru eu').1
      show eqV v u = eqF d e'
      unfold eqF
      rw [ev, show flatD e' = some u' from eu', e1, e2]
theorem od_eqDG {neg : Bool} : OpD K nf (rEqDG neg) (fEqDG neg) := by
  rintro H v w x y z r1 r2 ⟨ks, ls, rfl, rfl, f1, f2, rfl⟩ Q q
  cases r1 with
  | @dct _ _ kvs _ h1 rr1 =>
    cases r2 with
    | @dct _ _ lvs _ h2 rr2 =>
      refine ⟨_, _, _, _, rfl, rfl, .inr ⟨_, h1⟩, .inr ⟨_, h2⟩, rr1.flats f1, rr2.flats f2, ?_⟩
      have e : eqDctV kvs lvs = eqDctD ks ls := by unfold eqDctV eqDctD; rw [rr1.length, rr2.length, all_hit rr2 f2 rr1 f1]
      rw [e]
      exact q _ H (.bl _) Xt.refl
def dEqDG (neg : Bool) (da db : DT nf) : DT nf := dOp (fEqDG neg) da db
theorem de_eqDG (hu : X.A.units + 64 < cLine) (ha : DE X nf a da) (hb : DE X nf b db) : DE X nf (.Compare a [.Eq] [b] pos) (dEqDG false da db) := de_cmp (op_eqDG (by omega)) od_eqDG ha hb (nomark _)
theorem dc_eqDG (hu : X.A.units + 64 < cLine) (ha : DE X nf a da) (hb : DE X nf b db) : DC X nf (.Compare a [.Eq] [b] pos) (dBv (dEqDG false da db)) := dc_cmp (op_eqDG (by omega)) od_eqDG ha hb (nomark _)
theorem de_neDG (hu : X.A.units + 64 < cLine) (ha : DE X nf a da) (hb : DE X nf b db) : DE X nf (.Compare a [.NotEq] [b] pos) (dEqDG true da db) := de_cmp (op_neDG (by omega)) od_eqDG ha hb (nomark _)
theorem dc_neDG (hu : X.A.units + 64 < cLine) (ha : DE X nf a da) (hb : DE X nf b db) : DC X nf (.Compare a [.NotEq] [b] pos) (dBv (dEqDG true da db)) := dc_cmp (op_neDG (by omega)) od_eqDG ha hb (nomark _)
/-! ### is of bools -/
def fIsB (neg : Bool) : D → D → D → Prop := fun x y z => ∃ p q, x = .bl p ∧ y = .bl q ∧ z = .bl (if neg then !decide (p = q) else decide (p = q))
theorem od_isB : OpD K nf rIsB (fIsB false) := by
  rintro H v w x y z r1 r2 ⟨p, q, rfl, rfl, rfl⟩ Q k
  cases r1; cases r2
  exact ⟨p, q, rfl, rfl, k _ H (.bl _) Xt.refl⟩
theorem od_notB : OpD K nf rNotB (fIsB true) := by
  rintro H v w x y z r1 r2 ⟨p, q, rfl, rfl, rfl⟩ Q k
  cases r1; cases r2
  exact ⟨p, q, rfl, rfl, k _ H (.bl _) Xt.refl⟩
def dIsB (neg : Bool) (da db : DT nf) : DT nf := dOp (fIsB neg) da db
theorem de_isB (ha : DE X nf a da) (hb : DE X nf b db) : DE X nf (.Compare a [.Is] [b] pos) (dIsB false da db) := de_cmp op_isBl od_isB ha hb (nomark _)
theorem dc_isB (ha : DE X nf a da) (hb : DE X nf b db) : DC X nf (.Compare a [.Is] [b] pos) (dBv (dIsB false da db)) := dc_cmp op_isBl od_isB ha hb (nomark _)
theorem de_notB (ha : DE X nf a da) (hb : DE X nf b db) : DE X nf (.Compare a [.IsNot] [b] pos) (dIsB true da db) := de_cmp op_notBl od_notB ha hb (nomark _)
theorem dc_notB (ha : DE X nf a da) (hb : DE X nf b db) : DC X nf (.Compare a [.IsNot] [b] pos) (dBv (dIsB true da db)) := dc_cmp op_notBl od_notB ha hb (nomark _)
/-! ### a slot that is owned or frozen already -/
def dVarQ (K : PySem.W.Frag) (i : Nat) : DT nf := fun env Q => (∃ d, env[i]? = some (.fz d) ∧ Q d env) ∨ dVarFD K i env Q
theorem de_varQ {e : Expr} (h : PE X e (tVar i)) : DE X nf e (dVarQ X.K i) := pe_imp (pe_fzO h) fun σ H Q ⟨env, fp, Qd, R, q, k⟩ => by
  rcases q with ⟨d, e1, q⟩ | ⟨v, xs, e1, q⟩
  · obtain ⟨o, fi, eo, ⟨_, v, ev, r⟩, _, _⟩ := R.at e1
    subst ev
    exact ⟨v, eo, .inl (k v H d env fp r R Ch.refl q)⟩
  · obtain ⟨p, vs, ev, es, hp, _, _, f⟩ := R.dctAt e1
    refine ⟨_, es, .inr ⟨p, _, rfl, hp, trivial, fun o => ?_⟩⟩
    obtain ⟨r, fp', R', c⟩ := f o
    exact k _ _ _ _ fp' r R' c q
/-! ### d.pop(k) of the slot's own dict -/
def dropD (kds : List (Key × D)) (k : Key) : List (Key × D) := kds.filter fun kv => decide (kv.1 ≠ k)
theorem RelK.drop {H : Hp} {k : Key} : ∀ {kvs : List (Key × V)} {kds : List (Key × D)}, RelK K nf H kvs kds → RelK K nf H (dropK kvs k) (dropD kds k)
  | _, _, .nil => .nil
  | _, _, @RelK.cons _ _ _ kk v vs d ds h r => by
    unfold dropK dropD
    rw [List.filter_cons, List.filter_cons]
    have ih := RelK.drop (k := k) r
    unfold dropK dropD at ih
    by_cases e : kk = k
    · rw [if_neg (by simp [e]), if_neg (by simp [e])]; exact ih
    · rw [if_pos (by simp [e]), if_pos (by simp [e])]; exact .cons h ih
def dPopV (K : PySem.W.Frag) (i : Nat) (db : DT nf) : DT nf := fun env Q => (∃ v kds, env[i]? = some (.ow v (dctA K nf kds))) ∧ db env fun y env1 => ∃ v kds k d, env1[i]? = some (.ow v (dctA K nf kds)) ∧ keyOf y = some k ∧ valD kds k = some d ∧ Q d (env1.set i (.ow v (dctA K nf (dropD kds k))))
theorem de_popV {o e : Expr} {apos cpos : Pos} (ho : PE X o (tVar i)) (he : DE X nf e db) (hbase : attributeBase o "pop" X.env (eval o X.env) = eval o X.env := by rfl) (hline : (apos.endLine == cpos.line) = true := by rfl)
    (htr : starEach [e] X.env = [(false, eval e X.env)] := by rfl) : DE X nf (.Call (.Attribute o "pop" apos) [e] [] cpos) (dPopV X.K i db) := pe_imp (pe_dpop1 ho he ⟨hbase, by rw [htr]; rfl, hline, by rw [htr]; rfl⟩) fun σ H Q ⟨env, fp, Qd, R, ⟨⟨v0, kds0, e0⟩, h⟩, k⟩ => by
  obtain ⟨p0, kvs0, ev0, es0, hp0, _, _⟩ := R.dctAt e0
  refine ⟨_, es0, p0, rfl, .inl ⟨_, .inl hp0⟩, lift_run R h fun u H1 y env1 fp1 r1 R1 c1 ⟨v, kds, kk, d, e1, ek, ed, q⟩ => ?_⟩
  obtain ⟨p, kvs, ev, es, hp, rr, rep, _⟩ := R1.dctAt e1
  rw [es0] at es
  cases es
  obtain ⟨w, ew, rw'⟩ := rr.val ed
  obtain ⟨fp3, R3, c3⟩ := rep (dropK kvs kk) (dropD kds kk) rr.drop
  exact ⟨kvs, kk, w, hp, key_of r1 ek, ew, k w _ d _ fp3 (rw'.mono (c3.stp R1)) R3 (c1.trans c3) q⟩
end
/-! ### steps -/
section
variable {nf : Addr → Nat} {K : PySem.W.Frag} {De : EndsD nf} {env env' env1 : EV nf} {i j n : Nat} {d x y z : D} {da db dc : DT nf} {Q : D → EV nf → Prop}
theorem dEqDG_s {neg : Bool} (h : dOp (fEqDG neg) da db env Q) : dEqDG neg da db env Q := h
theorem eqDG_s {neg : Bool} {ks ls : List (Key × D)} (f1 : flatsB ks) (f2 : flatsB ls) (h : Q (.bl (if neg then !eqDctD ks ls else eqDctD ks ls)) env) : OpK (fEqDG neg) Q (.dct ks) (.dct ls) env := ⟨_, ⟨ks, ls, rfl, rfl, f1, f2, rfl⟩, h⟩
theorem dIsB_s {neg : Bool} (h : dOp (fIsB neg) da db env Q) : dIsB neg da db env Q := h
theorem isBF_s {p q : Bool} (h : Q (.bl (decide (p = q))) env) : OpK (fIsB false) Q (.bl p) (.bl q) env := ⟨_, ⟨p, q, rfl, rfl, rfl⟩, h⟩
theorem isBT_s {p q : Bool} (h : Q (.bl (!decide (p = q))) env) : OpK (fIsB true) Q (.bl p) (.bl q) env := ⟨_, ⟨p, q, rfl, rfl, rfl⟩, h⟩
theorem dVarQf_s (e : env[i]? = some (.fz d)) (h : Q d env) : dVarQ K i env Q := .inl ⟨d, e, h⟩
theorem dVarQo_s {v : V} {xs : List (Key × D)} (e : env[i]? = some (.ow v (dctA K nf xs))) (e2 : env.set i (.fz (.dct xs)) = env') (h : Q (.dct xs) env') : dVarQ K i env Q := .inr ⟨v, xs, e, e2 ▸ h⟩
def PopK (K : PySem.W.Frag) (i : Nat) (Q : D → EV nf → Prop) : D → EV nf → Prop := fun y env1 => ∃ v kds k d, env1[i]? = some (.ow v (dctA K nf kds)) ∧ keyOf y = some k ∧ valD kds k = some d ∧ Q d (env1.set i (.ow v (dctA K nf (dropD kds k))))
theorem dPopV_s {v : V} {kds : List (Key × D)} (e : env[i]? = some (.ow v (dctA K nf kds))) (h : db env (PopK K i Q)) : dPopV K i db env Q := ⟨⟨v, kds, e⟩, h⟩
theorem popK_s {v : V} {kds : List (Key × D)} {k : Key} (e : env[i]? = some (.ow v (dctA K nf kds))) (ek : keyOf y = some k) (ed : valD kds k = some d) (e2 : env.set i (.ow v (dctA K nf (dropD kds k))) = env') (h : Q d env') : PopK K i Q y env := ⟨v, kds, k, d, e, ek, ed, e2 ▸ h⟩
theorem dc_inv {g : DG nf} {dt : DB nf} {dk dv : DT nf} {js : List Nat} {Q : List (Key × D) → EV nf → Prop} (Iv : List D → List (Key × D) → EV nf → Prop)
    (step : ∀ x xs acc env (R : List (Key × D) → EV nf → Prop), Iv (x :: xs) acc env → (∀ acc' env', Iv xs acc' env' → R acc' env') → g x env fun env1 => dt env1 fun b env2 => if b = true then dk env2 fun y env3 => dv env3 fun d env4 => ∃ k, keyOf y = some k ∧ acc.length < 1000000 ∧ R (putD acc k d) (wipeD env4 js) else R acc (wipeD env2 js))
    (fin : ∀ acc env, Iv [] acc env → Q acc env) : ∀ ds acc env, Iv ds acc env → dCompD g dt dk dv js ds acc env Q
  | [], acc, env, h => fin acc env h
  | x :: xs, acc, env, h => step x xs acc env (fun acc env => dCompD g dt dk dv js xs acc env Q) h fun acc' env' h' => dc_inv Iv step fin xs acc' env' h'
end
end DL

open PySem PySem.W PyProof.Rows in
set_option maxHeartbeats 0 in
open_top hd30 for PySem.Challenge.rw_bindspan_k30_env_parts

namespace K30
open PySem L2 DL
def top (i : Nat) : Stmt := PySem.Challenge.pw_bindspan_k30_env_parts.main.body.getD i (.Pass ⟨0, 0, 0, 0⟩)
abbrev s_is_word : Stmt := top 12
abbrev s_is_identifier : Stmt := top 13
abbrev s_is_value : Stmt := top 16
abbrev s_check_pair : Stmt := top 17
abbrev s_ascending : Stmt := top 18
abbrev s_bindings_of : Stmt := top 20
abbrev s_Env_init : Stmt := inClass (top 19) 0
abbrev s_Env_eq : Stmt := inClass (top 19) 5
abbrev s_Env_or : Stmt := inClass (top 19) 7
abbrev s_Env_sub : Stmt := inClass (top 19) 9
abbrev s_Env_listed : Stmt := inClass (top 19) 11
abbrev s_Env_only : Stmt := inClass (top 19) 12
abbrev s_Env_within : Stmt := inClass (top 19) 13
abbrev s_law_state : Stmt := top 22
abbrev s_law_draw : Stmt := top 23
abbrev s_law_kept_words : Stmt := top 24
abbrev s_law_name : Stmt := top 25
abbrev s_law_names : Stmt := top 26
abbrev s_law_value : Stmt := top 27
abbrev s_law_changed : Stmt := top 28
abbrev s_law_within : Stmt := top 29
abbrev s_law_pairs : Stmt := top 30
abbrev s_law : Stmt := top 31
structure Ad where
  C_Env : Addr
  f_is_word : Addr
  d_is_word : FuncData
  f_is_identifier : Addr
  d_is_identifier : FuncData
  f_is_value : Addr
  d_is_value : FuncData
  f_check_pair : Addr
  d_check_pair : FuncData
  f_ascending : Addr
  d_ascending : FuncData
  f_bindings_of : Addr
  d_bindings_of : FuncData
  f_Env_init : Addr
  d_Env_init : FuncData
  f_Env_eq : Addr
  d_Env_eq : FuncData
  f_Env_or : Addr
  d_Env_or : FuncData
  f_Env_sub : Addr
  d_Env_sub : FuncData
  f_Env_listed : Addr
  d_Env_listed : FuncData
  f_Env_only : Addr
  d_Env_only : FuncData
  f_Env_within : Addr
  d_Env_within : FuncData
  f_law_state : Addr
  d_law_state : FuncData
  f_law_draw : Addr
  d_law_draw : FuncData
  f_law_kept_words : Addr
  d_law_kept_words : FuncData
  f_law_name : Addr
  d_law_name : FuncData
  f_law_names : Addr
  d_law_names : FuncData
  f_law_value : Addr
  d_law_value : FuncData
  f_law_changed : Addr
  d_law_changed : FuncData
  f_law_within : Addr
  d_law_within : FuncData
  f_law_pairs : Addr
  d_law_pairs : FuncData
  f_law : Addr
  d_law : FuncData
  t_BEYOND : Tok
  t_LETTERS : Tok
  t_DIGITS : Tok
  t_LONGEST : Tok
  p_KEPT : Addr
  fl_Env : Option Value
  rl_Env : Option Value
  fp_Env : Option Value
  rp_Env : Option Value
def nf (a : Ad) : Addr → Nat := fun c => if c = a.C_Env then 1 else 0
def kept : D := .tup [.str "name", .str "flag", .str "slot", .str "func", .str "open", .str "own", .str "look", .str "bind", .str "call", .str "keep", .str "take", .str "shift", .str "run", .str "drop", .str "apart", .str "when", .str "held", .str "fail", .str "guard", .str "else", .str "after", .str "end", .str "with", .str "of", .str "on", .str "off"]
def keptV : List V := [.str "name", .str "flag", .str "slot", .str "func", .str "open", .str "own", .str "look", .str "bind", .str "call", .str "keep", .str "take", .str "shift", .str "run", .str "drop", .str "apart", .str "when", .str "held", .str "fail", .str "guard", .str "else", .str "after", .str "end", .str "with", .str "of", .str "on", .str "off"]
theorem sc_is_word : FnScope ["value", "sign"] ["value"] (defScope s_is_word) := ⟨rfl, rfl, rfl, by decide +kernel, rfl, by decide +kernel, by decide +kernel⟩
theorem sc_is_identifier : FnScope ["value"] ["value"] (defScope s_is_identifier) := ⟨rfl, rfl, rfl, by decide +kernel, rfl, by decide +kernel, by decide +kernel⟩
theorem sc_is_value : FnScope ["value"] ["value"] (defScope s_is_value) := ⟨rfl, rfl, rfl, by decide +kernel, rfl, by decide +kernel, by decide +kernel⟩
theorem sc_check_pair : FnScope ["name", "value"] ["name", "value"] (defScope s_check_pair) := ⟨rfl, rfl, rfl, by decide +kernel, rfl, by decide +kernel, by decide +kernel⟩
theorem sc_ascending : FnScope ["table", "name"] ["table"] (defScope s_ascending) := ⟨rfl, rfl, rfl, by decide +kernel, rfl, by decide +kernel, by decide +kernel⟩
theorem sc_bindings_of : FnScope ["given", "name", "value"] ["given"] (defScope s_bindings_of) := ⟨rfl, rfl, rfl, by decide +kernel, rfl, by decide +kernel, by decide +kernel⟩
theorem sc_Env_init : FnScope ["self", "bindings"] ["self", "bindings"] (defScope s_Env_init) := ⟨rfl, rfl, rfl, by decide +kernel, rfl, by decide +kernel, by decide +kernel⟩
theorem sc_Env_eq : FnScope ["self", "other"] ["self", "other"] (defScope s_Env_eq) := ⟨rfl, rfl, rfl, by decide +kernel, rfl, by decide +kernel, by decide +kernel⟩
theorem sc_Env_or : FnScope ["self", "other"] ["self", "other"] (defScope s_Env_or) := ⟨rfl, rfl, rfl, by decide +kernel, rfl, by decide +kernel, by decide +kernel⟩
theorem sc_Env_sub : FnScope ["self", "names", "name", "value"] ["self", "names"] (defScope s_Env_sub) := ⟨rfl, rfl, rfl, by decide +kernel, rfl, by decide +kernel, by decide +kernel⟩
theorem sc_Env_listed : FnScope ["self"] ["self"] (defScope s_Env_listed) := ⟨rfl, rfl, rfl, by decide +kernel, rfl, by decide +kernel, by decide +kernel⟩
theorem sc_Env_only : FnScope ["self", "names", "name", "value"] ["self", "names"] (defScope s_Env_only) := ⟨rfl, rfl, rfl, by decide +kernel, rfl, by decide +kernel, by decide +kernel⟩
theorem sc_Env_within : FnScope ["self", "other", "name", "value"] ["self", "other"] (defScope s_Env_within) := ⟨rfl, rfl, rfl, by decide +kernel, rfl, by decide +kernel, by decide +kernel⟩
theorem sc_law_state : FnScope ["_law_script", "_law_seed", "_law_great", "_law_cell"] ["_law_script"] (defScope s_law_state) := ⟨rfl, rfl, rfl, by decide +kernel, rfl, by decide +kernel, by decide +kernel⟩
theorem sc_law_draw : FnScope ["_law_state_here", "_law_many", "_law_value_here"] ["_law_state_here", "_law_many"] (defScope s_law_draw) := ⟨rfl, rfl, rfl, by decide +kernel, rfl, by decide +kernel, by decide +kernel⟩
theorem sc_law_kept_words : FnScope ["_law_words"] [] (defScope s_law_kept_words) := ⟨rfl, rfl, rfl, by decide +kernel, rfl, by decide +kernel, by decide +kernel⟩
theorem sc_law_name : FnScope ["_law_state_here", "_law_names_here", "_law_letters", "_law_base", "_law_k", "_law_choices", "_law_free", "_law_name_here"] ["_law_state_here", "_law_names_here"] (defScope s_law_name) := ⟨rfl, rfl, rfl, by decide +kernel, rfl, by decide +kernel, by decide +kernel⟩
theorem sc_law_names : FnScope ["_law_state_here", "_law_many", "_law_names_here", "_law_k"] ["_law_state_here", "_law_many"] (defScope s_law_names) := ⟨rfl, rfl, rfl, by decide +kernel, rfl, by decide +kernel, by decide +kernel⟩
theorem sc_law_value : FnScope ["_law_state_here", "_law_way", "_law_signs", "_law_k"] ["_law_state_here"] (defScope s_law_value) := ⟨rfl, rfl, rfl, by decide +kernel, rfl, by decide +kernel, by decide +kernel⟩
theorem sc_law_changed : FnScope ["_law_state_here", "_law_table", "_law_names_here", "_law_other", "_law_turned", "_law_way", "_law_name_here", "_law_value_here"] ["_law_state_here", "_law_table", "_law_names_here", "_law_other"] (defScope s_law_changed) := ⟨rfl, rfl, rfl, by decide +kernel, rfl, by decide +kernel, by decide +kernel⟩
theorem sc_law_within : FnScope ["_law_small", "_law_large", "_law_name_here"] ["_law_small", "_law_large"] (defScope s_law_within) := ⟨rfl, rfl, rfl, by decide +kernel, rfl, by decide +kernel, by decide +kernel⟩
theorem sc_law_pairs : FnScope ["_law_table", "_law_names_here", "_law_name_here"] ["_law_table", "_law_names_here"] (defScope s_law_pairs) := ⟨rfl, rfl, rfl, by decide +kernel, rfl, by decide +kernel, by decide +kernel⟩
theorem sc_law : FnScope ["_law_script", "_law_state_here", "_law_names_here", "_law_other", "_law_table", "_law_name_here", "_law_env", "_law_picked", "_law_k", "_law_handed", "_law_rest", "_law_some", "_law_turned", "_law_second", "_law_same"] ["_law_script"] (defScope s_law) := ⟨rfl, rfl, rfl, by decide +kernel, rfl, by decide +kernel, by decide +kernel⟩
end K30

namespace K30
open PySem L2 DL
/-! ### what the defs promise -/
def letters : Str := "abcdefghijklmnopqrstuvwxyz"
def digits : Str := "0123456789"
def isWordB (s : Str) : Bool := decide (1 ≤ s.length) && decide (s.length ≤ 12) && s.cps.toList.all fun c => decide (c ∈ letters.cps.toList) || decide (c ∈ digits.cps.toList)
def isIdB (s : Str) : Bool := isWordB s && (match s.cps.toList with | c :: _ => decide (c ∈ letters.cps.toList) | [] => false) && !inV (.str s) keptV
/-- a value that can be bound -/
def valB : D → Bool
  | .int i => decide (-(10 ^ 1000) < i) && decide (i < 10 ^ 1000)
  | .str _ => true
  | _ => false
/-- a table over the names L: no name twice -/
structure Tab (L : List Str) (kds : List (Key × D)) : Prop where
  nd : (kds.map (·.1)).Nodup
  ok : ∀ p ∈ kds, ∃ s ∈ L, p.1 = .inr s ∧ valB p.2 = true ∧ PyData.strOk s = true ∧ (∀ z, p.2 = .str z → PyData.strOk z = true)
/-- the names: few, good -/
structure Names (L : List Str) : Prop where
  few : L.length ≤ 8
  ok : ∀ s ∈ L, isIdB s = true ∧ s.length ≤ 12
def keyStrs (kds : List (Key × D)) : List Str := kds.filterMap fun p => match p.1 with | .inr s => some s | _ => none
def Asc (kds : List (Key × D)) : Prop := PyProof.Rows.sortedS (keyStrs kds) = true
def SameM (k1 k2 : List (Key × D)) : Prop := ∀ k, valD k1 k = valD k2 k
section
variable (K : PySem.W.Frag) (a : Ad)
abbrev envD (kds : List (Key × D)) : D := .obj a.C_Env [("table", .dct kds)]
/-- d hands on the bindings kds -/
def IsB (L : List Str) (d : D) (kds : List (Key × D)) : Prop := Names L ∧ Tab L kds ∧ ((d = envD a kds ∧ Asc kds) ∨ d = .dct kds)
def S_is_word : SpD (nf a) := fun as Q => ∃ s : Str, as = [.fz (.str s)] ∧ s.length ≤ 1000000 ∧ Q (.bl (isWordB s)) as
def S_is_identifier : SpD (nf a) := fun as Q => ∃ s : Str, as = [.fz (.str s)] ∧ s.length ≤ 1000000 ∧ Q (.bl (isIdB s)) as
def S_is_value : SpD (nf a) := fun as Q => ∃ d, as = [.fz d] ∧ valB d = true ∧ Q (.bl true) as
def S_check_pair : SpD (nf a) := fun as Q => ∃ (s : Str) (d : D), as = [.fz (.str s), .fz d] ∧ s.length ≤ 1000000 ∧ isIdB s = true ∧ valB d = true ∧ Q .non as
def S_ascending : SpD (nf a) := fun as Q => ∃ L kds, as = [.fz (.dct kds)] ∧ Names L ∧ Tab L kds ∧ ∀ kds', Tab L kds' → Asc kds' → SameM kds' kds → Q (.dct kds') as
def S_bindings_of : SpD (nf a) := fun as Q => ∃ L d kds, as = [.fz d] ∧ IsB a L d kds ∧ ∀ kds', Tab L kds' → Asc kds' → SameM kds' kds → Q (.dct kds') as
def S_Env_init : SpD (nf a) := fun as Q => ∃ v L d kds, as = [.ow v (insA K (nf a) a.C_Env []), .fz d] ∧ IsB a L d kds ∧ ∀ kds', Tab L kds' → Asc kds' → SameM kds' kds → Q .non [.fr v (envD a kds'), .fz d]
def S_Env_or : SpD (nf a) := fun as Q => ∃ L x y k1 k2, as = [.fz x, .fz y] ∧ x = envD a k1 ∧ IsB a L x k1 ∧ IsB a L y k2 ∧ ∀ k3, Tab L k3 → Asc k3 → SameM k3 (mergeD k1 k2) → Q (envD a k3) as
/-- the names that are handed -/
def isP (y : D) (P : List Str) : Prop := y = .lst (P.map .str) ∨ y = .tup (P.map .str)
def inP (P : List Str) (p : Key × D) : Bool := match p.1 with | .inr s => decide (s ∈ P) | _ => false
def S_Env_sub : SpD (nf a) := fun as Q => ∃ L y k1 P, as = [.fz (envD a k1), .fz y] ∧ IsB a L (envD a k1) k1 ∧ isP y P ∧ ∀ k3, Tab L k3 → Asc k3 → SameM k3 (k1.filter fun p => !inP P p) → Q (envD a k3) as
def S_Env_only : SpD (nf a) := fun as Q => ∃ L y k1 P, as = [.fz (envD a k1), .fz y] ∧ IsB a L (envD a k1) k1 ∧ isP y P ∧ ∀ k3, Tab L k3 → Asc k3 → SameM k3 (k1.filter fun p => inP P p) → Q (envD a k3) as
def S_Env_eq : SpD (nf a) := fun as Q => ∃ L k1 y, as = [.fz (envD a k1), .fz y] ∧ Tab L k1 ∧ ((∃ k2, y = envD a k2 ∧ Tab L k2 ∧ Q (.bl (eqDctD k1 k2)) as) ∨ (∃ k2, y = .dct k2 ∧ Q (.bl false) as))
def S_Env_within : SpD (nf a) := fun as Q => ∃ L k1 k2, as = [.fz (envD a k1), .fz (envD a k2)] ∧ Names L ∧ Tab L k1 ∧ Tab L k2 ∧ Q (.bl (k1.all (hitD k2))) as
def S_Env_listed : SpD (nf a) := fun as Q => ∃ kds, as = [.fz (envD a kds)] ∧ Q (.lst (kds.map fun p => .tup [kD p.1, p.2])) as
def S_law_state : SpO (nf a) := fun as Q => ∃ ns, as = [.fz (.scr ns)] ∧ ns.length ≤ 63 ∧ ∀ v gr sd, 0 ≤ sd → sd < 2147483647 → Q (.ow v (stA (nf a) gr 0 0 sd)) as
/-- the state of the draws stands in v -/
def St (v : V) (s : SD (nf a)) : Prop := ∃ gr x n sd, s = .ow v (stA (nf a) gr x n sd) ∧ 0 ≤ sd ∧ sd < 2147483647
def S_law_draw : SpD (nf a) := fun as Q => ∃ v s m, as = [s, .fz (.int m)] ∧ St a v s ∧ 0 < m ∧ m ≤ 10 ^ 30 ∧ ∀ s' d, St a v s' → 0 ≤ d → d < m → Q (.int d) [s', .fz (.int m)]
def keptWords : List Str := ["name", "flag", "slot", "func", "open", "own", "look", "bind", "of", "call", "keep", "take", "shift", "run", "with", "drop", "apart", "when", "held", "else", "guard", "after", "fail", "end", "on", "off"]
def S_law_kept_words : SpD (nf a) := fun as Q => as = [] ∧ Q (.lst (keptWords.map .str)) as
/-- a slot that holds the names -/
def NmL (t : SD (nf a)) (L : List Str) : Prop := t = .fz (.lst (L.map .str)) ∨ ∃ u, t = .ow u (lstA K (nf a) (L.map .str))
def S_law_name : SpD (nf a) := fun as Q => ∃ (v : V) (s t : SD (nf a)) (L : List Str), as = [s, t] ∧ St a v s ∧ NmL K a t L ∧ L.length ≤ 7 ∧ ∀ s' z, St a v s' → isIdB z = true → z.length ≤ 12 → z ∉ L → Q (.str z) [s', t]
def S_law_names : SpD (nf a) := fun as Q => ∃ v s m, as = [s, .fz (.int m)] ∧ St a v s ∧ 0 ≤ m ∧ m ≤ 7 ∧ ∀ s' L, St a v s' → Names L → L.Nodup → L.length ≤ 7 → Q (.lst (L.map .str)) [s', .fz (.int m)]
def S_law_value : SpD (nf a) := fun as Q => ∃ v s, as = [s] ∧ St a v s ∧ ∀ s' d, St a v s' → valB d = true → (∀ z, d = .str z → PyData.strOk z = true) → Q d [s']
def S_law_changed : SpD (nf a) := fun as Q => ∃ v s L o kds, as = [s, .fz (.dct kds), .fz (.lst (L.map .str)), .fz (.str o)] ∧ St a v s ∧ Names (L ++ [o]) ∧ Tab (L ++ [o]) kds ∧ (∀ z ∈ L, ∃ d, valD kds (.inr z) = some d) ∧ ∀ s' kds', St a v s' → Tab (L ++ [o]) kds' → Q (.dct kds') [s', .fz (.dct kds), .fz (.lst (L.map .str)), .fz (.str o)]
def S_law_within : SpD (nf a) := fun as Q => ∃ L k1 k2, as = [.fz (.dct k1), .fz (.dct k2)] ∧ Names L ∧ Tab L k1 ∧ Tab L k2 ∧ Q (.bl (k1.all (hitD k2))) as
def pairsOf (kds : List (Key × D)) (ys : List Str) : List D := ys.map fun y => .tup [.str y, (valD kds (.inr y)).getD .non]
def S_law_pairs : SpD (nf a) := fun as Q => ∃ kds ss, as = [.fz (.dct kds), .fz (.lst (ss.map .str))] ∧ ss.length < 64 ∧ (∀ z ∈ ss, ∃ d, valD kds (.inr z) = some d) ∧ ∀ ys : List Str, ys.Perm ss → PyProof.Rows.sortedS ys = true → Q (.lst (pairsOf kds ys)) as
def S_law : SpD (nf a) := fun as Q => ∃ ns, as = [.fz (.scr ns)] ∧ ns.length ≤ 63 ∧ Q (.bl true) as
end
end K30

namespace K30
open PySem L2 DL
def td_is_word (K : PySem.W.Frag) (a : Ad) : DTS (nf a) :=
    (sSeq (sIf (dOr (dNot (dBv (dCB (fIsi K) (aCons (dVar 0) (aCons (dC (.ty "str")) aNil))))) (dNot (dBv (dChain cLe cLe (dC (.int 1)) (dCB fLenG (aCons (dVar 0) aNil)) (dC (.int 12)))))) (sRet (dC (.bl false))) sNext)
    (sRet (dCB fAll (aCons (dLc (iS (dVar 0)) (gN 1) dYes (dOrV (dF (inF false) (dVar 1) (dC (.str "abcdefghijklmnopqrstuvwxyz"))) (dF (inF false) (dVar 1) (dC (.str "0123456789")))) [1]) aNil))))
def td_is_identifier (K : PySem.W.Frag) (a : Ad) : DTS (nf a) :=
    (sRet (dAndV (dCall 1 (S_is_word a) [] (mVal (dVar 0) mNil)) (dAndV (dF (inF false) (dF ixD (dVar 0) (dC (.int 0))) (dC (.str "abcdefghijklmnopqrstuvwxyz"))) (dF ninF (dVar 0) (dC kept)))))
def td_is_value (K : PySem.W.Frag) (a : Ad) : DTS (nf a) :=
    (sSeq (sIf (dBv (dCB (fIsi K) (aCons (dVar 0) (aCons (dC (.ty "bool")) aNil)))) (sRet (dC (.bl false))) sNext)
    (sSeq (sIf (dBv (dCB (fIsi K) (aCons (dVar 0) (aCons (dC (.ty "int")) aNil)))) (sRet (dCmp cLt (dCB fAbs (aCons (dVar 0) aNil)) (dC (.int (10 ^ 1000))))) sNext)
    (sRet (dCB (fIsi K) (aCons (dVar 0) (aCons (dC (.ty "str")) aNil))))))
def td_check_pair (K : PySem.W.Frag) (a : Ad) : DTS (nf a) :=
    (sSeq (sIf (dNot (dBv (dCall 1 (S_is_identifier a) [] (mVal (dVar 0) mNil)))) sNever sNext)
    (sIf (dNot (dBv (dCall 1 (S_is_value a) [] (mVal (dVar 1) mNil)))) sNever sNext))
def td_ascending (K : PySem.W.Frag) (a : Ad) : DTS (nf a) :=
    (sRet (dDc (iL (dSortS (aCons (dCB fListD (aCons (dVar 0) aNil)) aNil))) (gN 1) dYes (dVar 1) (dF ixD (dVar 0) (dVar 1)) [1]))
def td_bindings_of (K : PySem.W.Frag) (a : Ad) : DTS (nf a) :=
    (sSeq (sIf (dBv (dCB (fIsi K) (aCons (dVar 0) (aCons (dC (.cls a.C_Env)) aNil)))) (sRet (dCB fDict (aCons (dFld a.C_Env "table" (dVar 0)) aNil))) sNext)
    (sSeq (sIf (dNot (dBv (dCB (fIsi K) (aCons (dVar 0) (aCons (dC (.ty "dict")) aNil))))) sNever sNext)
    (sSeq (sFor (iKV (dVar 0)) (gT 2 (gsCons (gN 1) (gsCons (gN 2) gsNil))) (sDrop (dCall 2 (S_check_pair a) [] (mVal (dVar 1) (mVal (dVar 2) mNil)))))
    (sRet (dCall 1 (S_ascending a) [] (mVal (dVar 0) mNil))))))
def td_Env_init (K : PySem.W.Frag) (a : Ad) : DTS (nf a) :=
    (sFldS K a.C_Env 0 "table" (dIf (dBv (dIsN (dVar 1))) dD0 (dCall 1 (S_bindings_of a) [] (mVal (dVar 1) mNil))))
def td_Env_eq (K : PySem.W.Frag) (a : Ad) : DTS (nf a) :=
    (sRet (dAndV (dCB (fIsi K) (aCons (dVar 1) (aCons (dC (.cls a.C_Env)) aNil))) (dEqDG false (dFld a.C_Env "table" (dVar 0)) (dFld a.C_Env "table" (dVar 1)))))
def td_Env_or (K : PySem.W.Frag) (a : Ad) : DTS (nf a) :=
    (sRet (dMake K 2 a.C_Env (S_Env_init K a) [] (mVal (dDS2 (dFld a.C_Env "table" (dVar 0)) (dCall 1 (S_bindings_of a) [] (mVal (dVar 1) mNil))) mNil)))
def td_Env_sub (K : PySem.W.Frag) (a : Ad) : DTS (nf a) :=
    (sRet (dMake K 2 a.C_Env (S_Env_init K a) [] (mVal (dDc (iKV (dFld a.C_Env "table" (dVar 0))) (gT 2 (gsCons (gN 2) (gsCons (gN 3) gsNil))) (dBv (dF ninF (dVar 2) (dVar 1))) (dVar 2) (dVar 3) [2, 3]) mNil)))
def td_Env_listed (K : PySem.W.Frag) (a : Ad) : DTS (nf a) :=
    (sRet (dItems (dFld a.C_Env "table" (dVar 0))))
def td_Env_only (K : PySem.W.Frag) (a : Ad) : DTS (nf a) :=
    (sRet (dMake K 2 a.C_Env (S_Env_init K a) [] (mVal (dDc (iKV (dFld a.C_Env "table" (dVar 0))) (gT 2 (gsCons (gN 2) (gsCons (gN 3) gsNil))) (dBv (dF (inF false) (dVar 2) (dVar 1))) (dVar 2) (dVar 3) [2, 3]) mNil)))
def td_Env_within (K : PySem.W.Frag) (a : Ad) : DTS (nf a) :=
    (sRet (dCB fAll (aCons (dLc (iKV (dFld a.C_Env "table" (dVar 0))) (gT 2 (gsCons (gN 2) (gsCons (gN 3) gsNil))) dYes (dAndV (dF (inF false) (dVar 2) (dFld a.C_Env "table" (dVar 1))) (dEqG false (dF ixD (dFld a.C_Env "table" (dVar 1)) (dVar 2)) (dVar 3))) [2, 3]) aNil)))
def td_law_state (K : PySem.W.Frag) (a : Ad) : DTS (nf a) :=
    (sSeq (sSet 1 (dC (.int 1)))
    (sSeq (sSetL K 2 aNil)
    (sSeq (sFor (iL (dVar 0)) (gN 3) (sSeq (sSet 1 (dMod (dF addD (dF addD (dMul (dVar 1) (dC (.int 69621))) (dMod (dCB fInt (aCons (dVar 3) aNil)) (dC (.int 2147483647)))) (dC (.int 1))) (dC (.int 2147483647))))
    (sIf (dBv (dCmp cGe (dCB fAbs (aCons (dVar 3) aNil)) (dPow (dC (.int 10)) (dC (.int 18))))) (fun De env => (∃ v xs, env[2]? = some (SD.ow v (lstA K (nf a) xs))) ∧ sApp K 2 (dCB fAbs (aCons (dVar 3) aNil)) De env) sNext)))
    (sRetSt K 2 (aCons (dC (.int 0)) (aCons (dC (.int 0)) (aCons (dVar 1) aNil)))))))
def td_law_draw (K : PySem.W.Frag) (a : Ad) : DTS (nf a) :=
    (sSeq (sIf (dAnd (dBv (dEqG false (dStI 0 1) (dC (.int 0)))) (dStN 0)) (sStPop 0) sNext)
    (sSeq (sIf (dBv (dCmp cGt (dStI 0 1) (dC (.int 0)))) (sSeq (sSet 2 (dMod (dCB fInt (aCons (dStI 0 1) aNil)) (dVar 1)))
    (sSeq (sStS 0 1 (dDiv (dStI 0 1) (dVar 1)))
    (sRet (dVar 2)))) sNext)
    (sSeq (sStG 0 2 (dC (.int 1)))
    (sSeq (sStS 0 3 (dMod (dF addD (dF addD (dMul (dStI 0 3) (dC (.int 48271))) (dMul (dC (.int 40692)) (dStI 0 2))) (dC (.int 12345))) (dC (.int 2147483647))))
    (sRet (dMod (dDiv (dMod (dPow (dStI 0 3) (dC (.int 2))) (dC (.int 2147483629))) (dC (.int 64))) (dVar 1)))))))
def td_law_kept_words (K : PySem.W.Frag) (a : Ad) : DTS (nf a) :=
    (sSeq (sSet 0 (dC (.str "name flag slot func open own look bind of call keep take shift run with drop apart when")))
    (sRet (dSplit (dF addD (dVar 0) (dC (.str " held else guard after fail end on off"))) (dC (.str " ")))))
def td_law_name (K : PySem.W.Frag) (a : Ad) : DTS (nf a) :=
    (sSeq (sSet 2 (dC (.str "abcdefghijklmnopqrstuvwxyz")))
    (sSeq (sSet 3 (dF ixD (dVar 2) (dCall 2 (S_law_draw a) [] (mSlot 0 (mVal (dC (.int 26)) mNil)))))
    (sSeq (sFor (iR1 (aCons (dF ixD (dTup (aCons (dC (.int 0)) (aCons (dC (.int 1)) (aCons (dC (.int 2)) (aCons (dC (.int 3)) (aCons (dC (.int 7)) (aCons (dC (.int 11)) aNil))))))) (dCall 2 (S_law_draw a) [] (mSlot 0 (mVal (dC (.int 6)) mNil)))) aNil)) (gN 4) (sSet 3 (dF addD (dVar 3) (dF ixD (dF addD (dVar 2) (dC (.str "0123456789"))) (dCall 2 (S_law_draw a) [] (mSlot 0 (mVal (dC (.int 36)) mNil)))))))
    (sSeq (sSet 5 (dF addD (dLst (aCons (dVar 3) aNil)) (dLc (iR1 (aCons (dC (.int 20)) aNil)) (gN 4) dYes (dF addD (dSlS (dVar 3) oNone (oSome (dC (.int 9)))) (dCB fStrI (aCons (dF addD (dC (.int 10)) (dVar 4)) aNil))) [4])))
    (sSeq (sSet 6 (dLc (iL (dVar 5)) (gN 7) (dAnd (dBv (dInV K true (dVar 7) 1)) (dBv (dF ninF (dVar 7) (dCall 0 (S_law_kept_words a) [] mNil)))) (dVar 7) [7]))
    (sRet (dF ixD (dVar 6) (dC (.int 0)))))))))
def td_law_names (K : PySem.W.Frag) (a : Ad) : DTS (nf a) :=
    (sSeq (sSetL K 2 aNil)
    (sSeq (sFor (iR1 (aCons (dVar 1) aNil)) (gN 3) (fun De env => (∃ v xs, env[2]? = some (SD.ow v (lstA K (nf a) xs))) ∧ sApp K 2 (dCall 2 (S_law_name K a) [] (mSlot 0 (mSlot 2 mNil))) De env))
    (sRet (dVarF K 2))))
def td_law_value (K : PySem.W.Frag) (a : Ad) : DTS (nf a) :=
    (sSeq (sSet 1 (dCall 2 (S_law_draw a) [] (mSlot 0 (mVal (dC (.int 4)) mNil))))
    (sSeq (sIf (dBv (dEqG false (dVar 1) (dC (.int 0)))) (sRet (dSub (dCall 2 (S_law_draw a) [] (mSlot 0 (mVal (dC (.int 7)) mNil))) (dC (.int 3)))) sNext)
    (sSeq (sIf (dBv (dEqG false (dVar 1) (dC (.int 1)))) (sRet (dMul (dSub (dMul (dCall 2 (S_law_draw a) [] (mSlot 0 (mVal (dC (.int 2)) mNil))) (dC (.int 2))) (dC (.int 1))) (dF addD (dPow (dC (.int 10)) (dC (.int 12))) (dCall 2 (S_law_draw a) [] (mSlot 0 (mVal (dPow (dC (.int 10)) (dC (.int 30))) mNil)))))) sNext)
    (sSeq (sSet 2 (dC (.str " !#&'()*+,-./09:;<=>?@AZ[]^_`az{|}~")))
    (sRet (dJoin (dC (.str "")) (dLc (iR1 (aCons (dCall 2 (S_law_draw a) [] (mSlot 0 (mVal (dC (.int 5)) mNil))) aNil)) (gN 3) dYes (dF ixD (dVar 2) (dCall 2 (S_law_draw a) [] (mSlot 0 (mVal (dC (.int 35)) mNil)))) [3])))))))
def td_law_changed (K : PySem.W.Frag) (a : Ad) : DTS (nf a) :=
    (sSeq (sSetDD K 4 (aCons (dVar 1) aNil))
    (sSeq (sSet 5 (dCall 2 (S_law_draw a) [] (mSlot 0 (mVal (dC (.int 5)) mNil))))
    (sSeq (sIf (dBv (dEqG true (dVar 2) (dLst aNil))) (sSeq (sSet 6 (dF ixD (dVar 2) (dCall 2 (S_law_draw a) [] (mSlot 0 (mVal (dCB fLenG (aCons (dVar 2) aNil)) mNil)))))
    (sSeq (sIf (dBv (dEqG false (dVar 5) (dC (.int 1)))) (sDPutV K 4 (dVar 6) (dCall 1 (S_law_value a) [] (mSlot 0 mNil))) sNext)
    (sIf (dOr (dBv (dEqG false (dVar 5) (dC (.int 2)))) (dBv (dEqG false (dVar 5) (dC (.int 4))))) (sSeq (sSet 7 (dPopV K 4 (dVar 6)))
    (sIf (dBv (dEqG false (dVar 5) (dC (.int 4)))) (sDPutV K 4 (dVar 3) (dVar 7)) sNext)) sNext))) sNext)
    (sSeq (sIf (dBv (dEqG false (dVar 5) (dC (.int 3)))) (sDPutV K 4 (dVar 3) (dCall 1 (S_law_value a) [] (mSlot 0 mNil))) sNext)
    (sRet (dVarFD K 4))))))
def td_law_within (K : PySem.W.Frag) (a : Ad) : DTS (nf a) :=
    (sRet (dEqG false (dLc (iK (dVar 0)) (gN 2) (dOr (dBv (dF ninF (dVar 2) (dVar 1))) (dBv (dEqG true (dF ixD (dVar 1) (dVar 2)) (dF ixD (dVar 0) (dVar 2))))) (dVar 2) [2]) (dLst aNil)))
def td_law_pairs (K : PySem.W.Frag) (a : Ad) : DTS (nf a) :=
    (sRet (dLc (iL (dSortS (aCons (dVar 1) aNil))) (gN 2) dYes (dTup (aCons (dVar 2) (aCons (dF ixD (dVar 0) (dVar 2)) aNil))) [2]))
def td_law (K : PySem.W.Frag) (a : Ad) : DTS (nf a) :=
    (sSeq (sCallO 1 (S_law_state a) [] (mVal (dVar 0) mNil) 1)
    (sSeq (sSet 2 (dCall 2 (S_law_names a) [] (mSlot 1 (mVal (dCall 2 (S_law_draw a) [] (mSlot 1 (mVal (dC (.int 8)) mNil))) mNil))))
    (sSeq (sSet 3 (dCall 2 (S_law_name K a) [] (mSlot 1 (mVal (dVar 2) mNil))))
    (sSeq (sSetD0 K 4)
    (sSeq (sFor (iL (dVar 2)) (gN 5) (sDPutV K 4 (dVar 5) (dCall 1 (S_law_value a) [] (mSlot 1 mNil))))
    (sSeq (sSet 6 (dMake K 2 a.C_Env (S_Env_init K a) [] (mVal (dCB fDict (aCons (dVarQ K 4) aNil)) mNil)))
    (sSeq (sSet 7 (dLc (iR1 (aCons (dCall 2 (S_law_draw a) [] (mSlot 1 (mVal (dC (.int 8)) mNil))) aNil)) (gN 8) dYes (dF ixD (dF addD (dVar 2) (dLst (aCons (dVar 3) aNil))) (dCall 2 (S_law_draw a) [] (mSlot 1 (mVal (dF addD (dCB fLenG (aCons (dVar 2) aNil)) (dC (.int 1))) mNil)))) [8]))
    (sSeq (sSet 9 (dIf (dBv (dEqG false (dCall 2 (S_law_draw a) [] (mSlot 1 (mVal (dC (.int 2)) mNil))) (dC (.int 1)))) (dCB fTuple (aCons (dVar 7) aNil)) (dCB fList (aCons (dVar 7) aNil))))
    (sSeq (sSet 10 (dLc (iL (dVar 2)) (gN 5) (dBv (dF ninF (dVar 5) (dVar 7))) (dVar 5) [5]))
    (sSeq (sSet 11 (dLc (iL (dVar 2)) (gN 5) (dBv (dF (inF false) (dVar 5) (dVar 7))) (dVar 5) [5]))
    (sSeq (sIf (dOr (dBv (dEqG true (dMeth 1 a.C_Env "listed" (S_Env_listed a) [] (dOwnOp false (fun x y => isO a.C_Env x ∧ isSq y) (S_Env_sub a) (dVar 6) (dVar 9)) mNil) (dCall 2 (S_law_pairs a) [] (mVal (dVarQ K 4) (mVal (dVar 10) mNil))))) (dBv (dEqG true (dMeth 1 a.C_Env "listed" (S_Env_listed a) [] (dMeth 2 a.C_Env "only" (S_Env_only a) [] (dVar 6) (mVal (dVar 9) mNil)) mNil) (dCall 2 (S_law_pairs a) [] (mVal (dVarQ K 4) (mVal (dVar 11) mNil)))))) (sRet (dC (.bl false))) sNext)
    (sSeq (sIf (dOr (dBv (dEqG true (dCB fList (aCons (dVar 9) aNil)) (dVar 7))) (dOr (dNot (dBv (dCB (fIsi K) (aCons (dOwnOp false (fun x y => isO a.C_Env x ∧ isSq y) (S_Env_sub a) (dVar 6) (dVar 9)) (aCons (dC (.cls a.C_Env)) aNil))))) (dNot (dBv (dCB (fIsi K) (aCons (dMeth 2 a.C_Env "only" (S_Env_only a) [] (dVar 6) (mVal (dVar 9) mNil)) (aCons (dC (.cls a.C_Env)) aNil))))))) (sRet (dC (.bl false))) sNext)
    (sSeq (sSet 12 (dCall 4 (S_law_changed a) [] (mSlot 1 (mVal (dVarQ K 4) (mVal (dVar 2) (mVal (dVar 3) mNil))))))
    (sSeq (sSet 13 (dMake K 2 a.C_Env (S_Env_init K a) [] (mVal (dCB fDict (aCons (dVar 12) aNil)) mNil)))
    (sSeq (sSet 14 (dEqDG false (dVarQ K 4) (dVar 12)))
    (sSeq (sIf (dOr (dBv (dEqG true (dOwnOp false (eqP a.C_Env) (S_Env_eq a) (dVar 6) (dVar 13)) (dVar 14))) (dOr (dBv (dEqG false (dNotV (dOwnOp false (neP a.C_Env) (S_Env_eq a) (dVar 6) (dVar 13))) (dVar 14))) (dBv (dIsB true (dOwnOp false (eqP a.C_Env) (S_Env_eq a) (dVar 6) (dCB fDict (aCons (dVarQ K 4) aNil))) (dC (.bl false)))))) (sRet (dC (.bl false))) sNext)
    (sSeq (sIf (dOr (dBv (dEqG true (dMeth 2 a.C_Env "within" (S_Env_within a) [] (dVar 6) (mVal (dVar 13) mNil)) (dCall 2 (S_law_within a) [] (mVal (dVarQ K 4) (mVal (dVar 12) mNil))))) (dBv (dEqG true (dMeth 2 a.C_Env "within" (S_Env_within a) [] (dVar 13) (mVal (dVar 6) mNil)) (dCall 2 (S_law_within a) [] (mVal (dVar 12) (mVal (dVarQ K 4) mNil)))))) (sRet (dC (.bl false))) sNext)
    (sSeq (sIf (dOr (dBv (dIsB true (dMeth 2 a.C_Env "within" (S_Env_within a) [] (dOwnOp false (fun x y => isO a.C_Env x ∧ isSq y) (S_Env_sub a) (dVar 6) (dVar 9)) (mVal (dVar 6) mNil)) (dC (.bl true)))) (dBv (dNotV (dOwnOp false (neP a.C_Env) (S_Env_eq a) (dOwnOp false (fun x y => isO a.C_Env x ∧ isO a.C_Env y) (S_Env_or a) (dOwnOp false (fun x y => isO a.C_Env x ∧ isSq y) (S_Env_sub a) (dVar 6) (dVar 9)) (dMeth 2 a.C_Env "only" (S_Env_only a) [] (dVar 6) (mVal (dVar 9) mNil))) (dVar 6))))) (sRet (dC (.bl false))) sNext)
    (sRet (dAndV (dEqG false (dMeth 1 a.C_Env "listed" (S_Env_listed a) [] (dVar 6) mNil) (dCall 2 (S_law_pairs a) [] (mVal (dVarQ K 4) (mVal (dVar 2) mNil)))) (dEqG false (dMeth 1 a.C_Env "listed" (S_Env_listed a) [] (dVar 13) mNil) (dCall 2 (S_law_pairs a) [] (mVal (dVar 12) (mVal (dCB fListD (aCons (dVar 12) aNil)) mNil))))))))))))))))))))))))
end K30

namespace K30
open PySem L2 DL
local macro_rules | `(tactic| walk_at "dn") => `(tactic| first | (simp only [List.set_cons_zero, List.set_cons_succ, List.map_cons, List.map_nil, List.append_nil, List.nil_append, List.cons_append, rs_v, rs_o, pb_nil, pb_v, pb_o, back_nil, back_fz, back_un, back_ow, wp_nil, wp_cons, List.getElem?_cons_zero, List.getElem?_cons_succ, Option.getD_some, stP1, stP2, stP3]; exact rfl) | exact rfl)
local macro_rules | `(tactic| walk_at "db") => `(tactic| repeat first | exact bo_nil | refine bo_fz ?_ | refine bo_un ?_ | refine bo_ow ?_ | refine bo_fr ?_)
local macro_rules | `(tactic| walk_at "dk") => `(tactic| first | exact kb1 | exact kb2 | exact kb3 | exact kb4 | exact kb5 | exact kb6)
local macro_rules | `(tactic| walk_at "da") => `(tactic| first | assumption | omega | decide | (exact Or.inl ⟨by omega, by omega⟩) | (exact Or.inr ⟨by omega, by omega⟩) | (exact ⟨by decide, by decide⟩) | (exact ⟨by decide, by decide, by omega⟩))
local macro_rules | `(tactic| walk_at "s1") => `(tactic| first
  | with_reducible refine sNext_s ?_
  | with_reducible refine sSeq_s ?_
  | with_reducible refine sBrk_s ?_
  | with_reducible refine sCnt_s ?_
  | with_reducible refine sIf_s ?_
  | with_reducible refine sRet_s ?_
  | with_reducible refine sRetN_s ?_
  | with_reducible refine sDrop_s ?_
  | with_reducible refine sSet_s ?_
  | with_reducible refine sAsg_s ?_
  | with_reducible refine gsNil_s ?_
  | with_reducible refine gsCons_s ?_
  | with_reducible refine sSetL_s ?_
  | with_reducible refine sSetDD_s ?_
  | with_reducible refine sDPutV_s ?_
  | with_reducible refine dC_s ?_
  | with_reducible refine dBv_s ?_
  | with_reducible refine bvK_s ?_
  | with_reducible refine dNot_s ?_
  | with_reducible refine dAnd_s ?_
  | with_reducible refine dOr_s ?_
  | with_reducible refine dYes_s ?_
  | with_reducible refine dAndV_s ?_
  | with_reducible refine dOrV_s ?_
  | with_reducible refine dNotV_s ?_
  | with_reducible refine andVK_s ?_
  | with_reducible refine orVK_s ?_
  | with_reducible refine notVK_s ?_
  | with_reducible refine dIf_s ?_
  | with_reducible refine dIsN_s ?_
  | with_reducible refine aNil_s ?_
  | with_reducible refine aCons_s ?_
  | with_reducible refine dTup_s ?_
  | with_reducible refine dLst_s ?_
  | with_reducible refine dD0_s ?_
  | with_reducible refine dOp_s ?_
  | with_reducible refine dAdd_s ?_
  | with_reducible refine dSub_s ?_
  | with_reducible refine dMul_s ?_
  | with_reducible refine dMod_s ?_
  | with_reducible refine dDiv_s ?_
  | with_reducible refine dPow_s ?_
  | with_reducible refine dCmp_s ?_
  | with_reducible refine opI0_s ?_
  | with_reducible refine dEqG_s ?_
  | with_reducible refine dF_s ?_
  | with_reducible refine addI_s ?_
  | with_reducible refine inS_s ?_
  | with_reducible refine dChain_s ?_
  | with_reducible refine chK_s ?_
  | with_reducible refine chK2_s ?_
  | with_reducible refine dCB_s ?_
  | with_reducible refine cbInt_s ?_
  | with_reducible refine cbIntB_s ?_
  | with_reducible refine cbAbs_s ?_
  | with_reducible refine cbLenL_s ?_
  | with_reducible refine cbLenT_s ?_
  | with_reducible refine cbLenD_s ?_
  | with_reducible refine cbList_s ?_
  | with_reducible refine cbListT_s ?_
  | with_reducible refine cbTuple_s ?_
  | with_reducible refine cbTupleT_s ?_
  | with_reducible refine cbDict_s ?_
  | with_reducible refine cbListD_s ?_
  | with_reducible refine dSortS_s ?_
  | with_reducible refine dItems_s ?_
  | with_reducible refine itemsK_s ?_
  | with_reducible refine dDS2_s ?_
  | with_reducible refine dS2K_s ?_
  | with_reducible refine dSplit_s ?_
  | with_reducible refine splK_s ?_
  | with_reducible refine dJoin_s ?_
  | with_reducible refine joinK_s ?_
  | with_reducible refine oNone_s ?_
  | with_reducible refine oSome_s ?_
  | with_reducible refine ok'_s ?_
  | with_reducible refine dSlS_s ?_
  | with_reducible refine dSlL_s ?_
  | with_reducible refine slLK_s ?_
  | with_reducible refine dFld_s ?_
  | with_reducible refine mNil_s ?_
  | with_reducible refine mVal_s ?_
  | with_reducible refine dCall_s ?_
  | with_reducible refine dMeth_s ?_
  | with_reducible refine dMake_s ?_
  | with_reducible refine dOwnOp_s ?_
  | with_reducible refine sStS_s ?_
  | with_reducible refine sCallO_s ?_
  | with_reducible refine sFldS_s ?_
  | with_reducible refine sFor_s ?_
  | with_reducible refine forCons_s ?_
  | with_reducible refine forNil_s ?_
  | with_reducible refine iL_s ?_
  | with_reducible refine ilK_s ?_
  | with_reducible refine ilS_s ?_
  | with_reducible refine iT_s ?_
  | with_reducible refine itK_s ?_
  | with_reducible refine iS_s ?_
  | with_reducible refine isK_s ?_
  | with_reducible refine iK_s ?_
  | with_reducible refine ikK_s ?_
  | with_reducible refine iKV_s ?_
  | with_reducible refine ikvK_s ?_
  | with_reducible refine iR1_s ?_
  | with_reducible refine iR2_s ?_
  | with_reducible refine dLc_s ?_
  | with_reducible refine dDc_s ?_
  | with_reducible refine dInV_s ?_
  | with_reducible refine dEqDG_s ?_
  | with_reducible refine dIsB_s ?_
  | with_reducible refine isBF_s ?_
  | with_reducible refine isBT_s ?_
  | ((with_reducible refine' dVar_s ?e0 ?_); (case e0 => exact rfl))
  | ((with_reducible refine' dVarQf_s ?e0 ?_); (case e0 => exact rfl))
  | ((with_reducible refine' dVarQo_s ?e0 ?e1 ?_); (case e0 => exact rfl); (case e1 => walk_at "dn"))
  | ((with_reducible refine' dPopV_s ?e0 ?_); (case e0 => exact rfl))
  | ((with_reducible refine' setK_s ?e0 ?e1 ?_); (case e0 => exact rfl); (case e1 => walk_at "dn"))
  | ((with_reducible refine' gN_s ?e0 ?e1 ?_); (case e0 => exact rfl); (case e1 => walk_at "dn"))
  | ((with_reducible refine' gT_s ?e0 ?_); (case e0 => exact rfl))
  | ((with_reducible refine' setL_s ?e0 ?e1 ?e2 ?_); (case e0 => exact rfl); (case e1 => exact rfl); (case e2 => (intro p; walk_at "dn")))
  | ((with_reducible refine' sSetD0_s ?e0 ?e1 ?_); (case e0 => exact rfl); (case e1 => (intro p; walk_at "dn")))
  | ((with_reducible refine' setDD_s ?e0 ?e1 ?_); (case e0 => exact rfl); (case e1 => (intro p; walk_at "dn")))
  | ((with_reducible refine' appW_s ?e0 ?_); (case e0 => exact rfl))
  | ((with_reducible refine' dVarF_s ?e0 ?e1 ?_); (case e0 => exact rfl); (case e1 => walk_at "dn"))
  | ((with_reducible refine' dVarFD_s ?e0 ?e1 ?_); (case e0 => exact rfl); (case e1 => walk_at "dn"))
  | ((with_reducible refine' dPutK_s ?e0 ?_); (case e0 => exact rfl))
  | ((with_reducible refine' lenQ_s ?e0 ?_); (case e0 => exact rfl))
  | ((with_reducible refine' opI_s ?e0 ?_); (case e0 => walk_at "da"))
  | ((with_reducible refine' eqF_s ?e0 ?_); (case e0 => exact rfl))
  | ((with_reducible refine' eqT_s ?e0 ?_); (case e0 => exact rfl))
  | ((with_reducible refine' fldK_s ?e0 ?_); (case e0 => exact rfl))
  | ((with_reducible refine' mSlot_s ?e0 ?e1 ?_); (case e0 => exact rfl); (case e1 => trivial))
  | ((with_reducible refine' callK_s ?e0 ?e1 ?e2 ?e3 ?e4 ?_); (case e0 => exact rfl); (case e1 => walk_at "dn"); (case e2 => exact rfl); (case e3 => exact rfl); (case e4 => walk_at "dn"))
  | ((with_reducible refine' methK_s ?e0 ?_); (case e0 => exact rfl))
  | ((with_reducible refine' methK2_s ?e0 ?e1 ?e2 ?e3 ?e4 ?_); (case e0 => exact rfl); (case e1 => walk_at "dn"); (case e2 => exact rfl); (case e3 => exact rfl); (case e4 => walk_at "dn"))
  | ((with_reducible refine' putK_s ?e0 ?_); (case e0 => walk_at "dn"))
  | ((with_reducible refine' mkK_s ?e0 ?_); (case e0 => walk_at "dn"))
  | ((with_reducible refine' callOK_s ?e0 ?e1 ?e2 ?e3 ?e4 ?e5 ?_); (case e0 => exact rfl); (case e1 => walk_at "dn"); (case e2 => exact rfl); (case e3 => exact rfl); (case e4 => exact rfl); (case e5 => walk_at "dn"))
  | ((with_reducible refine' putOK_s ?e0 ?_); (case e0 => walk_at "dn"))
  | ((with_reducible refine' dStI_s ?e0 ?e1 ?_); (case e0 => exact rfl); (case e1 => exact rfl))
  | ((with_reducible refine' dStN_s ?e0 ?_); (case e0 => exact rfl))
  | ((with_reducible refine' stSK_s ?e0 ?e1 ?e2 ?e3 ?_); (case e0 => exact rfl); (case e1 => exact rfl); (case e2 => walk_at "dn"); (case e3 => walk_at "dn"))
  | ((with_reducible refine' sStG_s ?e0 ?e1 ?e2 ?_); (case e0 => exact rfl); (case e1 => exact rfl); (case e2 => exact rfl))
  | ((with_reducible refine' stGK_s ?e0 ?e1 ?e2 ?_); (case e0 => exact rfl); (case e1 => walk_at "dn"); (case e2 => walk_at "dn"))
  | ((with_reducible refine' sStPop_s ?e0 ?e1 ?_); (case e0 => exact rfl); (case e1 => walk_at "dn"))
  | ((with_reducible refine' sRetSt_s ?e0 ?_); (case e0 => exact rfl))
  | ((with_reducible refine' retStK_s ?e0 ?e1 ?_); (case e0 => exact rfl); (case e1 => walk_at "dn"))
  | ((with_reducible refine' iteT_s ?e0 ?_); (case e0 => (first | exact rfl | assumption)))
  | ((with_reducible refine' iteF_s ?e0 ?_); (case e0 => (first | exact rfl | assumption)))
  | ((with_reducible refine' isiStr_s ?e0 ?_); (case e0 => walk_at "dk"))
  | ((with_reducible refine' isiInt_s ?e0 ?_); (case e0 => walk_at "dk"))
  | ((with_reducible refine' isiDct_s ?e0 ?_); (case e0 => walk_at "dk"))
  | ((with_reducible refine' splK2_s ?e0 ?e1 ?_); (case e0 => decide); (case e1 => decide))
  | ((with_reducible refine' addS_s ?e0 ?_); (case e0 => walk_at "da"))
  | ((with_reducible refine' addL_s ?e0 ?_); (case e0 => walk_at "da"))
  | ((with_reducible refine' cbLenS_s ?e0 ?_); (case e0 => walk_at "da"))
  | ((with_reducible refine' slSK_s ?e0 ?_); (case e0 => walk_at "da"))
  | ((with_reducible refine' lcK_s ?e0 ?_); (case e0 => walk_at "dn"))
  | ((with_reducible refine' dcK_s ?e0 ?_); (case e0 => walk_at "dn"))
  | ((with_reducible refine' makeK_s ?e0 ?e1 ?e2 ?e3 ?e4 ?e5 ?_); (case e0 => exact rfl); (case e1 => walk_at "dn"); (case e2 => walk_at "dz"); (case e3 => exact rfl); (case e4 => exact rfl); (case e5 => walk_at "dn"))
  | ((with_reducible refine' ir1K_s ?e0 ?_); (case e0 => walk_at "da"))
  | ((with_reducible refine' ir2K_s ?e0 ?_); (case e0 => walk_at "da"))
  | ((with_reducible refine' fnRt_s ?e0 ?e1 ?_); (case e0 => walk_at "db"); (case e1 => walk_at "dn"))
  | ((with_reducible refine' fnNx_s ?e0 ?e1 ?_); (case e0 => walk_at "db"); (case e1 => walk_at "dn"))
  | ((with_reducible refine' fnRo_s ?e0 ?e1 ?_); (case e0 => walk_at "db"); (case e1 => walk_at "dn"))
  | ((with_reducible refine' fnRtO_s ?e0 ?e1 ?_); (case e0 => walk_at "db"); (case e1 => walk_at "dn")))
local macro_rules | `(tactic| walk_at "ds") => `(tactic| repeat walk_at "s1")
def signB : D → Bool
  | .str t => t.cps.toList.all fun c => decide (c ∈ letters.cps.toList) || decide (c ∈ digits.cps.toList)
  | _ => false
theorem d_is_word {K : PySem.W.Frag} {a : Ad} : ∀ as Qd, as.length = 1 → (S_is_word a) as Qd → td_is_word K a (fnEnds as Qd) (as ++ List.replicate (2 - 1) .un) := by
  rintro as Qd hl ⟨s, rfl, hs, q⟩
  show td_is_word K a (fnEnds _ Qd) [.fz (.str s), .un]
  unfold td_is_word
  walk_at "ds"
  refine ite_s (fun h1 => ?_) (fun h1 => ?_)
  · walk_at "ds"
    have h1' : 1 ≤ s.length := by have := of_decide_eq_true h1; omega
    refine ite_s (fun h2 => ?_) (fun h2 => ?_)
    · walk_at "ds"
      have e : isWordB s = false := by
        have h2' : ¬ s.length ≤ 12 := fun z => by
          simp only [cLe, Bool.not_eq_true', decide_eq_false_iff_not] at h2
          omega
        simp [isWordB, h2']
      rw [e] at q
      exact q
    · walk_at "ds"
      have h2' : s.length ≤ 12 := by
        simp only [cLe, Bool.not_eq_false', decide_eq_true_eq] at h2
        omega
      refine lc_map (fun x => .bl (signB x)) rfl (fun x hx R r => ?_) (by rw [signs_len]; omega) ?_
      · obtain ⟨c, hc, rfl⟩ := mem_signs hx
        show dOrV _ _ [.fz (.str s), .fz (.str ⟨#[c]⟩)] R
        have r' : R (.bl (decide (c ∈ letters.cps.toList) || decide (c ∈ digits.cps.toList))) [.fz (.str s), .fz (.str ⟨#[c]⟩)] := by simpa [signB] using r
        walk_at "ds"
        refine ite_s (fun h3 => ?_) (fun h3 => ?_)
        · rw [show decide (c ∈ letters.cps.toList) = true from h3] at r'
          exact r'
        · rw [show decide (c ∈ letters.cps.toList) = false from h3] at r'
          walk_at "ds"
          exact r'
      · walk_at "ds"
        refine cbK_s ⟨(signsD s).map signB, by simp, rfl⟩ ?_
        walk_at "ds"
        have e : isWordB s = ((signsD s).map signB).all id := by
          simp [isWordB, h1', h2', signsD, signB, Function.comp_def, List.all_map]
        rw [e] at q
        exact q
  · walk_at "ds"
    have e : isWordB s = false := by
      have h1' : ¬ 1 ≤ s.length := fun z => by
        simp only [cLe, decide_eq_false_iff_not] at h1
        omega
      simp only [isWordB, h1', decide_false, Bool.false_and]
    rw [e] at q
    exact q
theorem d_is_identifier {K : PySem.W.Frag} {a : Ad} : ∀ as Qd, as.length = 1 → (S_is_identifier a) as Qd → td_is_identifier K a (fnEnds as Qd) (as ++ List.replicate (1 - 1) .un) := by
  rintro as Qd hl ⟨s, rfl, hs, q⟩
  show td_is_identifier K a (fnEnds _ Qd) [.fz (.str s)]
  unfold td_is_identifier
  walk_at "ds"
  refine ⟨s, rfl, hs, ?_⟩
  walk_at "ds"
  refine ite_s (fun hw => ?_) (fun hw => ?_)
  · walk_at "ds"
    obtain ⟨c, r, e⟩ : ∃ c r, s.cps.toList = c :: r := by
      cases h : s.cps.toList with
      | nil =>
        have : s.length = 0 := by show s.cps.size = 0; rw [← Array.length_toList, h]; rfl
        simp [isWordB, this] at hw
      | cons c r => exact ⟨c, r, rfl⟩
    refine ixS_s (c := c) hs (by rw [e]; exact atI_zero) ?_
    walk_at "ds"
    have q' : Qd (.bl (decide (c ∈ letters.cps.toList) && !inV (.str s) keptV)) [.fz (.str s)] := by simpa [isIdB, hw, e] using q
    refine ite_s (fun h3 => ?_) (fun h3 => ?_)
    · rw [show decide (c ∈ letters.cps.toList) = true from h3] at q'
      walk_at "ds"
      refine ninT_s (b := inV (.str s) keptV) (by rfl) ?_
      walk_at "ds"
      exact q'
    · rw [show decide (c ∈ letters.cps.toList) = false from h3] at q'
      walk_at "ds"
      exact q'
  · walk_at "ds"
    have e : isIdB s = false := by simp [isIdB, hw]
    rw [e] at q
    exact q
theorem d_is_value {K : PySem.W.Frag} {a : Ad} : ∀ as Qd, as.length = 1 → (S_is_value a) as Qd → td_is_value K a (fnEnds as Qd) (as ++ List.replicate (1 - 1) .un) := by
  rintro as Qd hl ⟨d, rfl, hv, q⟩
  show td_is_value K a (fnEnds _ Qd) [.fz d]
  unfold td_is_value
  cases d with
  | int i =>
    walk_at "ds"
    simp only [valB, Bool.and_eq_true, decide_eq_true_eq] at hv
    have e : cLt (if i < 0 then -i else i) (10 ^ 1000) = true := by
      simp only [cLt, decide_eq_true_eq]
      generalize (10 : Int) ^ 1000 = B at hv ⊢
      split <;> omega
    rw [e]
    exact q
  | str z =>
    walk_at "ds"
    exact q
  | _ => simp [valB] at hv
theorem d_check_pair {K : PySem.W.Frag} {a : Ad} : ∀ as Qd, as.length = 2 → (S_check_pair a) as Qd → td_check_pair K a (fnEnds as Qd) (as ++ List.replicate (2 - 2) .un) := by
  rintro as Qd hl ⟨s, d, rfl, hs, hi, hv, q⟩
  show td_check_pair K a (fnEnds _ Qd) [.fz (.str s), .fz d]
  unfold td_check_pair
  walk_at "ds"
  refine ⟨s, rfl, hs, ?_⟩
  rw [hi]
  walk_at "ds"
  refine ⟨d, rfl, hv, ?_⟩
  walk_at "ds"
  exact q
end K30

namespace K30
open PySem L2 DL
local macro_rules | `(tactic| walk_at "dn") => `(tactic| first | (simp only [List.set_cons_zero, List.set_cons_succ, List.map_cons, List.map_nil, List.append_nil, List.nil_append, List.cons_append, rs_v, rs_o, pb_nil, pb_v, pb_o, back_nil, back_fz, back_un, back_ow, wp_nil, wp_cons, List.getElem?_cons_zero, List.getElem?_cons_succ, Option.getD_some, stP1, stP2, stP3]; exact rfl) | exact rfl)
local macro_rules | `(tactic| walk_at "db") => `(tactic| repeat first | exact bo_nil | refine bo_fz ?_ | refine bo_un ?_ | refine bo_ow ?_ | refine bo_fr ?_)
local macro_rules | `(tactic| walk_at "dk") => `(tactic| first | exact kb1 | exact kb2 | exact kb3 | exact kb4 | exact kb5 | exact kb6)
local macro_rules | `(tactic| walk_at "da") => `(tactic| first | assumption | omega | decide | (exact Or.inl ⟨by omega, by omega⟩) | (exact Or.inr ⟨by omega, by omega⟩) | (exact ⟨by decide, by decide⟩) | (exact ⟨by decide, by decide, by omega⟩))
local macro_rules | `(tactic| walk_at "s1") => `(tactic| first
  | with_reducible refine sNext_s ?_
  | with_reducible refine sSeq_s ?_
  | with_reducible refine sBrk_s ?_
  | with_reducible refine sCnt_s ?_
  | with_reducible refine sIf_s ?_
  | with_reducible refine sRet_s ?_
  | with_reducible refine sRetN_s ?_
  | with_reducible refine sDrop_s ?_
  | with_reducible refine sSet_s ?_
  | with_reducible refine sAsg_s ?_
  | with_reducible refine gsNil_s ?_
  | with_reducible refine gsCons_s ?_
  | with_reducible refine sSetL_s ?_
  | with_reducible refine sSetDD_s ?_
  | with_reducible refine sDPutV_s ?_
  | with_reducible refine dC_s ?_
  | with_reducible refine dBv_s ?_
  | with_reducible refine bvK_s ?_
  | with_reducible refine dNot_s ?_
  | with_reducible refine dAnd_s ?_
  | with_reducible refine dOr_s ?_
  | with_reducible refine dYes_s ?_
  | with_reducible refine dAndV_s ?_
  | with_reducible refine dOrV_s ?_
  | with_reducible refine dNotV_s ?_
  | with_reducible refine andVK_s ?_
  | with_reducible refine orVK_s ?_
  | with_reducible refine notVK_s ?_
  | with_reducible refine dIf_s ?_
  | with_reducible refine dIsN_s ?_
  | with_reducible refine aNil_s ?_
  | with_reducible refine aCons_s ?_
  | with_reducible refine dTup_s ?_
  | with_reducible refine dLst_s ?_
  | with_reducible refine dD0_s ?_
  | with_reducible refine dOp_s ?_
  | with_reducible refine dAdd_s ?_
  | with_reducible refine dSub_s ?_
  | with_reducible refine dMul_s ?_
  | with_reducible refine dMod_s ?_
  | with_reducible refine dDiv_s ?_
  | with_reducible refine dPow_s ?_
  | with_reducible refine dCmp_s ?_
  | with_reducible refine opI0_s ?_
  | with_reducible refine dEqG_s ?_
  | with_reducible refine dF_s ?_
  | with_reducible refine addI_s ?_
  | with_reducible refine inS_s ?_
  | with_reducible refine dChain_s ?_
  | with_reducible refine chK_s ?_
  | with_reducible refine chK2_s ?_
  | with_reducible refine dCB_s ?_
  | with_reducible refine cbInt_s ?_
  | with_reducible refine cbIntB_s ?_
  | with_reducible refine cbAbs_s ?_
  | with_reducible refine cbLenL_s ?_
  | with_reducible refine cbLenT_s ?_
  | with_reducible refine cbLenD_s ?_
  | with_reducible refine cbList_s ?_
  | with_reducible refine cbListT_s ?_
  | with_reducible refine cbTuple_s ?_
  | with_reducible refine cbTupleT_s ?_
  | with_reducible refine cbDict_s ?_
  | with_reducible refine cbListD_s ?_
  | with_reducible refine dSortS_s ?_
  | with_reducible refine dItems_s ?_
  | with_reducible refine itemsK_s ?_
  | with_reducible refine dDS2_s ?_
  | with_reducible refine dS2K_s ?_
  | with_reducible refine dSplit_s ?_
  | with_reducible refine splK_s ?_
  | with_reducible refine dJoin_s ?_
  | with_reducible refine joinK_s ?_
  | with_reducible refine oNone_s ?_
  | with_reducible refine oSome_s ?_
  | with_reducible refine ok'_s ?_
  | with_reducible refine dSlS_s ?_
  | with_reducible refine dSlL_s ?_
  | with_reducible refine slLK_s ?_
  | with_reducible refine dFld_s ?_
  | with_reducible refine mNil_s ?_
  | with_reducible refine mVal_s ?_
  | with_reducible refine dCall_s ?_
  | with_reducible refine dMeth_s ?_
  | with_reducible refine dMake_s ?_
  | with_reducible refine dOwnOp_s ?_
  | with_reducible refine sStS_s ?_
  | with_reducible refine sCallO_s ?_
  | with_reducible refine sFldS_s ?_
  | with_reducible refine sFor_s ?_
  | with_reducible refine forCons_s ?_
  | with_reducible refine forNil_s ?_
  | with_reducible refine iL_s ?_
  | with_reducible refine ilK_s ?_
  | with_reducible refine ilS_s ?_
  | with_reducible refine iT_s ?_
  | with_reducible refine itK_s ?_
  | with_reducible refine iS_s ?_
  | with_reducible refine isK_s ?_
  | with_reducible refine iK_s ?_
  | with_reducible refine ikK_s ?_
  | with_reducible refine iKV_s ?_
  | with_reducible refine ikvK_s ?_
  | with_reducible refine iR1_s ?_
  | with_reducible refine iR2_s ?_
  | with_reducible refine dLc_s ?_
  | with_reducible refine dDc_s ?_
  | with_reducible refine dInV_s ?_
  | with_reducible refine dEqDG_s ?_
  | with_reducible refine dIsB_s ?_
  | with_reducible refine isBF_s ?_
  | with_reducible refine isBT_s ?_
  | ((with_reducible refine' dVar_s ?e0 ?_); (case e0 => exact rfl))
  | ((with_reducible refine' dVarQf_s ?e0 ?_); (case e0 => exact rfl))
  | ((with_reducible refine' dVarQo_s ?e0 ?e1 ?_); (case e0 => exact rfl); (case e1 => walk_at "dn"))
  | ((with_reducible refine' dPopV_s ?e0 ?_); (case e0 => exact rfl))
  | ((with_reducible refine' setK_s ?e0 ?e1 ?_); (case e0 => exact rfl); (case e1 => walk_at "dn"))
  | ((with_reducible refine' gN_s ?e0 ?e1 ?_); (case e0 => exact rfl); (case e1 => walk_at "dn"))
  | ((with_reducible refine' gT_s ?e0 ?_); (case e0 => exact rfl))
  | ((with_reducible refine' setL_s ?e0 ?e1 ?e2 ?_); (case e0 => exact rfl); (case e1 => exact rfl); (case e2 => (intro p; walk_at "dn")))
  | ((with_reducible refine' sSetD0_s ?e0 ?e1 ?_); (case e0 => exact rfl); (case e1 => (intro p; walk_at "dn")))
  | ((with_reducible refine' setDD_s ?e0 ?e1 ?_); (case e0 => exact rfl); (case e1 => (intro p; walk_at "dn")))
  | ((with_reducible refine' appW_s ?e0 ?_); (case e0 => exact rfl))
  | ((with_reducible refine' dVarF_s ?e0 ?e1 ?_); (case e0 => exact rfl); (case e1 => walk_at "dn"))
  | ((with_reducible refine' dVarFD_s ?e0 ?e1 ?_); (case e0 => exact rfl); (case e1 => walk_at "dn"))
  | ((with_reducible refine' dPutK_s ?e0 ?_); (case e0 => exact rfl))
  | ((with_reducible refine' lenQ_s ?e0 ?_); (case e0 => exact rfl))
  | ((with_reducible refine' opI_s ?e0 ?_); (case e0 => walk_at "da"))
  | ((with_reducible refine' eqF_s ?e0 ?_); (case e0 => exact rfl))
  | ((with_reducible refine' eqT_s ?e0 ?_); (case e0 => exact rfl))
  | ((with_reducible refine' fldK_s ?e0 ?_); (case e0 => exact rfl))
  | ((with_reducible refine' mSlot_s ?e0 ?e1 ?_); (case e0 => exact rfl); (case e1 => trivial))
  | ((with_reducible refine' callK_s ?e0 ?e1 ?e2 ?e3 ?e4 ?_); (case e0 => exact rfl); (case e1 => walk_at "dn"); (case e2 => exact rfl); (case e3 => exact rfl); (case e4 => walk_at "dn"))
  | ((with_reducible refine' methK_s ?e0 ?_); (case e0 => exact rfl))
  | ((with_reducible refine' methK2_s ?e0 ?e1 ?e2 ?e3 ?e4 ?_); (case e0 => exact rfl); (case e1 => walk_at "dn"); (case e2 => exact rfl); (case e3 => exact rfl); (case e4 => walk_at "dn"))
  | ((with_reducible refine' putK_s ?e0 ?_); (case e0 => walk_at "dn"))
  | ((with_reducible refine' mkK_s ?e0 ?_); (case e0 => walk_at "dn"))
  | ((with_reducible refine' callOK_s ?e0 ?e1 ?e2 ?e3 ?e4 ?e5 ?_); (case e0 => exact rfl); (case e1 => walk_at "dn"); (case e2 => exact rfl); (case e3 => exact rfl); (case e4 => exact rfl); (case e5 => walk_at "dn"))
  | ((with_reducible refine' putOK_s ?e0 ?_); (case e0 => walk_at "dn"))
  | ((with_reducible refine' dStI_s ?e0 ?e1 ?_); (case e0 => exact rfl); (case e1 => exact rfl))
  | ((with_reducible refine' dStN_s ?e0 ?_); (case e0 => exact rfl))
  | ((with_reducible refine' stSK_s ?e0 ?e1 ?e2 ?e3 ?_); (case e0 => exact rfl); (case e1 => exact rfl); (case e2 => walk_at "dn"); (case e3 => walk_at "dn"))
  | ((with_reducible refine' sStG_s ?e0 ?e1 ?e2 ?_); (case e0 => exact rfl); (case e1 => exact rfl); (case e2 => exact rfl))
  | ((with_reducible refine' stGK_s ?e0 ?e1 ?e2 ?_); (case e0 => exact rfl); (case e1 => walk_at "dn"); (case e2 => walk_at "dn"))
  | ((with_reducible refine' sStPop_s ?e0 ?e1 ?_); (case e0 => exact rfl); (case e1 => walk_at "dn"))
  | ((with_reducible refine' sRetSt_s ?e0 ?_); (case e0 => exact rfl))
  | ((with_reducible refine' retStK_s ?e0 ?e1 ?_); (case e0 => exact rfl); (case e1 => walk_at "dn"))
  | ((with_reducible refine' iteT_s ?e0 ?_); (case e0 => (first | exact rfl | assumption)))
  | ((with_reducible refine' iteF_s ?e0 ?_); (case e0 => (first | exact rfl | assumption)))
  | ((with_reducible refine' isiStr_s ?e0 ?_); (case e0 => walk_at "dk"))
  | ((with_reducible refine' isiInt_s ?e0 ?_); (case e0 => walk_at "dk"))
  | ((with_reducible refine' isiDct_s ?e0 ?_); (case e0 => walk_at "dk"))
  | ((with_reducible refine' splK2_s ?e0 ?e1 ?_); (case e0 => decide); (case e1 => decide))
  | ((with_reducible refine' addS_s ?e0 ?_); (case e0 => walk_at "da"))
  | ((with_reducible refine' addL_s ?e0 ?_); (case e0 => walk_at "da"))
  | ((with_reducible refine' cbLenS_s ?e0 ?_); (case e0 => walk_at "da"))
  | ((with_reducible refine' slSK_s ?e0 ?_); (case e0 => walk_at "da"))
  | ((with_reducible refine' lcK_s ?e0 ?_); (case e0 => walk_at "dn"))
  | ((with_reducible refine' dcK_s ?e0 ?_); (case e0 => walk_at "dn"))
  | ((with_reducible refine' makeK_s ?e0 ?e1 ?e2 ?e3 ?e4 ?e5 ?_); (case e0 => exact rfl); (case e1 => walk_at "dn"); (case e2 => walk_at "dz"); (case e3 => exact rfl); (case e4 => exact rfl); (case e5 => walk_at "dn"))
  | ((with_reducible refine' ir1K_s ?e0 ?_); (case e0 => walk_at "da"))
  | ((with_reducible refine' ir2K_s ?e0 ?_); (case e0 => walk_at "da"))
  | ((with_reducible refine' fnRt_s ?e0 ?e1 ?_); (case e0 => walk_at "db"); (case e1 => walk_at "dn"))
  | ((with_reducible refine' fnNx_s ?e0 ?e1 ?_); (case e0 => walk_at "db"); (case e1 => walk_at "dn"))
  | ((with_reducible refine' fnRo_s ?e0 ?e1 ?_); (case e0 => walk_at "db"); (case e1 => walk_at "dn"))
  | ((with_reducible refine' fnRtO_s ?e0 ?e1 ?_); (case e0 => walk_at "db"); (case e1 => walk_at "dn")))
local macro_rules | `(tactic| walk_at "ds") => `(tactic| repeat walk_at "s1")
local macro_rules | `(tactic| walk_at "dz") => `(tactic| (simp [nf]; done))
/-! tables -/
theorem inV_strs (z : Str) : ∀ ss : List Str, inV (.str z) (ss.map V.str) = decide (z ∈ ss)
  | [] => by simp [inV]
  | s :: ss => by
    have ih := inV_strs z ss
    unfold inV at ih ⊢
    rw [List.map_cons, List.any_cons, ih]
    show ((s == z) || decide (z ∈ ss)) = decide (z ∈ s :: ss)
    by_cases h : s = z
    · subst h; simp
    · have h' : ¬ z = s := fun e => h e.symm
      simp [h, h']
theorem Tab.keys {L : List Str} {kds : List (Key × D)} (h : Tab L kds) : kds.map (fun kd => kD kd.1) = (keyStrs kds).map .str := by
  have ok := h.ok
  clear h
  induction kds with
  | nil => rfl
  | cons p kds ih =>
    obtain ⟨s, _, e, _⟩ := ok p List.mem_cons_self
    have ih' := ih fun q hq => ok q (List.mem_cons_of_mem _ hq)
    have e2 : keyStrs (p :: kds) = s :: keyStrs kds := by simp [keyStrs, List.filterMap_cons, e]
    rw [e2, List.map_cons, List.map_cons, ih', e]
    rfl
theorem Tab.strs {L : List Str} {kds : List (Key × D)} (h : Tab L kds) : (keyStrs kds).map Sum.inr = kds.map (·.1) := by
  have ok := h.ok
  clear h
  induction kds with
  | nil => rfl
  | cons p kds ih =>
    obtain ⟨s, _, e, _⟩ := ok p List.mem_cons_self
    have ih' := ih fun q hq => ok q (List.mem_cons_of_mem _ hq)
    have e2 : keyStrs (p :: kds) = s :: keyStrs kds := by simp [keyStrs, List.filterMap_cons, e]
    rw [e2, List.map_cons, List.map_cons, ih', e]
theorem Tab.snd {L : List Str} {kds : List (Key × D)} (h : Tab L kds) : (keyStrs kds).Nodup := by
  have nd := h.nd
  rw [← h.strs] at nd
  exact (List.pairwise_map.mp nd).imp fun h e => h (congrArg _ e)
theorem Tab.klen {L : List Str} {kds : List (Key × D)} (h : Tab L kds) : (keyStrs kds).length = kds.length := by
  have := congrArg List.length h.strs
  simpa using this
theorem Tab.sub {L : List Str} {kds : List (Key × D)} (h : Tab L kds) : ∀ s ∈ keyStrs kds, s ∈ L := by
  intro s hs
  have : (Sum.inr s : Key) ∈ kds.map (·.1) := by rw [← h.strs]; exact List.mem_map.mpr ⟨s, hs, rfl⟩
  obtain ⟨p, hp, e⟩ := List.mem_map.mp this
  obtain ⟨s', hs', e', _⟩ := h.ok p hp
  rw [e'] at e
  cases e
  exact hs'
theorem Tab.len {L : List Str} {kds : List (Key × D)} (hL : Names L) (h : Tab L kds) : kds.length ≤ 8 := by
  rw [← h.klen]
  exact Nat.le_trans (nodup_len h.snd h.sub) hL.few
theorem Tab.mem {L : List Str} {kds : List (Key × D)} (h : Tab L kds) {s : Str} : s ∈ keyStrs kds ↔ (valD kds (.inr s)).isSome = true := by
  constructor
  · intro hs
    obtain ⟨d, e⟩ := valD_some (kds := kds) (k := .inr s) (by rw [← h.strs]; exact List.mem_map.mpr ⟨s, hs, rfl⟩)
    rw [e]; rfl
  · intro hs
    cases e : valD kds (.inr s) with
    | none => rw [e] at hs; cases hs
    | some d =>
      have m : (Sum.inr s : Key) ∈ kds.map (·.1) := List.mem_map.mpr ⟨_, valD_mem e, rfl⟩
      rw [← h.strs] at m
      obtain ⟨s', hs', e'⟩ := List.mem_map.mp m
      cases e'
      exact hs'
theorem Tab.nil {L : List Str} : Tab L [] := ⟨by simp, fun p h => by cases h⟩
theorem Tab.put {L : List Str} {kds : List (Key × D)} (h : Tab L kds) {s : Str} {d : D} (hs : s ∈ L) (hv : valB d = true) (so : PyData.strOk s = true) (sv : ∀ z, d = .str z → PyData.strOk z = true) : Tab L (putD kds (.inr s) d) :=
  ⟨putD_nd h.nd, fun p hp => by
    rcases mem_put hp with e | m
    · subst e; exact ⟨s, hs, rfl, hv, so, sv⟩
    · exact h.ok p m⟩
theorem Tab.merge {L : List Str} {k1 k2 : List (Key × D)} (h1 : Tab L k1) (h2 : Tab L k2) : Tab L (mergeD k1 k2) :=
  ⟨merge_nd h1.nd, fun p hp => by
    rcases mem_merge hp with m | m
    · exact h1.ok p m
    · exact h2.ok p m⟩
theorem SameM.refl {k : List (Key × D)} : SameM k k := fun _ => rfl
theorem SameM.trans {k1 k2 k3 : List (Key × D)} (a : SameM k1 k2) (b : SameM k2 k3) : SameM k1 k3 := fun k => (a k).trans (b k)
theorem SameM.symm {k1 k2 : List (Key × D)} (a : SameM k1 k2) : SameM k2 k1 := fun k => (a k).symm
theorem SameM.merge {L : List Str} {k1 k2 j1 j2 : List (Key × D)} (t2 : Tab L k2) (u2 : Tab L j2) (a : SameM k1 j1) (b : SameM k2 j2) : SameM (mergeD k1 k2) (mergeD j1 j2) := fun k => by
  rw [valD_merge k t2.nd, valD_merge k u2.nd, a k, b k]
theorem merge0 {L : List Str} {k : List (Key × D)} (t : Tab L k) : SameM (mergeD [] k) k := fun x => by rw [valD_merge x t.nd, valD_nil]; simp
/-- two ascending tables with the same bindings are one -/
theorem asc_eq {L M : List Str} {k1 k2 : List (Key × D)} (t1 : Tab L k1) (t2 : Tab M k2) (a1 : Asc k1) (a2 : Asc k2) (s : SameM k1 k2) : k1 = k2 := by
  have e : keyStrs k1 = keyStrs k2 := sortedS_eq a1 a2 (perm_of t1.snd t2.snd fun x => by rw [t1.mem, t2.mem, s])
  have ek : k1.map (·.1) = k2.map (·.1) := by rw [← t1.strs, ← t2.strs, e]
  apply List.ext_getElem?
  intro i
  have ei := congrArg (·[i]?) ek
  simp only [List.getElem?_map] at ei
  cases h1 : k1[i]? with
  | none =>
    rw [h1] at ei
    cases h2 : k2[i]? with
    | none => rfl
    | some q => rw [h2] at ei; cases ei
  | some p =>
    rw [h1] at ei
    cases h2 : k2[i]? with
    | none => rw [h2] at ei; cases ei
    | some q =>
      rw [h2] at ei
      simp only [Option.map_some, Option.some.injEq] at ei
      have v1 := valD_of (k := p.1) (d := p.2) t1.nd (List.mem_of_getElem? h1)
      have v2 := valD_of (k := q.1) (d := q.2) t2.nd (List.mem_of_getElem? h2)
      rw [← ei, ← s, v1] at v2
      simp only [Option.some.injEq] at v2
      rw [show p = q from Prod.ext ei v2]
theorem tab_of {L : List Str} {kds : List (Key × D)} (h : Tab L kds) {ys : List Str} (p : ys.Perm (keyStrs kds)) : Tab L (ys.map fun y => ((Sum.inr y : Key), (valD kds (.inr y)).getD .non)) ∧ SameM (ys.map fun y => ((Sum.inr y : Key), (valD kds (.inr y)).getD .non)) kds ∧ keyStrs (ys.map fun y => ((Sum.inr y : Key), (valD kds (.inr y)).getD .non)) = ys := by
  have nd : ys.Nodup := p.nodup_iff.mpr h.snd
  have ek : (ys.map fun y => ((Sum.inr y : Key), (valD kds (.inr y)).getD .non)).map (·.1) = ys.map Sum.inr := by simp [Function.comp_def]
  have nk : ((ys.map fun y => ((Sum.inr y : Key), (valD kds (.inr y)).getD .non)).map (·.1)).Nodup := by
    rw [ek]
    exact List.Pairwise.map _ (fun a b h e => h (Sum.inr.inj e)) nd
  have vs : ∀ y ∈ ys, ∃ d, valD kds (.inr y) = some d ∧ (Sum.inr y, d) ∈ kds := fun y hy => by
    have := h.mem.mp (p.subset hy)
    cases e : valD kds (.inr y) with
    | none => rw [e] at this; cases this
    | some d => exact ⟨d, rfl, valD_mem e⟩
  refine ⟨⟨nk, fun q hq => ?_⟩, fun k => ?_, ?_⟩
  · obtain ⟨y, hy, e⟩ := List.mem_map.mp hq
    obtain ⟨d, e1, m⟩ := vs y hy
    rw [e1] at e
    exact e ▸ h.ok _ m
  · cases e : valD kds k with
    | none =>
      rw [valD_none, ek]
      intro m
      obtain ⟨y, hy, rfl⟩ := List.mem_map.mp m
      obtain ⟨d, e1, _⟩ := vs y hy
      rw [e] at e1; cases e1
    | some d =>
      have m := valD_mem e
      obtain ⟨s, _, e2, _⟩ := h.ok _ m
      have e2 : k = .inr s := e2
      subst e2
      have hs : s ∈ ys := p.symm.subset (h.mem.mpr (by rw [e]; rfl))
      exact valD_of nk (List.mem_map.mpr ⟨s, hs, by rw [e]; rfl⟩)
  · clear nd ek nk vs p
    induction ys with
    | nil => rfl
    | cons y ys ih => rw [List.map_cons]; show y :: keyStrs _ = _; rw [ih]
/-! the defs -/
def keyF : D → Key
  | .str s => .inr s
  | _ => .inl 0
def valF (kds : List (Key × D)) : D → D
  | .str s => (valD kds (.inr s)).getD .non
  | _ => .non
theorem d_ascending {K : PySem.W.Frag} {a : Ad} : ∀ as Qd, as.length = 1 → (S_ascending a) as Qd → td_ascending K a (fnEnds as Qd) (as ++ List.replicate (2 - 1) .un) := by
  rintro as Qd hl ⟨L, kds, rfl, hL, hT, q⟩
  show td_ascending K a (fnEnds _ Qd) [.fz (.dct kds), .un]
  unfold td_ascending
  have hlen := hT.len hL
  walk_at "ds"
  refine sortS_s (ss := keyStrs kds) hT.keys (by rw [hT.klen]; omega) (fun ys hp hs => ?_)
  walk_at "ds"
  have ylen : ys.length = kds.length := by rw [hp.length_eq, hT.klen]
  refine dc_pure keyF (valF kds) rfl (fun x hx R r => ?_) (fun x hx R r => ?_) (by simp; omega) ?_
  · obtain ⟨s, hs, rfl⟩ := List.mem_map.mp hx
    walk_at "ds"
    exact r
  · obtain ⟨s, hs, rfl⟩ := List.mem_map.mp hx
    show dF ixD _ _ [.fz (.dct kds), .fz (.str s)] R
    walk_at "ds"
    have := hT.mem.mp (hp.subset hs)
    cases e : valD kds (.inr s) with
    | none => rw [e] at this; cases this
    | some d =>
      refine ixDct_s rfl e ?_
      have r' : R (valF kds (.str s)) [.fz (.dct kds), .fz (.str s)] := r
      rw [show valF kds (.str s) = d by simp [valF, e]] at r'
      exact r'
  · walk_at "ds"
    obtain ⟨t1, t2, t3⟩ := tab_of hT hp
    have e : (ys.map D.str).foldl (fun acc x => putD acc (keyF x) (valF kds x)) [] = ys.map fun y => ((Sum.inr y : Key), (valD kds (.inr y)).getD .non) := by
      rw [List.foldl_map]
      show ys.foldl (fun acc y => putD acc (.inr y) ((valD kds (.inr y)).getD .non)) [] = _
      rw [fold_put _ ys [] (hp.nodup_iff.mpr hT.snd) (fun y _ h => by cases h)]
      rfl
    rw [e]
    exact q _ t1 (by unfold Asc; rw [t3]; exact hs) t2
theorem d_bindings_of {K : PySem.W.Frag} {a : Ad} (iE : IsiC K a.C_Env) (kE : PySem.W.kitOne K (.type "dict") (.ref a.C_Env) = some false) : ∀ as Qd, as.length = 1 → (S_bindings_of a) as Qd → td_bindings_of K a (fnEnds as Qd) (as ++ List.replicate (3 - 1) .un) := by
  rintro as Qd hl ⟨L, d, kds, rfl, ⟨hL, hT, hd⟩, q⟩
  show td_bindings_of K a (fnEnds _ Qd) [.fz d, .un, .un]
  unfold td_bindings_of
  rcases hd with ⟨rfl, ha⟩ | rfl
  · walk_at "ds"
    refine isiOwn_s iE ?_
    walk_at "ds"
    exact q kds hT ha SameM.refl
  · walk_at "ds"
    refine isiDctO_s kE ?_
    walk_at "ds"
    refine for_inv (fun ds env => (∀ x ∈ ds, ∃ s v, x = .tup [.str s, v] ∧ isIdB s = true ∧ s.length ≤ 12 ∧ valB v = true) ∧ ∃ s1 s2, env = [.fz (.dct kds), s1, s2]) ?_ ?_ _ _ ⟨fun x hx => ?_, _, _, rfl⟩
    · rintro x xs env R ⟨hx, s1, s2, rfl⟩ hR
      obtain ⟨s, v, rfl, h1, h2, h3⟩ := hx x List.mem_cons_self
      walk_at "ds"
      refine ⟨s, v, rfl, by omega, h1, h3, ?_⟩
      walk_at "ds"
      exact hR _ ⟨fun y hy => hx y (List.mem_cons_of_mem _ hy), _, _, rfl⟩
    · rintro env ⟨_, s1, s2, rfl⟩
      walk_at "ds"
      refine ⟨L, kds, rfl, hL, hT, fun kds' t1 t2 t3 => ?_⟩
      walk_at "ds"
      exact q kds' t1 t2 t3
    · obtain ⟨p, hp, rfl⟩ := List.mem_map.mp hx
      obtain ⟨s, hs, e, hv, _⟩ := hT.ok p hp
      exact ⟨s, p.2, by rw [e]; rfl, (hL.ok s hs).1, (hL.ok s hs).2, hv⟩
theorem d_Env_init {K : PySem.W.Frag} {a : Ad} : ∀ as Qd, as.length = 2 → (S_Env_init K a) as Qd → td_Env_init K a (fnEnds as Qd) (as ++ List.replicate (2 - 2) .un) := by
  rintro as Qd hl ⟨v, L, d, kds, rfl, hB, q⟩
  show td_Env_init K a (fnEnds _ Qd) [.ow v (insA K (nf a) a.C_Env []), .fz d]
  unfold td_Env_init
  have hn : isNon d = false := by
    obtain ⟨_, _, ⟨rfl, _⟩ | rfl⟩ := hB <;> rfl
  walk_at "ds"
  refine ⟨L, d, kds, rfl, hB, fun kds' t1 t2 t3 => ?_⟩
  walk_at "ds"
  refine fldLast_s rfl rfl (by decide) (by simp [nf]) rfl ?_
  refine fnNx_s (bo_fr (bo_fz bo_nil)) rfl ?_
  exact q kds' t1 t2 t3
theorem d_Env_or {K : PySem.W.Frag} {a : Ad} : ∀ as Qd, as.length = 2 → (S_Env_or a) as Qd → td_Env_or K a (fnEnds as Qd) (as ++ List.replicate (2 - 2) .un) := by
  rintro as Qd hl ⟨L, x, y, k1, k2, rfl, rfl, h1, h2, q⟩
  show td_Env_or K a (fnEnds _ Qd) [.fz (envD a k1), .fz y]
  unfold td_Env_or
  have hL := h1.1
  walk_at "ds"
  refine ⟨L, y, k2, rfl, h2, fun k2' t2 a2 s2 => ?_⟩
  have l1 := h1.2.1.len hL
  have l2 := t2.len hL
  walk_at "ds"
  refine dS2K2_s (by omega) ?_
  walk_at "ds"
  intro y'
  have tm : Tab L (mergeD (mergeD [] k1) k2') := (Tab.nil.merge h1.2.1).merge t2
  refine ⟨.ref y', L, _, _, rfl, ⟨hL, tm, .inr rfl⟩, fun k3 t3 a3 s3 => ?_⟩
  walk_at "ds"
  exact q k3 t3 a3 (s3.trans (SameM.merge t2 h2.2.1 (merge0 h1.2.1) s2))
theorem inD_P {P : List Str} {y : D} (h : isP y P) (z : Str) : inD (.str z) y = some (decide (z ∈ P)) := by
  have e : ((flatD (.str z)).bind fun w => (flatDs (P.map .str)).map fun us => inV w us) = some (decide (z ∈ P)) := by
    rw [flat_strs]; exact congrArg some (inV_strs z P)
  rcases h with rfl | rfl
  · exact e
  · exact e
theorem tabFilter {L : List Str} {k : List (Key × D)} (h : Tab L k) (p : Key × D → Bool) : Tab L (k.filter p) :=
  ⟨(List.filter_sublist.map _).nodup h.nd, fun q hq => h.ok q (List.mem_filter.mp hq).1⟩
theorem nin_put {L : List Str} {pre post : List (Key × D)} {t : Key × D} (h : Tab L (pre ++ t :: post)) (p : Key × D → Bool) : putD (pre.filter p) t.1 t.2 = pre.filter p ++ [t] := by
  refine putD_out fun m => ?_
  have nd := h.nd
  rw [List.map_append, List.map_cons] at nd
  obtain ⟨q, hq, e⟩ := List.mem_map.mp m
  exact (List.nodup_append.mp nd).2.2 q.1 (List.mem_map.mpr ⟨q, (List.mem_filter.mp hq).1, rfl⟩) t.1 List.mem_cons_self e
theorem d_Env_sub {K : PySem.W.Frag} {a : Ad} : ∀ as Qd, as.length = 2 → (S_Env_sub a) as Qd → td_Env_sub K a (fnEnds as Qd) (as ++ List.replicate (4 - 2) .un) := by
  rintro as Qd hl ⟨L, y, k1, P, rfl, h1, hP, q⟩
  show td_Env_sub K a (fnEnds _ Qd) [.fz (envD a k1), .fz y, .un, .un]
  unfold td_Env_sub
  have hL := h1.1
  have hT := h1.2.1
  have l1 := hT.len hL
  walk_at "ds"
  refine dc_inv (fun ds acc env => ∃ pre post, k1 = pre ++ post ∧ ds = post.map (fun p => .tup [kD p.1, p.2]) ∧ acc = pre.filter (fun p => !inP P p) ∧ env = [.fz (envD a k1), .fz y, .un, .un]) ?_ ?_ _ _ _ ⟨[], k1, rfl, rfl, rfl, rfl⟩
  · rintro x xs acc env R ⟨pre, post, e, ed, rfl, rfl⟩ hR
    cases post with
    | nil => cases ed
    | cons t post =>
      rw [List.map_cons] at ed
      obtain ⟨rfl, rfl⟩ := List.cons.inj ed
      have mt : t ∈ k1 := by rw [e]; exact List.mem_append_right _ List.mem_cons_self
      obtain ⟨z, hz, ez, _⟩ := hT.ok t mt
      have hin : inP P t = decide (z ∈ P) := by unfold inP; rw [ez]
      have hlen : (pre.filter fun p => !inP P p).length ≤ 8 := by
        have := List.length_filter_le (fun p => !inP P p) pre
        have : k1.length = pre.length + (post.length + 1) := by rw [e]; simp
        omega
      have np := nin_put (h := e ▸ hT) (fun p => !inP P p)
      rw [show kD t.1 = .str z by rw [ez]; rfl]
      walk_at "ds"
      refine fK_s (z := .bl (!decide (z ∈ P))) (by
        rcases hP with rfl | rfl
        · show (inD (.str z) (.lst (P.map .str))).map _ = _; rw [inD_P (.inl rfl)]; rfl
        · show (inD (.str z) (.tup (P.map .str))).map _ = _; rw [inD_P (.inr rfl)]; rfl) ?_
      walk_at "ds"
      refine ite_s (fun hc => ?_) (fun hc => ?_)
      · walk_at "ds"
        refine ⟨.inr z, rfl, by omega, hR _ _ ⟨pre ++ [t], post, by rw [e]; simp, rfl, ?_, rfl⟩⟩
        rw [List.filter_append, List.filter_cons, hin, if_pos hc, ← ez, np]; rfl
      · refine hR _ _ ⟨pre ++ [t], post, by rw [e]; simp, rfl, ?_, rfl⟩
        rw [List.filter_append, List.filter_cons, hin, if_neg (by rw [hc]; exact Bool.false_ne_true)]; simp
  · rintro acc env ⟨pre, post, e, ed, rfl, rfl⟩
    have : post = [] := by cases post with | nil => rfl | cons t post => cases ed
    subst this
    rw [List.append_nil] at e
    subst e
    walk_at "ds"
    intro y'
    refine ⟨.ref y', L, _, _, rfl, ⟨hL, tabFilter hT _, .inr rfl⟩, fun k3 t3 a3 s3 => ?_⟩
    walk_at "ds"
    exact q k3 t3 a3 s3
theorem d_Env_only {K : PySem.W.Frag} {a : Ad} : ∀ as Qd, as.length = 2 → (S_Env_only a) as Qd → td_Env_only K a (fnEnds as Qd) (as ++ List.replicate (4 - 2) .un) := by
  rintro as Qd hl ⟨L, y, k1, P, rfl, h1, hP, q⟩
  show td_Env_only K a (fnEnds _ Qd) [.fz (envD a k1), .fz y, .un, .un]
  unfold td_Env_only
  have hL := h1.1
  have hT := h1.2.1
  have l1 := hT.len hL
  walk_at "ds"
  refine dc_inv (fun ds acc env => ∃ pre post, k1 = pre ++ post ∧ ds = post.map (fun p => .tup [kD p.1, p.2]) ∧ acc = pre.filter (fun p => inP P p) ∧ env = [.fz (envD a k1), .fz y, .un, .un]) ?_ ?_ _ _ _ ⟨[], k1, rfl, rfl, rfl, rfl⟩
  · rintro x xs acc env R ⟨pre, post, e, ed, rfl, rfl⟩ hR
    cases post with
    | nil => cases ed
    | cons t post =>
      rw [List.map_cons] at ed
      obtain ⟨rfl, rfl⟩ := List.cons.inj ed
      have mt : t ∈ k1 := by rw [e]; exact List.mem_append_right _ List.mem_cons_self
      obtain ⟨z, hz, ez, _⟩ := hT.ok t mt
      have hin : inP P t = decide (z ∈ P) := by unfold inP; rw [ez]
      have hlen : (pre.filter fun p => inP P p).length ≤ 8 := by
        have := List.length_filter_le (fun p => inP P p) pre
        have : k1.length = pre.length + (post.length + 1) := by rw [e]; simp
        omega
      have np := nin_put (h := e ▸ hT) (fun p => inP P p)
      rw [show kD t.1 = .str z by rw [ez]; rfl]
      walk_at "ds"
      refine in_s (b := decide (z ∈ P)) (inD_P hP z) ?_
      walk_at "ds"
      refine ite_s (fun hc => ?_) (fun hc => ?_)
      · walk_at "ds"
        refine ⟨.inr z, rfl, by omega, hR _ _ ⟨pre ++ [t], post, by rw [e]; simp, rfl, ?_, rfl⟩⟩
        rw [List.filter_append, List.filter_cons, hin, if_pos (show decide (z ∈ P) = true from hc), ← ez, np]; rfl
      · refine hR _ _ ⟨pre ++ [t], post, by rw [e]; simp, rfl, ?_, rfl⟩
        rw [List.filter_append, List.filter_cons, hin, if_neg (by rw [show decide (z ∈ P) = false from hc]; exact Bool.false_ne_true)]; simp
  · rintro acc env ⟨pre, post, e, ed, rfl, rfl⟩
    have : post = [] := by cases post with | nil => rfl | cons t post => cases ed
    subst this
    rw [List.append_nil] at e
    subst e
    walk_at "ds"
    intro y'
    refine ⟨.ref y', L, _, _, rfl, ⟨hL, tabFilter hT _, .inr rfl⟩, fun k3 t3 a3 s3 => ?_⟩
    walk_at "ds"
    exact q k3 t3 a3 s3
theorem val_flat {d : D} (h : valB d = true) : ∃ v, flatD d = some v := by
  cases d with
  | int i => exact ⟨_, rfl⟩
  | str z => exact ⟨_, rfl⟩
  | _ => simp [valB] at h
theorem Tab.flat {L : List Str} {k : List (Key × D)} (h : Tab L k) : flatsB k := fun p hp => by
  obtain ⟨s, _, _, hv, _⟩ := h.ok p hp
  exact val_flat hv
theorem d_Env_eq {K : PySem.W.Frag} {a : Ad} (iE : IsiC K a.C_Env) (kE : PySem.W.kitOne K (.type "dict") (.ref a.C_Env) = some false) : ∀ as Qd, as.length = 2 → (S_Env_eq a) as Qd → td_Env_eq K a (fnEnds as Qd) (as ++ List.replicate (2 - 2) .un) := by
  rintro as Qd hl ⟨L, k1, y, rfl, h1, hy⟩
  show td_Env_eq K a (fnEnds _ Qd) [.fz (envD a k1), .fz y]
  unfold td_Env_eq
  rcases hy with ⟨k2, rfl, h2, q⟩ | ⟨k2, rfl, q⟩
  · walk_at "ds"
    refine isiOwn_s iE ?_
    walk_at "ds"
    refine eqDG_s h1.flat h2.flat ?_
    walk_at "ds"
    exact q
  · walk_at "ds"
    refine isiDctO_s kE ?_
    walk_at "ds"
    exact q
theorem eqS_F {d e : D} (hd : valB d = true) (he : valB e = true) : eqS e d = some (eqF d e) := by
  cases d with
  | int i =>
    cases e with
    | int j =>
      show some (decide (j = i)) = some (i == j)
      by_cases h : j = i
      · subst h; simp
      · have h' : ¬ i = j := fun e => h e.symm
        simp [h, h']
    | str z => rfl
    | _ => simp [valB] at he
  | str w =>
    cases e with
    | int j => rfl
    | str z =>
      show some (decide (z = w)) = some (w == z)
      by_cases h : z = w
      · subst h; simp
      · have h' : ¬ w = z := fun e => h e.symm
        simp [h, h']
    | _ => simp [valB] at he
  | _ => simp [valB] at hd
theorem d_Env_within {K : PySem.W.Frag} {a : Ad} : ∀ as Qd, as.length = 2 → (S_Env_within a) as Qd → td_Env_within K a (fnEnds as Qd) (as ++ List.replicate (4 - 2) .un) := by
  rintro as Qd hl ⟨L, k1, k2, rfl, hL, h1, h2, q⟩
  show td_Env_within K a (fnEnds _ Qd) [.fz (envD a k1), .fz (envD a k2), .un, .un]
  unfold td_Env_within
  have l1 := h1.len hL
  walk_at "ds"
  refine lc_inv (fun ds acc env => ∃ pre post, k1 = pre ++ post ∧ ds = post.map (fun p => .tup [kD p.1, p.2]) ∧ acc = (pre.map (hitD k2)).map .bl ∧ env = [.fz (envD a k1), .fz (envD a k2), .un, .un]) ?_ ?_ _ _ _ ⟨[], k1, rfl, rfl, rfl, rfl⟩
  · rintro x xs acc env R ⟨pre, post, e, ed, rfl, rfl⟩ hR
    cases post with
    | nil => cases ed
    | cons t post =>
      rw [List.map_cons] at ed
      obtain ⟨rfl, rfl⟩ := List.cons.inj ed
      have mt : t ∈ k1 := by rw [e]; exact List.mem_append_right _ List.mem_cons_self
      obtain ⟨z, hz, ez, hv, _⟩ := h1.ok t mt
      have hlen : ((pre.map (hitD k2)).map D.bl).length < 1000000 := by
        rw [List.length_map, List.length_map]
        have : k1.length = pre.length + (post.length + 1) := by rw [e]; simp
        omega
      have nxt : R ((pre.map (hitD k2)).map D.bl ++ [.bl (hitD k2 t)]) [.fz (envD a k1), .fz (envD a k2), .un, .un] := hR _ _ ⟨pre ++ [t], post, by rw [e]; simp, rfl, by simp, rfl⟩
      rw [show kD t.1 = .str z by rw [ez]; rfl]
      unfold hitD at nxt
      rw [ez] at nxt
      walk_at "ds"
      refine in_s (b := (valD k2 (.inr z)).isSome) (by rfl) ?_
      cases ev : valD k2 (.inr z) with
      | none =>
        rw [ev] at nxt
        walk_at "ds"
        exact ⟨hlen, nxt⟩
      | some d =>
        rw [ev] at nxt
        walk_at "ds"
        refine ixDct_s rfl ev ?_
        walk_at "ds"
        obtain ⟨_, _, _, hv2, _⟩ := h2.ok _ (valD_mem ev)
        refine eqF_s (eqS_F hv hv2) ?_
        exact ⟨hlen, nxt⟩
  · rintro acc env ⟨pre, post, e, ed, rfl, rfl⟩
    have : post = [] := by cases post with | nil => rfl | cons t post => cases ed
    subst this
    rw [List.append_nil] at e
    subst e
    walk_at "ds"
    refine cbK_s ⟨k1.map (hitD k2), rfl, rfl⟩ ?_
    walk_at "ds"
    rw [show (k1.map (hitD k2)).all id = k1.all (hitD k2) by rw [List.all_map]; rfl]
    exact q
theorem d_Env_listed {K : PySem.W.Frag} {a : Ad} : ∀ as Qd, as.length = 1 → (S_Env_listed a) as Qd → td_Env_listed K a (fnEnds as Qd) (as ++ List.replicate (1 - 1) .un) := by
  rintro as Qd hl ⟨kds, rfl, q⟩
  show td_Env_listed K a (fnEnds _ Qd) [.fz (envD a kds)]
  unfold td_Env_listed
  walk_at "ds"
  exact q
end K30

namespace K30
open PySem L2 DL
local macro_rules | `(tactic| walk_at "dn") => `(tactic| first | (simp only [List.set_cons_zero, List.set_cons_succ, List.map_cons, List.map_nil, List.append_nil, List.nil_append, List.cons_append, rs_v, rs_o, pb_nil, pb_v, pb_o, back_nil, back_fz, back_un, back_ow, wp_nil, wp_cons, List.getElem?_cons_zero, List.getElem?_cons_succ, Option.getD_some, stP1, stP2, stP3]; exact rfl) | exact rfl)
local macro_rules | `(tactic| walk_at "db") => `(tactic| repeat first | exact bo_nil | refine bo_fz ?_ | refine bo_un ?_ | refine bo_ow ?_ | refine bo_fr ?_)
local macro_rules | `(tactic| walk_at "dk") => `(tactic| first | exact kb1 | exact kb2 | exact kb3 | exact kb4 | exact kb5 | exact kb6)
local macro_rules | `(tactic| walk_at "da") => `(tactic| first | assumption | omega | decide | (exact Or.inl ⟨by omega, by omega⟩) | (exact Or.inr ⟨by omega, by omega⟩) | (exact ⟨by decide, by decide⟩) | (exact ⟨by decide, by decide, by omega⟩))
local macro_rules | `(tactic| walk_at "s1") => `(tactic| first
  | with_reducible refine sNext_s ?_
  | with_reducible refine sSeq_s ?_
  | with_reducible refine sBrk_s ?_
  | with_reducible refine sCnt_s ?_
  | with_reducible refine sIf_s ?_
  | with_reducible refine sRet_s ?_
  | with_reducible refine sRetN_s ?_
  | with_reducible refine sDrop_s ?_
  | with_reducible refine sSet_s ?_
  | with_reducible refine sAsg_s ?_
  | with_reducible refine gsNil_s ?_
  | with_reducible refine gsCons_s ?_
  | with_reducible refine sSetL_s ?_
  | with_reducible refine sSetDD_s ?_
  | with_reducible refine sDPutV_s ?_
  | with_reducible refine dC_s ?_
  | with_reducible refine dBv_s ?_
  | with_reducible refine bvK_s ?_
  | with_reducible refine dNot_s ?_
  | with_reducible refine dAnd_s ?_
  | with_reducible refine dOr_s ?_
  | with_reducible refine dYes_s ?_
  | with_reducible refine dAndV_s ?_
  | with_reducible refine dOrV_s ?_
  | with_reducible refine dNotV_s ?_
  | with_reducible refine andVK_s ?_
  | with_reducible refine orVK_s ?_
  | with_reducible refine notVK_s ?_
  | with_reducible refine dIf_s ?_
  | with_reducible refine dIsN_s ?_
  | with_reducible refine aNil_s ?_
  | with_reducible refine aCons_s ?_
  | with_reducible refine dTup_s ?_
  | with_reducible refine dLst_s ?_
  | with_reducible refine dD0_s ?_
  | with_reducible refine dOp_s ?_
  | with_reducible refine dAdd_s ?_
  | with_reducible refine dSub_s ?_
  | with_reducible refine dMul_s ?_
  | with_reducible refine dMod_s ?_
  | with_reducible refine dDiv_s ?_
  | with_reducible refine dPow_s ?_
  | with_reducible refine dCmp_s ?_
  | with_reducible refine opI0_s ?_
  | with_reducible refine dEqG_s ?_
  | with_reducible refine dF_s ?_
  | with_reducible refine addI_s ?_
  | with_reducible refine inS_s ?_
  | with_reducible refine dChain_s ?_
  | with_reducible refine chK_s ?_
  | with_reducible refine chK2_s ?_
  | with_reducible refine dCB_s ?_
  | with_reducible refine cbInt_s ?_
  | with_reducible refine cbIntB_s ?_
  | with_reducible refine cbAbs_s ?_
  | with_reducible refine cbLenL_s ?_
  | with_reducible refine cbLenT_s ?_
  | with_reducible refine cbLenD_s ?_
  | with_reducible refine cbList_s ?_
  | with_reducible refine cbListT_s ?_
  | with_reducible refine cbTuple_s ?_
  | with_reducible refine cbTupleT_s ?_
  | with_reducible refine cbDict_s ?_
  | with_reducible refine cbListD_s ?_
  | with_reducible refine dSortS_s ?_
  | with_reducible refine dItems_s ?_
  | with_reducible refine itemsK_s ?_
  | with_reducible refine dDS2_s ?_
  | with_reducible refine dS2K_s ?_
  | with_reducible refine dSplit_s ?_
  | with_reducible refine splK_s ?_
  | with_reducible refine dJoin_s ?_
  | with_reducible refine joinK_s ?_
  | with_reducible refine oNone_s ?_
  | with_reducible refine oSome_s ?_
  | with_reducible refine ok'_s ?_
  | with_reducible refine dSlS_s ?_
  | with_reducible refine dSlL_s ?_
  | with_reducible refine slLK_s ?_
  | with_reducible refine dFld_s ?_
  | with_reducible refine mNil_s ?_
  | with_reducible refine mVal_s ?_
  | with_reducible refine dCall_s ?_
  | with_reducible refine dMeth_s ?_
  | with_reducible refine dMake_s ?_
  | with_reducible refine dOwnOp_s ?_
  | with_reducible refine sStS_s ?_
  | with_reducible refine sCallO_s ?_
  | with_reducible refine sFldS_s ?_
  | with_reducible refine sFor_s ?_
  | with_reducible refine forCons_s ?_
  | with_reducible refine forNil_s ?_
  | with_reducible refine iL_s ?_
  | with_reducible refine ilK_s ?_
  | with_reducible refine ilS_s ?_
  | with_reducible refine iT_s ?_
  | with_reducible refine itK_s ?_
  | with_reducible refine iS_s ?_
  | with_reducible refine isK_s ?_
  | with_reducible refine iK_s ?_
  | with_reducible refine ikK_s ?_
  | with_reducible refine iKV_s ?_
  | with_reducible refine ikvK_s ?_
  | with_reducible refine iR1_s ?_
  | with_reducible refine iR2_s ?_
  | with_reducible refine dLc_s ?_
  | with_reducible refine dDc_s ?_
  | with_reducible refine dInV_s ?_
  | with_reducible refine dEqDG_s ?_
  | with_reducible refine dIsB_s ?_
  | with_reducible refine isBF_s ?_
  | with_reducible refine isBT_s ?_
  | ((with_reducible refine' dVar_s ?e0 ?_); (case e0 => exact rfl))
  | ((with_reducible refine' dVarQf_s ?e0 ?_); (case e0 => exact rfl))
  | ((with_reducible refine' dVarQo_s ?e0 ?e1 ?_); (case e0 => exact rfl); (case e1 => walk_at "dn"))
  | ((with_reducible refine' dPopV_s ?e0 ?_); (case e0 => exact rfl))
  | ((with_reducible refine' setK_s ?e0 ?e1 ?_); (case e0 => exact rfl); (case e1 => walk_at "dn"))
  | ((with_reducible refine' gN_s ?e0 ?e1 ?_); (case e0 => exact rfl); (case e1 => walk_at "dn"))
  | ((with_reducible refine' gT_s ?e0 ?_); (case e0 => exact rfl))
  | ((with_reducible refine' setL_s ?e0 ?e1 ?e2 ?_); (case e0 => exact rfl); (case e1 => exact rfl); (case e2 => (intro p; walk_at "dn")))
  | ((with_reducible refine' sSetD0_s ?e0 ?e1 ?_); (case e0 => exact rfl); (case e1 => (intro p; walk_at "dn")))
  | ((with_reducible refine' setDD_s ?e0 ?e1 ?_); (case e0 => exact rfl); (case e1 => (intro p; walk_at "dn")))
  | ((with_reducible refine' appW_s ?e0 ?_); (case e0 => exact rfl))
  | ((with_reducible refine' dVarF_s ?e0 ?e1 ?_); (case e0 => exact rfl); (case e1 => walk_at "dn"))
  | ((with_reducible refine' dVarFD_s ?e0 ?e1 ?_); (case e0 => exact rfl); (case e1 => walk_at "dn"))
  | ((with_reducible refine' dPutK_s ?e0 ?_); (case e0 => exact rfl))
  | ((with_reducible refine' lenQ_s ?e0 ?_); (case e0 => exact rfl))
  | ((with_reducible refine' opI_s ?e0 ?_); (case e0 => walk_at "da"))
  | ((with_reducible refine' eqF_s ?e0 ?_); (case e0 => exact rfl))
  | ((with_reducible refine' eqT_s ?e0 ?_); (case e0 => exact rfl))
  | ((with_reducible refine' fldK_s ?e0 ?_); (case e0 => exact rfl))
  | ((with_reducible refine' mSlot_s ?e0 ?e1 ?_); (case e0 => exact rfl); (case e1 => trivial))
  | ((with_reducible refine' callK_s ?e0 ?e1 ?e2 ?e3 ?e4 ?_); (case e0 => exact rfl); (case e1 => walk_at "dn"); (case e2 => exact rfl); (case e3 => exact rfl); (case e4 => walk_at "dn"))
  | ((with_reducible refine' methK_s ?e0 ?_); (case e0 => exact rfl))
  | ((with_reducible refine' methK2_s ?e0 ?e1 ?e2 ?e3 ?e4 ?_); (case e0 => exact rfl); (case e1 => walk_at "dn"); (case e2 => exact rfl); (case e3 => exact rfl); (case e4 => walk_at "dn"))
  | ((with_reducible refine' putK_s ?e0 ?_); (case e0 => walk_at "dn"))
  | ((with_reducible refine' mkK_s ?e0 ?_); (case e0 => walk_at "dn"))
  | ((with_reducible refine' callOK_s ?e0 ?e1 ?e2 ?e3 ?e4 ?e5 ?_); (case e0 => exact rfl); (case e1 => walk_at "dn"); (case e2 => exact rfl); (case e3 => exact rfl); (case e4 => exact rfl); (case e5 => walk_at "dn"))
  | ((with_reducible refine' putOK_s ?e0 ?_); (case e0 => walk_at "dn"))
  | ((with_reducible refine' dStI_s ?e0 ?e1 ?_); (case e0 => exact rfl); (case e1 => exact rfl))
  | ((with_reducible refine' dStN_s ?e0 ?_); (case e0 => exact rfl))
  | ((with_reducible refine' stSK_s ?e0 ?e1 ?e2 ?e3 ?_); (case e0 => exact rfl); (case e1 => exact rfl); (case e2 => walk_at "dn"); (case e3 => walk_at "dn"))
  | ((with_reducible refine' sStG_s ?e0 ?e1 ?e2 ?_); (case e0 => exact rfl); (case e1 => exact rfl); (case e2 => exact rfl))
  | ((with_reducible refine' stGK_s ?e0 ?e1 ?e2 ?_); (case e0 => exact rfl); (case e1 => walk_at "dn"); (case e2 => walk_at "dn"))
  | ((with_reducible refine' sStPop_s ?e0 ?e1 ?_); (case e0 => exact rfl); (case e1 => walk_at "dn"))
  | ((with_reducible refine' sRetSt_s ?e0 ?_); (case e0 => exact rfl))
  | ((with_reducible refine' retStK_s ?e0 ?e1 ?_); (case e0 => exact rfl); (case e1 => walk_at "dn"))
  | ((with_reducible refine' iteT_s ?e0 ?_); (case e0 => (first | exact rfl | assumption)))
  | ((with_reducible refine' iteF_s ?e0 ?_); (case e0 => (first | exact rfl | assumption)))
  | ((with_reducible refine' isiStr_s ?e0 ?_); (case e0 => walk_at "dk"))
  | ((with_reducible refine' isiInt_s ?e0 ?_); (case e0 => walk_at "dk"))
  | ((with_reducible refine' isiDct_s ?e0 ?_); (case e0 => walk_at "dk"))
  | ((with_reducible refine' splK2_s ?e0 ?e1 ?_); (case e0 => decide); (case e1 => decide))
  | ((with_reducible refine' addS_s ?e0 ?_); (case e0 => walk_at "da"))
  | ((with_reducible refine' addL_s ?e0 ?_); (case e0 => walk_at "da"))
  | ((with_reducible refine' cbLenS_s ?e0 ?_); (case e0 => walk_at "da"))
  | ((with_reducible refine' slSK_s ?e0 ?_); (case e0 => walk_at "da"))
  | ((with_reducible refine' lcK_s ?e0 ?_); (case e0 => walk_at "dn"))
  | ((with_reducible refine' dcK_s ?e0 ?_); (case e0 => walk_at "dn"))
  | ((with_reducible refine' makeK_s ?e0 ?e1 ?e2 ?e3 ?e4 ?e5 ?_); (case e0 => exact rfl); (case e1 => walk_at "dn"); (case e2 => walk_at "dz"); (case e3 => exact rfl); (case e4 => exact rfl); (case e5 => walk_at "dn"))
  | ((with_reducible refine' ir1K_s ?e0 ?_); (case e0 => walk_at "da"))
  | ((with_reducible refine' ir2K_s ?e0 ?_); (case e0 => walk_at "da"))
  | ((with_reducible refine' fnRt_s ?e0 ?e1 ?_); (case e0 => walk_at "db"); (case e1 => walk_at "dn"))
  | ((with_reducible refine' fnNx_s ?e0 ?e1 ?_); (case e0 => walk_at "db"); (case e1 => walk_at "dn"))
  | ((with_reducible refine' fnRo_s ?e0 ?e1 ?_); (case e0 => walk_at "db"); (case e1 => walk_at "dn"))
  | ((with_reducible refine' fnRtO_s ?e0 ?e1 ?_); (case e0 => walk_at "db"); (case e1 => walk_at "dn")))
local macro_rules | `(tactic| walk_at "ds") => `(tactic| repeat walk_at "s1")
local macro_rules | `(tactic| walk_at "dz") => `(tactic| (simp [nf]; done))
theorem d_law_state {K : PySem.W.Frag} {a : Ad} : ∀ as Qd, as.length = 1 → (S_law_state a) as Qd → td_law_state K a (fnEndsO as Qd) (as ++ List.replicate (4 - 1) .un) := by
  rintro as Qd hl ⟨ns, rfl, hn, q⟩
  show td_law_state K a (fnEndsO _ Qd) [.fz (.scr ns), .un, .un, .un]
  unfold td_law_state
  walk_at "ds"
  intro p
  walk_at "ds"
  refine for_inv (fun ds env => ∃ (sd : Int) (gr : List Int) (s3 : SD (nf a)), (∀ x ∈ ds, ∃ n : Int, x = .int n) ∧ gr.length + ds.length ≤ 63 ∧ 0 ≤ sd ∧ sd < 2147483647 ∧ env = [.fz (.scr ns), .fz (.int sd), .ow (.ref p) (lstA K (nf a) (gr.map .int)), s3]) ?_ ?_ _ _ ⟨1, [], .un, fun x hx => ?_, by simpa using hn, by decide, by decide, rfl⟩
  · rintro x xs env R ⟨sd, gr, s3, hx, hg, h0, h1, rfl⟩ hR
    obtain ⟨n, rfl⟩ := hx x List.mem_cons_self
    have hg' : gr.length + xs.length + 1 ≤ 63 := by rw [List.length_cons] at hg; omega
    walk_at "ds"
    refine ite_s (fun hc => ?_) (fun hc => ?_)
    · walk_at "ds"
      refine appK_s rfl (by simp; omega) rfl ?_
      refine hR _ ⟨_, gr ++ [if n < 0 then -n else n], _, fun y hy => hx y (List.mem_cons_of_mem _ hy), by simp; omega, ?_, ?_, by simp; exact ⟨rfl, rfl⟩⟩
      · exact Int.emod_nonneg _ (by decide)
      · exact Int.emod_lt_of_pos _ (by decide)
    · walk_at "ds"
      refine hR _ ⟨_, gr, _, fun y hy => hx y (List.mem_cons_of_mem _ hy), by omega, ?_, ?_, rfl⟩
      · exact Int.emod_nonneg _ (by decide)
      · exact Int.emod_lt_of_pos _ (by decide)
  · rintro env ⟨sd, gr, s3, _, _, h0, h1, rfl⟩
    walk_at "ds"
    intro p'
    walk_at "ds"
    exact q _ gr sd h0 h1
  · obtain ⟨n, _, rfl⟩ := List.mem_map.mp hx
    exact ⟨n, rfl⟩
theorem cdiv_of {i m : Int} (h0 : 0 < m) (h1 : m ≤ 10 ^ 30) : CDivW i m := by
  refine ⟨h0, ?_⟩
  have h2 : m.natAbs ≤ 10 ^ 30 := by omega
  have h3 : m.natAbs ≠ 0 := by omega
  exact (Nat.log2_lt h3).mpr (Nat.lt_of_le_of_lt h2 (by decide))
theorem mod_ok {i m : Int} (h : 0 < m) : 0 ≤ i % m ∧ i % m < m := ⟨Int.emod_nonneg _ (by omega), Int.emod_lt_of_pos _ h⟩
theorem d_law_draw {K : PySem.W.Frag} {a : Ad} : ∀ as Qd, as.length = 2 → (S_law_draw a) as Qd → td_law_draw K a (fnEnds as Qd) (as ++ List.replicate (3 - 2) .un) := by
  rintro as Qd hl ⟨v, s, m, rfl, ⟨gr, x, n, sd, rfl, h0, h1⟩, hm, hm2, q⟩
  have fin : ∀ gr' x' , sSeq (sIf (dBv (dCmp cGt (dStI 0 1) (dC (.int 0)))) (sSeq (sSet 2 (dMod (dCB fInt (aCons (dStI 0 1) aNil)) (dVar 1)))
    (sSeq (sStS 0 1 (dDiv (dStI 0 1) (dVar 1)))
    (sRet (dVar 2)))) sNext)
    (sSeq (sStG 0 2 (dC (.int 1)))
    (sSeq (sStS 0 3 (dMod (dF addD (dF addD (dMul (dStI 0 3) (dC (.int 48271))) (dMul (dC (.int 40692)) (dStI 0 2))) (dC (.int 12345))) (dC (.int 2147483647))))
    (sRet (dMod (dDiv (dMod (dPow (dStI 0 3) (dC (.int 2))) (dC (.int 2147483629))) (dC (.int 64))) (dVar 1))))) (fnEnds [.ow v (stA (nf a) gr x n sd), .fz (.int m)] Qd) [.ow v (stA (nf a) gr' x' n sd), .fz (.int m), .un] := by
    intro gr' x'
    walk_at "ds"
    refine ite_s (fun hc => ?_) (fun hc => ?_)
    · walk_at "ds"
      refine opI_s (cdiv_of hm hm2) ?_
      walk_at "ds"
      exact q _ _ ⟨gr', _, n, sd, rfl, h0, h1⟩ (mod_ok hm).1 (mod_ok hm).2
    · walk_at "ds"
      have hb := mod_ok (i := sd * 48271 + 40692 * (n + 1) + 12345) (m := 2147483647) (by decide)
      exact q _ _ ⟨gr', x', _, _, rfl, hb.1, hb.2⟩ (mod_ok hm).1 (mod_ok hm).2
  show td_law_draw K a (fnEnds _ Qd) [.ow v (stA (nf a) gr x n sd), .fz (.int m), .un]
  unfold td_law_draw
  walk_at "ds"
  refine ite_s (fun hc => ?_) (fun hc => ?_)
  · walk_at "ds"
    cases gr with
    | nil =>
      refine iteF_s rfl ?_
      refine sNext_s ?_
      exact fin [] x
    | cons y gr' =>
      refine iteT_s rfl ?_
      refine sStPop_s rfl rfl ?_
      exact fin gr' y
  · refine iteF_s rfl ?_
    refine sNext_s ?_
    exact fin gr x
theorem d_law_kept_words {K : PySem.W.Frag} {a : Ad} : ∀ as Qd, as.length = 0 → (S_law_kept_words a) as Qd → td_law_kept_words K a (fnEnds as Qd) (as ++ List.replicate (1 - 0) .un) := by
  rintro as Qd hl ⟨rfl, q⟩
  show td_law_kept_words K a (fnEnds _ Qd) [.un]
  unfold td_law_kept_words
  walk_at "ds"
  have e : Txt.split ((Str.ofString "name flag slot func open own look bind of call keep take shift run with drop apart when") ++ (Str.ofString " held else guard after fail end on off")) (Str.ofString " ") = keptWords := by decide +kernel
  rw [e]
  exact q
end K30

namespace K30
open PySem L2 DL
local macro_rules | `(tactic| walk_at "dn") => `(tactic| first | (simp only [List.set_cons_zero, List.set_cons_succ, List.map_cons, List.map_nil, List.append_nil, List.nil_append, List.cons_append, rs_v, rs_o, pb_nil, pb_v, pb_o, back_nil, back_fz, back_un, back_ow, wp_nil, wp_cons, List.getElem?_cons_zero, List.getElem?_cons_succ, Option.getD_some, stP1, stP2, stP3]; exact rfl) | exact rfl)
local macro_rules | `(tactic| walk_at "db") => `(tactic| repeat first | exact bo_nil | refine bo_fz ?_ | refine bo_un ?_ | refine bo_ow ?_ | refine bo_fr ?_)
local macro_rules | `(tactic| walk_at "dk") => `(tactic| first | exact kb1 | exact kb2 | exact kb3 | exact kb4 | exact kb5 | exact kb6)
local macro_rules | `(tactic| walk_at "da") => `(tactic| first | assumption | omega | decide | (exact Or.inl ⟨by omega, by omega⟩) | (exact Or.inr ⟨by omega, by omega⟩) | (exact ⟨by decide, by decide⟩) | (exact ⟨by decide, by decide, by omega⟩))
local macro_rules | `(tactic| walk_at "s1") => `(tactic| first
  | with_reducible refine sNext_s ?_
  | with_reducible refine sSeq_s ?_
  | with_reducible refine sBrk_s ?_
  | with_reducible refine sCnt_s ?_
  | with_reducible refine sIf_s ?_
  | with_reducible refine sRet_s ?_
  | with_reducible refine sRetN_s ?_
  | with_reducible refine sDrop_s ?_
  | with_reducible refine sSet_s ?_
  | with_reducible refine sAsg_s ?_
  | with_reducible refine gsNil_s ?_
  | with_reducible refine gsCons_s ?_
  | with_reducible refine sSetL_s ?_
  | with_reducible refine sSetDD_s ?_
  | with_reducible refine sDPutV_s ?_
  | with_reducible refine dC_s ?_
  | with_reducible refine dBv_s ?_
  | with_reducible refine bvK_s ?_
  | with_reducible refine dNot_s ?_
  | with_reducible refine dAnd_s ?_
  | with_reducible refine dOr_s ?_
  | with_reducible refine dYes_s ?_
  | with_reducible refine dAndV_s ?_
  | with_reducible refine dOrV_s ?_
  | with_reducible refine dNotV_s ?_
  | with_reducible refine andVK_s ?_
  | with_reducible refine orVK_s ?_
  | with_reducible refine notVK_s ?_
  | with_reducible refine dIf_s ?_
  | with_reducible refine dIsN_s ?_
  | with_reducible refine aNil_s ?_
  | with_reducible refine aCons_s ?_
  | with_reducible refine dTup_s ?_
  | with_reducible refine dLst_s ?_
  | with_reducible refine dD0_s ?_
  | with_reducible refine dOp_s ?_
  | with_reducible refine dAdd_s ?_
  | with_reducible refine dSub_s ?_
  | with_reducible refine dMul_s ?_
  | with_reducible refine dMod_s ?_
  | with_reducible refine dDiv_s ?_
  | with_reducible refine dPow_s ?_
  | with_reducible refine dCmp_s ?_
  | with_reducible refine opI0_s ?_
  | with_reducible refine dEqG_s ?_
  | with_reducible refine dF_s ?_
  | with_reducible refine addI_s ?_
  | with_reducible refine inS_s ?_
  | with_reducible refine dChain_s ?_
  | with_reducible refine chK_s ?_
  | with_reducible refine chK2_s ?_
  | with_reducible refine dCB_s ?_
  | with_reducible refine cbInt_s ?_
  | with_reducible refine cbIntB_s ?_
  | with_reducible refine cbAbs_s ?_
  | with_reducible refine cbLenL_s ?_
  | with_reducible refine cbLenT_s ?_
  | with_reducible refine cbLenD_s ?_
  | with_reducible refine cbList_s ?_
  | with_reducible refine cbListT_s ?_
  | with_reducible refine cbTuple_s ?_
  | with_reducible refine cbTupleT_s ?_
  | with_reducible refine cbDict_s ?_
  | with_reducible refine cbListD_s ?_
  | with_reducible refine dSortS_s ?_
  | with_reducible refine dItems_s ?_
  | with_reducible refine itemsK_s ?_
  | with_reducible refine dDS2_s ?_
  | with_reducible refine dS2K_s ?_
  | with_reducible refine dSplit_s ?_
  | with_reducible refine splK_s ?_
  | with_reducible refine dJoin_s ?_
  | with_reducible refine joinK_s ?_
  | with_reducible refine oNone_s ?_
  | with_reducible refine oSome_s ?_
  | with_reducible refine ok'_s ?_
  | with_reducible refine dSlS_s ?_
  | with_reducible refine dSlL_s ?_
  | with_reducible refine slLK_s ?_
  | with_reducible refine dFld_s ?_
  | with_reducible refine mNil_s ?_
  | with_reducible refine mVal_s ?_
  | with_reducible refine dCall_s ?_
  | with_reducible refine dMeth_s ?_
  | with_reducible refine dMake_s ?_
  | with_reducible refine dOwnOp_s ?_
  | with_reducible refine sStS_s ?_
  | with_reducible refine sCallO_s ?_
  | with_reducible refine sFldS_s ?_
  | with_reducible refine sFor_s ?_
  | with_reducible refine forCons_s ?_
  | with_reducible refine forNil_s ?_
  | with_reducible refine iL_s ?_
  | with_reducible refine ilK_s ?_
  | with_reducible refine ilS_s ?_
  | with_reducible refine iT_s ?_
  | with_reducible refine itK_s ?_
  | with_reducible refine iS_s ?_
  | with_reducible refine isK_s ?_
  | with_reducible refine iK_s ?_
  | with_reducible refine ikK_s ?_
  | with_reducible refine iKV_s ?_
  | with_reducible refine ikvK_s ?_
  | with_reducible refine iR1_s ?_
  | with_reducible refine iR2_s ?_
  | with_reducible refine dLc_s ?_
  | with_reducible refine dDc_s ?_
  | with_reducible refine dInV_s ?_
  | with_reducible refine dEqDG_s ?_
  | with_reducible refine dIsB_s ?_
  | with_reducible refine isBF_s ?_
  | with_reducible refine isBT_s ?_
  | ((with_reducible refine' dVar_s ?e0 ?_); (case e0 => exact rfl))
  | ((with_reducible refine' dVarQf_s ?e0 ?_); (case e0 => exact rfl))
  | ((with_reducible refine' dVarQo_s ?e0 ?e1 ?_); (case e0 => exact rfl); (case e1 => walk_at "dn"))
  | ((with_reducible refine' dPopV_s ?e0 ?_); (case e0 => exact rfl))
  | ((with_reducible refine' setK_s ?e0 ?e1 ?_); (case e0 => exact rfl); (case e1 => walk_at "dn"))
  | ((with_reducible refine' gN_s ?e0 ?e1 ?_); (case e0 => exact rfl); (case e1 => walk_at "dn"))
  | ((with_reducible refine' gT_s ?e0 ?_); (case e0 => exact rfl))
  | ((with_reducible refine' setL_s ?e0 ?e1 ?e2 ?_); (case e0 => exact rfl); (case e1 => exact rfl); (case e2 => (intro p; walk_at "dn")))
  | ((with_reducible refine' sSetD0_s ?e0 ?e1 ?_); (case e0 => exact rfl); (case e1 => (intro p; walk_at "dn")))
  | ((with_reducible refine' setDD_s ?e0 ?e1 ?_); (case e0 => exact rfl); (case e1 => (intro p; walk_at "dn")))
  | ((with_reducible refine' appW_s ?e0 ?_); (case e0 => exact rfl))
  | ((with_reducible refine' dVarF_s ?e0 ?e1 ?_); (case e0 => exact rfl); (case e1 => walk_at "dn"))
  | ((with_reducible refine' dVarFD_s ?e0 ?e1 ?_); (case e0 => exact rfl); (case e1 => walk_at "dn"))
  | ((with_reducible refine' dPutK_s ?e0 ?_); (case e0 => exact rfl))
  | ((with_reducible refine' lenQ_s ?e0 ?_); (case e0 => exact rfl))
  | ((with_reducible refine' opI_s ?e0 ?_); (case e0 => walk_at "da"))
  | ((with_reducible refine' eqF_s ?e0 ?_); (case e0 => exact rfl))
  | ((with_reducible refine' eqT_s ?e0 ?_); (case e0 => exact rfl))
  | ((with_reducible refine' fldK_s ?e0 ?_); (case e0 => exact rfl))
  | ((with_reducible refine' mSlot_s ?e0 ?e1 ?_); (case e0 => exact rfl); (case e1 => trivial))
  | ((with_reducible refine' callK_s ?e0 ?e1 ?e2 ?e3 ?e4 ?_); (case e0 => exact rfl); (case e1 => walk_at "dn"); (case e2 => exact rfl); (case e3 => exact rfl); (case e4 => walk_at "dn"))
  | ((with_reducible refine' methK_s ?e0 ?_); (case e0 => exact rfl))
  | ((with_reducible refine' methK2_s ?e0 ?e1 ?e2 ?e3 ?e4 ?_); (case e0 => exact rfl); (case e1 => walk_at "dn"); (case e2 => exact rfl); (case e3 => exact rfl); (case e4 => walk_at "dn"))
  | ((with_reducible refine' putK_s ?e0 ?_); (case e0 => walk_at "dn"))
  | ((with_reducible refine' mkK_s ?e0 ?_); (case e0 => walk_at "dn"))
  | ((with_reducible refine' callOK_s ?e0 ?e1 ?e2 ?e3 ?e4 ?e5 ?_); (case e0 => exact rfl); (case e1 => walk_at "dn"); (case e2 => exact rfl); (case e3 => exact rfl); (case e4 => exact rfl); (case e5 => walk_at "dn"))
  | ((with_reducible refine' putOK_s ?e0 ?_); (case e0 => walk_at "dn"))
  | ((with_reducible refine' dStI_s ?e0 ?e1 ?_); (case e0 => exact rfl); (case e1 => exact rfl))
  | ((with_reducible refine' dStN_s ?e0 ?_); (case e0 => exact rfl))
  | ((with_reducible refine' stSK_s ?e0 ?e1 ?e2 ?e3 ?_); (case e0 => exact rfl); (case e1 => exact rfl); (case e2 => walk_at "dn"); (case e3 => walk_at "dn"))
  | ((with_reducible refine' sStG_s ?e0 ?e1 ?e2 ?_); (case e0 => exact rfl); (case e1 => exact rfl); (case e2 => exact rfl))
  | ((with_reducible refine' stGK_s ?e0 ?e1 ?e2 ?_); (case e0 => exact rfl); (case e1 => walk_at "dn"); (case e2 => walk_at "dn"))
  | ((with_reducible refine' sStPop_s ?e0 ?e1 ?_); (case e0 => exact rfl); (case e1 => walk_at "dn"))
  | ((with_reducible refine' sRetSt_s ?e0 ?_); (case e0 => exact rfl))
  | ((with_reducible refine' retStK_s ?e0 ?e1 ?_); (case e0 => exact rfl); (case e1 => walk_at "dn"))
  | ((with_reducible refine' iteT_s ?e0 ?_); (case e0 => (first | exact rfl | assumption)))
  | ((with_reducible refine' iteF_s ?e0 ?_); (case e0 => (first | exact rfl | assumption)))
  | ((with_reducible refine' isiStr_s ?e0 ?_); (case e0 => walk_at "dk"))
  | ((with_reducible refine' isiInt_s ?e0 ?_); (case e0 => walk_at "dk"))
  | ((with_reducible refine' isiDct_s ?e0 ?_); (case e0 => walk_at "dk"))
  | ((with_reducible refine' splK2_s ?e0 ?e1 ?_); (case e0 => decide); (case e1 => decide))
  | ((with_reducible refine' addS_s ?e0 ?_); (case e0 => walk_at "da"))
  | ((with_reducible refine' addL_s ?e0 ?_); (case e0 => walk_at "da"))
  | ((with_reducible refine' cbLenS_s ?e0 ?_); (case e0 => walk_at "da"))
  | ((with_reducible refine' slSK_s ?e0 ?_); (case e0 => walk_at "da"))
  | ((with_reducible refine' lcK_s ?e0 ?_); (case e0 => walk_at "dn"))
  | ((with_reducible refine' dcK_s ?e0 ?_); (case e0 => walk_at "dn"))
  | ((with_reducible refine' makeK_s ?e0 ?e1 ?e2 ?e3 ?e4 ?e5 ?_); (case e0 => exact rfl); (case e1 => walk_at "dn"); (case e2 => walk_at "dz"); (case e3 => exact rfl); (case e4 => exact rfl); (case e5 => walk_at "dn"))
  | ((with_reducible refine' ir1K_s ?e0 ?_); (case e0 => walk_at "da"))
  | ((with_reducible refine' ir2K_s ?e0 ?_); (case e0 => walk_at "da"))
  | ((with_reducible refine' fnRt_s ?e0 ?e1 ?_); (case e0 => walk_at "db"); (case e1 => walk_at "dn"))
  | ((with_reducible refine' fnNx_s ?e0 ?e1 ?_); (case e0 => walk_at "db"); (case e1 => walk_at "dn"))
  | ((with_reducible refine' fnRo_s ?e0 ?e1 ?_); (case e0 => walk_at "db"); (case e1 => walk_at "dn"))
  | ((with_reducible refine' fnRtO_s ?e0 ?e1 ?_); (case e0 => walk_at "db"); (case e1 => walk_at "dn")))
local macro_rules | `(tactic| walk_at "ds") => `(tactic| repeat walk_at "s1")
local macro_rules | `(tactic| walk_at "dz") => `(tactic| (simp [nf]; done))
/-! ### the mathematics of drawn names -/
abbrev cl (s : Str) : List Nat := s.cps.toList
theorem cl_app (x y : Str) : cl (x ++ y) = cl x ++ cl y := by
  show (x ++ y).cps.toList = _
  rw [Str.cps_append, Array.toList_append]
theorem cl_len (x : Str) : x.length = (cl x).length := by simp [cl, Str.length]
theorem cl_ext {x y : Str} (h : cl x = cl y) : x = y := Str.ext' (Array.toList_inj.mp h)
def lts : List Nat := letters.cps.toList
def dgs : List Nat := digits.cps.toList
theorem lts_len : lts.length = 26 := by decide +kernel
theorem dgs_len : dgs.length = 10 := by decide +kernel
/-- a word in the making: r signs may still come -/
def Bs (b : Str) (r : Nat) : Prop := ∃ c t, cl b = c :: t ∧ c ∈ lts ∧ (∀ x ∈ t, x ∈ lts ∨ x ∈ dgs) ∧ t.length + r ≤ 11
theorem Bs.grow {b : Str} {r : Nat} (h : Bs b (r + 1)) {c : Nat} (hc : c ∈ lts ∨ c ∈ dgs) : Bs (b ++ ⟨#[c]⟩) r := by
  obtain ⟨c0, t, e, h1, h2, h3⟩ := h
  refine ⟨c0, t ++ [c], by rw [cl_app, e]; rfl, h1, fun x hx => ?_, by rw [List.length_append]; show t.length + 1 + r ≤ 11; omega⟩
  rcases List.mem_append.mp hx with m | m
  · exact h2 x m
  · rw [List.mem_singleton.mp m]; exact hc
theorem Bs.word {b : Str} {r : Nat} (h : Bs b r) : isWordB b = true ∧ b.length ≤ 12 := by
  obtain ⟨c0, t, e, h1, h2, h3⟩ := h
  have hl : b.length = t.length + 1 := by rw [cl_len, e]; rfl
  refine ⟨?_, by omega⟩
  have ha : (cl b).all (fun c => decide (c ∈ letters.cps.toList) || decide (c ∈ digits.cps.toList)) = true := by
    rw [e, List.all_eq_true]
    intro x hx
    rw [Bool.or_eq_true, decide_eq_true_eq, decide_eq_true_eq]
    rcases List.mem_cons.mp hx with m | m
    · subst m; exact .inl h1
    · exact h2 x m
  unfold isWordB
  rw [show decide (1 ≤ b.length) = true from decide_eq_true (by omega), show decide (b.length ≤ 12) = true from decide_eq_true (by omega)]
  exact ha
theorem Bs.len {b : Str} {r : Nat} (h : Bs b r) : b.length ≤ 12 := h.word.2
def keptL : List Str := ["name", "flag", "slot", "func", "open", "own", "look", "bind", "call", "keep", "take", "shift", "run", "drop", "apart", "when", "held", "fail", "guard", "else", "after", "end", "with", "of", "on", "off"]
theorem keptV_eq : keptV = keptL.map V.str := rfl
theorem kept_sub : ∀ w ∈ keptL, w ∈ keptWords := by decide +kernel
theorem Bs.ident {b : Str} {r : Nat} (h : Bs b r) (hk : b ∉ keptWords) : isIdB b = true := by
  obtain ⟨c0, t, e, h1, h2, h3⟩ := id h
  unfold isIdB
  rw [h.word.1, keptV_eq, inV_strs, show b.cps.toList = c0 :: t from e]
  have : b ∉ keptL := fun m => hk (kept_sub b m)
  have h1' : c0 ∈ letters.cps.toList := h1
  simp [this, h1']
def tails : List Str := (List.range 20).map fun k => Str.ofString (toString (10 + ((0 : Int) + (k : Nat))))
theorem tails_nd : tails.Nodup := by decide +kernel
theorem tails_ok : ∀ t ∈ tails, (∀ c ∈ cl t, c ∈ dgs) ∧ t.length = 2 := by decide +kernel
theorem kept_nodig : ∀ w ∈ keptWords, ∀ c ∈ cl w, c ∉ dgs := by decide +kernel
theorem cut9 {b : Str} {r : Nat} (h : Bs b r) : ∃ c t, cl (cutS b none (some 9)) = c :: t ∧ c ∈ lts ∧ (∀ x ∈ t, x ∈ lts ∨ x ∈ dgs) ∧ t.length ≤ 8 := by
  obtain ⟨c0, t, e, h1, h2, h3⟩ := h
  have hl : b.length = t.length + 1 := by rw [cl_len, e]; rfl
  have e9 : HT.sIx b.length b.length (some 9) = min 9 b.length := by
    unfold HT.sIx
    simp
  have e0 : HT.sIx b.length 0 none = 0 := rfl
  refine ⟨c0, t.take (min 9 b.length - 1), ?_, h1, fun x hx => h2 x (List.mem_of_mem_take hx), by rw [List.length_take]; omega⟩
  show (cl (cutS b none (some 9))) = _
  have : cl (cutS b none (some 9)) = ((cl b).drop 0).take (min 9 b.length - 0) := by
    unfold cutS
    rw [e9, e0]
  rw [this, e, List.drop_zero, Nat.sub_zero]
  obtain ⟨k, hk⟩ : ∃ k, min 9 b.length = k + 1 := ⟨min 9 b.length - 1, by omega⟩
  rw [hk]
  rfl
theorem tail_bs {b : Str} {r : Nat} (h : Bs b r) {t : Str} (ht : t ∈ tails) : Bs (cutS b none (some 9) ++ t) 0 := by
  obtain ⟨c, u, e, h1, h2, h3⟩ := cut9 h
  obtain ⟨t1, t2⟩ := tails_ok t ht
  refine ⟨c, u ++ cl t, by rw [cl_app, e]; rfl, h1, fun x hx => ?_, by rw [List.length_append, ← cl_len, t2]; omega⟩
  rcases List.mem_append.mp hx with m | m
  · exact h2 x m
  · exact .inr (t1 x m)
theorem tail_kept {p t : Str} (ht : t ∈ tails) : p ++ t ∉ keptWords := fun m => by
  obtain ⟨t1, t2⟩ := tails_ok t ht
  have hne : cl t ≠ [] := fun e => by rw [cl_len, e] at t2; cases t2
  obtain ⟨c, hc⟩ := List.exists_mem_of_ne_nil _ hne
  exact kept_nodig _ m c (by rw [cl_app]; exact List.mem_append_right _ hc) (t1 c hc)
/-- one of the twenty is free -/
theorem one_free {L : List Str} (hL : L.length ≤ 7) (p : Str) : ∃ t ∈ tails, p ++ t ∉ L := by
  apply Classical.byContradiction
  intro h
  have h' : ∀ t ∈ tails, p ++ t ∈ L := fun t ht => Classical.byContradiction fun z => h ⟨t, ht, z⟩
  have nd : (tails.map (p ++ ·)).Nodup := List.Pairwise.map _ (fun a b hab e => hab (by
    have e' := congrArg cl e
    rw [cl_app, cl_app] at e'
    exact cl_ext (List.append_cancel_left e'))) tails_nd
  have := nodup_len (m := L) nd fun x hx => by
    obtain ⟨t, ht, rfl⟩ := List.mem_map.mp hx
    exact h' t ht
  rw [List.length_map] at this
  have h20 : tails.length = 20 := by decide +kernel
  omega
def choices (b : Str) : List Str := b :: tails.map (cutS b none (some 9) ++ ·)
def freeB (L : List Str) (z : Str) : Bool := !decide (z ∈ L) && !decide (z ∈ keptWords)
theorem choices_ok {b : Str} {r : Nat} (h : Bs b r) {z : Str} (hz : z ∈ choices b) (hk : z ∉ keptWords) : isIdB z = true ∧ z.length ≤ 12 := by
  rcases List.mem_cons.mp hz with e | m
  · subst e; exact ⟨h.ident hk, h.len⟩
  · obtain ⟨t, ht, rfl⟩ := List.mem_map.mp m
    exact ⟨(tail_bs h ht).ident hk, (tail_bs h ht).len⟩
theorem free_ex {L : List Str} (hL : L.length ≤ 7) (b : Str) : ∃ z rest, (choices b).filter (freeB L) = z :: rest ∧ z ∈ choices b ∧ z ∉ L ∧ z ∉ keptWords := by
  obtain ⟨t, ht, hn⟩ := one_free hL (cutS b none (some 9))
  have m : cutS b none (some 9) ++ t ∈ (choices b).filter (freeB L) := by
    rw [List.mem_filter]
    refine ⟨List.mem_cons_of_mem _ (List.mem_map.mpr ⟨t, ht, rfl⟩), ?_⟩
    simp [freeB, hn, tail_kept ht]
  cases e : (choices b).filter (freeB L) with
  | nil => rw [e] at m; cases m
  | cons z rest =>
    have hz : z ∈ (choices b).filter (freeB L) := by rw [e]; exact List.mem_cons_self
    rw [List.mem_filter] at hz
    have h2 := hz.2
    simp only [freeB, Bool.and_eq_true, Bool.not_eq_true', decide_eq_false_iff_not] at h2
    exact ⟨z, rest, rfl, hz.1, h2.1, h2.2⟩
/-! ### the def -/
def chF (b : Str) : D → D
  | .int k => .str (cutS b none (some 9) ++ Str.ofString (toString (10 + k)))
  | _ => .non
def frB (L : List Str) : D → Bool
  | .str z => freeB L z
  | _ => false
theorem ten_log : ∀ i < 20, ((10 : Int) + ((0 : Int) + ((i : Nat) : Int))).natAbs.log2 < 1920 := by decide +kernel
theorem ten_len : ∀ i < 20, (Str.ofString (toString ((10 : Int) + ((0 : Int) + ((i : Nat) : Int))))).length = 2 := by decide +kernel
theorem cut_len (b : Str) : (cutS b none (some 9)).length ≤ b.length := by
  rw [cl_len, cl_len]
  unfold cutS
  simp only [cl]
  rw [List.length_take, List.length_drop]
  omega
theorem map_choices (b : Str) : [D.str b] ++ (rangeD 0 (20 : Int).toNat).map (chF b) = (choices b).map .str := by
  have : (rangeD 0 (20 : Int).toNat).map (chF b) = (tails.map (cutS b none (some 9) ++ ·)).map .str := by
    unfold rangeD tails
    rw [List.map_map, List.map_map, List.map_map]
    rfl
  rw [this]
  rfl
def frS (f : Str → Bool) : D → Bool
  | .str z => f z
  | _ => false
theorem filt_map (f : Str → Bool) : ∀ ss : List Str, (((ss.map D.str).filter (frS f)).map id) = (ss.filter f).map D.str
  | [] => rfl
  | s :: ss => by
    have ih := filt_map f ss
    rw [List.map_id] at ih ⊢
    rw [List.map_cons, List.filter_cons, List.filter_cons, ih]
    show (if f s = true then _ else _) = _
    split <;> rfl
theorem inVN_s {K : PySem.W.Frag} {a : Ad} {env : EV (nf a)} {i : Nat} {t : SD (nf a)} {L : List Str} {x : D} {w : V} {us : List V} {neg : Bool} {Q : D → EV (nf a) → Prop} (ht : NmL K a t L) (e : env[i]? = some t) (e1 : flatD x = some w) (e2 : flatDs (L.map .str) = some us) (h : Q (.bl (if neg then !inV w us else inV w us)) env) : InVK K neg i Q x env := by
  rcases ht with rfl | ⟨u, rfl⟩
  · exact ⟨_, w, us, .inl e, e1, e2, h⟩
  · exact ⟨_, w, us, .inr ⟨u, e⟩, e1, e2, h⟩
theorem NmL.set {K : PySem.W.Frag} {a : Ad} {t : SD (nf a)} {L : List Str} (h : NmL K a t L) : isSet t := by
  rcases h with rfl | ⟨u, rfl⟩ <;> trivial
theorem d_law_name {K : PySem.W.Frag} {a : Ad} : ∀ as Qd, as.length = 2 → (S_law_name K a) as Qd → td_law_name K a (fnEnds as Qd) (as ++ List.replicate (8 - 2) .un) := by
  rintro as Qd hl ⟨v, s, t, L, rfl, hs, ht, hL, q⟩
  obtain ⟨gr, x, n, sd, rfl, hb⟩ := id hs
  show td_law_name K a (fnEnds _ Qd) [.ow v (stA (nf a) gr x n sd), t, .un, .un, .un, .un, .un, .un]
  unfold td_law_name
  walk_at "ds"
  refine ⟨v, _, 26, rfl, hs, by decide, by decide, fun s1 d1 hs1 h01 h11 => ?_⟩
  obtain ⟨gr1, x1, n1, sd1, rfl, hb1⟩ := id hs1
  walk_at "ds"
  obtain ⟨c, hc, ec, _⟩ := atI_ex (xs := lts) (k := d1) h01 (by rw [lts_len]; exact h11)
  refine ixS_s (c := c) (by decide +kernel) ec ?_
  walk_at "ds"
  refine ⟨v, _, 6, rfl, hs1, by decide, by decide, fun s2 d2 hs2 h02 h12 => ?_⟩
  obtain ⟨gr2, x2, n2, sd2, rfl, hb2⟩ := id hs2
  walk_at "ds"
  obtain ⟨w, hw, ew, _⟩ := atI_ex (xs := [D.int 0, .int 1, .int 2, .int 3, .int 7, .int 11]) (k := d2) h02 (by exact h12)
  obtain ⟨m, rfl, hm0, hm⟩ : ∃ m : Int, w = .int m ∧ 0 ≤ m ∧ m ≤ 11 := by
    simp only [List.mem_cons, List.not_mem_nil, or_false] at hw
    rcases hw with rfl | rfl | rfl | rfl | rfl | rfl <;> exact ⟨_, rfl, by decide, by decide⟩
  refine ixT_s ew ?_
  walk_at "ds"
  refine for_inv (fun ds env => ∃ (gr : List Int) (x n sd : Int) (b : Str) (s4 : SD (nf a)), St a v (.ow v (stA (nf a) gr x n sd)) ∧ Bs b ds.length ∧ env = [.ow v (stA (nf a) gr x n sd), t, .fz (.str (Str.ofString "abcdefghijklmnopqrstuvwxyz")), .fz (.str b), s4, .un, .un, .un]) ?_ ?_ _ _ ⟨gr2, x2, n2, sd2, _, _, hs2, ⟨c, [], rfl, hc, (fun y hy => by cases hy), by simp [rangeD]; omega⟩, rfl⟩
  · rintro y ys env R ⟨gr3, x3, n3, sd3, b, s4, hs3, hbs, rfl⟩ hR
    have hbl := hbs.len
    walk_at "ds"
    refine ⟨v, _, 36, rfl, hs3, by decide, by decide, fun s5 d5 hs5 h05 h15 => ?_⟩
    obtain ⟨gr5, x5, n5, sd5, rfl, hb5⟩ := id hs5
    walk_at "ds"
    obtain ⟨c5, hc5, ec5, _⟩ := atI_ex (xs := lts ++ dgs) (k := d5) h05 (by rw [List.length_append, lts_len, dgs_len]; exact h15)
    refine ixS_s (c := c5) (by decide +kernel) (by rw [show (Str.ofString "abcdefghijklmnopqrstuvwxyz" ++ Str.ofString "0123456789").cps.toList = lts ++ dgs from cl_app _ _]; exact ec5) ?_
    walk_at "ds"
    refine addS_s (by show b.length + 1 ≤ 1000000; omega) ?_
    walk_at "ds"
    exact hR _ ⟨gr5, x5, n5, sd5, _, _, hs5, Bs.grow (r := ys.length) hbs (List.mem_append.mp hc5), rfl⟩
  · rintro env ⟨gr3, x3, n3, sd3, b, s4, hs3, hbs, rfl⟩
    have hbl := hbs.len
    walk_at "ds"
    refine lc_map (chF b) rfl (fun y hy R r => ?_) (by decide +kernel) ?_
    · obtain ⟨i, hi, rfl⟩ := List.mem_map.mp hy
      have hi' : i < 20 := List.mem_range.mp hi
      show dF addD _ _ [.ow v (stA (nf a) gr3 x3 n3 sd3), t, .fz (.str (Str.ofString "abcdefghijklmnopqrstuvwxyz")), .fz (.str b), .fz (.int (0 + (i : Nat))), .un, .un, .un] R
      walk_at "ds"
      refine cbStrI_s (ten_log i hi') ?_
      have := cut_len b
      refine addS_s (by rw [ten_len i hi']; omega) ?_
      exact r
    · walk_at "ds"
      refine addL_s (by rw [List.length_map, rangeD, List.length_map, List.length_range]; exact (by decide : 1 + (20 : Int).toNat ≤ 1000000)) ?_
      rw [map_choices]
      walk_at "ds"
      have hch : (choices b).length = 21 := by show (tails.map _).length + 1 = 21; rw [List.length_map]; decide +kernel
      refine lc_pure (frS (freeB L)) id rfl (fun y hy R r => ?_) (fun y hy _ R r => ?_) (by rw [List.length_map, hch]; decide) ?_
      · obtain ⟨z, hz, rfl⟩ := List.mem_map.mp hy
        show dAnd _ _ [.ow v (stA (nf a) gr3 x3 n3 sd3), t, .fz (.str (Str.ofString "abcdefghijklmnopqrstuvwxyz")), .fz (.str b), .un, .fz (.lst ((choices b).map .str)), .un, .fz (.str z)] R
        have r' : R (freeB L z) [.ow v (stA (nf a) gr3 x3 n3 sd3), t, .fz (.str (Str.ofString "abcdefghijklmnopqrstuvwxyz")), .fz (.str b), .un, .fz (.lst ((choices b).map .str)), .un, .fz (.str z)] := r
        walk_at "ds"
        refine inVN_s (w := .str z) ht rfl rfl (flat_strs L) ?_
        rw [inV_strs]
        walk_at "ds"
        unfold freeB at r'
        cases hz : decide (z ∈ L) with
        | true => 
          rw [hz] at r'
          refine iteF_s rfl ?_
          exact r'
        | false =>
          rw [hz] at r'
          refine iteT_s rfl ?_
          walk_at "ds"
          refine ⟨rfl, ?_⟩
          walk_at "ds"
          refine ninL_s (b := decide (z ∈ keptWords)) (by show ((flatD (.str z)).bind fun w => (flatDs (keptWords.map .str)).map fun us => inV w us) = _; rw [flat_strs]; exact congrArg some (inV_strs z keptWords)) ?_
          walk_at "ds"
          exact r'
      · obtain ⟨z, hz, rfl⟩ := List.mem_map.mp hy
        walk_at "ds"
        exact r
      · rw [filt_map]
        obtain ⟨z, rest, e, h1, h2, h3⟩ := free_ex hL b
        rw [e]
        walk_at "ds"
        refine ixL_s (z := .str z) atI_zero ?_
        walk_at "ds"
        obtain ⟨i1, i2⟩ := choices_ok hbs h1 h3
        rcases ht with rfl | ⟨u, rfl⟩ <;> (walk_at "ds"; exact q _ z hs3 i1 i2 h2)
end K30

namespace K30
open PySem L2 DL
local macro_rules | `(tactic| walk_at "dn") => `(tactic| first | (simp only [List.set_cons_zero, List.set_cons_succ, List.map_cons, List.map_nil, List.append_nil, List.nil_append, List.cons_append, rs_v, rs_o, pb_nil, pb_v, pb_o, back_nil, back_fz, back_un, back_ow, wp_nil, wp_cons, List.getElem?_cons_zero, List.getElem?_cons_succ, Option.getD_some, stP1, stP2, stP3]; exact rfl) | exact rfl)
local macro_rules | `(tactic| walk_at "db") => `(tactic| repeat first | exact bo_nil | refine bo_fz ?_ | refine bo_un ?_ | refine bo_ow ?_ | refine bo_fr ?_)
local macro_rules | `(tactic| walk_at "dk") => `(tactic| first | exact kb1 | exact kb2 | exact kb3 | exact kb4 | exact kb5 | exact kb6)
local macro_rules | `(tactic| walk_at "da") => `(tactic| first | assumption | omega | decide | (exact Or.inl ⟨by omega, by omega⟩) | (exact Or.inr ⟨by omega, by omega⟩) | (exact ⟨by decide, by decide⟩) | (exact ⟨by decide, by decide, by omega⟩))
local macro_rules | `(tactic| walk_at "s1") => `(tactic| first
  | with_reducible refine sNext_s ?_
  | with_reducible refine sSeq_s ?_
  | with_reducible refine sBrk_s ?_
  | with_reducible refine sCnt_s ?_
  | with_reducible refine sIf_s ?_
  | with_reducible refine sRet_s ?_
  | with_reducible refine sRetN_s ?_
  | with_reducible refine sDrop_s ?_
  | with_reducible refine sSet_s ?_
  | with_reducible refine sAsg_s ?_
  | with_reducible refine gsNil_s ?_
  | with_reducible refine gsCons_s ?_
  | with_reducible refine sSetL_s ?_
  | with_reducible refine sSetDD_s ?_
  | with_reducible refine sDPutV_s ?_
  | with_reducible refine dC_s ?_
  | with_reducible refine dBv_s ?_
  | with_reducible refine bvK_s ?_
  | with_reducible refine dNot_s ?_
  | with_reducible refine dAnd_s ?_
  | with_reducible refine dOr_s ?_
  | with_reducible refine dYes_s ?_
  | with_reducible refine dAndV_s ?_
  | with_reducible refine dOrV_s ?_
  | with_reducible refine dNotV_s ?_
  | with_reducible refine andVK_s ?_
  | with_reducible refine orVK_s ?_
  | with_reducible refine notVK_s ?_
  | with_reducible refine dIf_s ?_
  | with_reducible refine dIsN_s ?_
  | with_reducible refine aNil_s ?_
  | with_reducible refine aCons_s ?_
  | with_reducible refine dTup_s ?_
  | with_reducible refine dLst_s ?_
  | with_reducible refine dD0_s ?_
  | with_reducible refine dOp_s ?_
  | with_reducible refine dAdd_s ?_
  | with_reducible refine dSub_s ?_
  | with_reducible refine dMul_s ?_
  | with_reducible refine dMod_s ?_
  | with_reducible refine dDiv_s ?_
  | with_reducible refine dPow_s ?_
  | with_reducible refine dCmp_s ?_
  | with_reducible refine opI0_s ?_
  | with_reducible refine dEqG_s ?_
  | with_reducible refine dF_s ?_
  | with_reducible refine addI_s ?_
  | with_reducible refine inS_s ?_
  | with_reducible refine dChain_s ?_
  | with_reducible refine chK_s ?_
  | with_reducible refine chK2_s ?_
  | with_reducible refine dCB_s ?_
  | with_reducible refine cbInt_s ?_
  | with_reducible refine cbIntB_s ?_
  | with_reducible refine cbAbs_s ?_
  | with_reducible refine cbLenL_s ?_
  | with_reducible refine cbLenT_s ?_
  | with_reducible refine cbLenD_s ?_
  | with_reducible refine cbList_s ?_
  | with_reducible refine cbListT_s ?_
  | with_reducible refine cbTuple_s ?_
  | with_reducible refine cbTupleT_s ?_
  | with_reducible refine cbDict_s ?_
  | with_reducible refine cbListD_s ?_
  | with_reducible refine dSortS_s ?_
  | with_reducible refine dItems_s ?_
  | with_reducible refine itemsK_s ?_
  | with_reducible refine dDS2_s ?_
  | with_reducible refine dS2K_s ?_
  | with_reducible refine dSplit_s ?_
  | with_reducible refine splK_s ?_
  | with_reducible refine dJoin_s ?_
  | with_reducible refine joinK_s ?_
  | with_reducible refine oNone_s ?_
  | with_reducible refine oSome_s ?_
  | with_reducible refine ok'_s ?_
  | with_reducible refine dSlS_s ?_
  | with_reducible refine dSlL_s ?_
  | with_reducible refine slLK_s ?_
  | with_reducible refine dFld_s ?_
  | with_reducible refine mNil_s ?_
  | with_reducible refine mVal_s ?_
  | with_reducible refine dCall_s ?_
  | with_reducible refine dMeth_s ?_
  | with_reducible refine dMake_s ?_
  | with_reducible refine dOwnOp_s ?_
  | with_reducible refine sStS_s ?_
  | with_reducible refine sCallO_s ?_
  | with_reducible refine sFldS_s ?_
  | with_reducible refine sFor_s ?_
  | with_reducible refine forCons_s ?_
  | with_reducible refine forNil_s ?_
  | with_reducible refine iL_s ?_
  | with_reducible refine ilK_s ?_
  | with_reducible refine ilS_s ?_
  | with_reducible refine iT_s ?_
  | with_reducible refine itK_s ?_
  | with_reducible refine iS_s ?_
  | with_reducible refine isK_s ?_
  | with_reducible refine iK_s ?_
  | with_reducible refine ikK_s ?_
  | with_reducible refine iKV_s ?_
  | with_reducible refine ikvK_s ?_
  | with_reducible refine iR1_s ?_
  | with_reducible refine iR2_s ?_
  | with_reducible refine dLc_s ?_
  | with_reducible refine dDc_s ?_
  | with_reducible refine dInV_s ?_
  | with_reducible refine dEqDG_s ?_
  | with_reducible refine dIsB_s ?_
  | with_reducible refine isBF_s ?_
  | with_reducible refine isBT_s ?_
  | ((with_reducible refine' dVar_s ?e0 ?_); (case e0 => exact rfl))
  | ((with_reducible refine' dVarQf_s ?e0 ?_); (case e0 => exact rfl))
  | ((with_reducible refine' dVarQo_s ?e0 ?e1 ?_); (case e0 => exact rfl); (case e1 => walk_at "dn"))
  | ((with_reducible refine' dPopV_s ?e0 ?_); (case e0 => exact rfl))
  | ((with_reducible refine' setK_s ?e0 ?e1 ?_); (case e0 => exact rfl); (case e1 => walk_at "dn"))
  | ((with_reducible refine' gN_s ?e0 ?e1 ?_); (case e0 => exact rfl); (case e1 => walk_at "dn"))
  | ((with_reducible refine' gT_s ?e0 ?_); (case e0 => exact rfl))
  | ((with_reducible refine' setL_s ?e0 ?e1 ?e2 ?_); (case e0 => exact rfl); (case e1 => exact rfl); (case e2 => (intro p; walk_at "dn")))
  | ((with_reducible refine' sSetD0_s ?e0 ?e1 ?_); (case e0 => exact rfl); (case e1 => (intro p; walk_at "dn")))
  | ((with_reducible refine' setDD_s ?e0 ?e1 ?_); (case e0 => exact rfl); (case e1 => (intro p; walk_at "dn")))
  | ((with_reducible refine' appW_s ?e0 ?_); (case e0 => exact rfl))
  | ((with_reducible refine' dVarF_s ?e0 ?e1 ?_); (case e0 => exact rfl); (case e1 => walk_at "dn"))
  | ((with_reducible refine' dVarFD_s ?e0 ?e1 ?_); (case e0 => exact rfl); (case e1 => walk_at "dn"))
  | ((with_reducible refine' dPutK_s ?e0 ?_); (case e0 => exact rfl))
  | ((with_reducible refine' lenQ_s ?e0 ?_); (case e0 => exact rfl))
  | ((with_reducible refine' opI_s ?e0 ?_); (case e0 => walk_at "da"))
  | ((with_reducible refine' eqF_s ?e0 ?_); (case e0 => exact rfl))
  | ((with_reducible refine' eqT_s ?e0 ?_); (case e0 => exact rfl))
  | ((with_reducible refine' fldK_s ?e0 ?_); (case e0 => exact rfl))
  | ((with_reducible refine' mSlot_s ?e0 ?e1 ?_); (case e0 => exact rfl); (case e1 => trivial))
  | ((with_reducible refine' callK_s ?e0 ?e1 ?e2 ?e3 ?e4 ?_); (case e0 => exact rfl); (case e1 => walk_at "dn"); (case e2 => exact rfl); (case e3 => exact rfl); (case e4 => walk_at "dn"))
  | ((with_reducible refine' methK_s ?e0 ?_); (case e0 => exact rfl))
  | ((with_reducible refine' methK2_s ?e0 ?e1 ?e2 ?e3 ?e4 ?_); (case e0 => exact rfl); (case e1 => walk_at "dn"); (case e2 => exact rfl); (case e3 => exact rfl); (case e4 => walk_at "dn"))
  | ((with_reducible refine' putK_s ?e0 ?_); (case e0 => walk_at "dn"))
  | ((with_reducible refine' mkK_s ?e0 ?_); (case e0 => walk_at "dn"))
  | ((with_reducible refine' callOK_s ?e0 ?e1 ?e2 ?e3 ?e4 ?e5 ?_); (case e0 => exact rfl); (case e1 => walk_at "dn"); (case e2 => exact rfl); (case e3 => exact rfl); (case e4 => exact rfl); (case e5 => walk_at "dn"))
  | ((with_reducible refine' putOK_s ?e0 ?_); (case e0 => walk_at "dn"))
  | ((with_reducible refine' dStI_s ?e0 ?e1 ?_); (case e0 => exact rfl); (case e1 => exact rfl))
  | ((with_reducible refine' dStN_s ?e0 ?_); (case e0 => exact rfl))
  | ((with_reducible refine' stSK_s ?e0 ?e1 ?e2 ?e3 ?_); (case e0 => exact rfl); (case e1 => exact rfl); (case e2 => walk_at "dn"); (case e3 => walk_at "dn"))
  | ((with_reducible refine' sStG_s ?e0 ?e1 ?e2 ?_); (case e0 => exact rfl); (case e1 => exact rfl); (case e2 => exact rfl))
  | ((with_reducible refine' stGK_s ?e0 ?e1 ?e2 ?_); (case e0 => exact rfl); (case e1 => walk_at "dn"); (case e2 => walk_at "dn"))
  | ((with_reducible refine' sStPop_s ?e0 ?e1 ?_); (case e0 => exact rfl); (case e1 => walk_at "dn"))
  | ((with_reducible refine' sRetSt_s ?e0 ?_); (case e0 => exact rfl))
  | ((with_reducible refine' retStK_s ?e0 ?e1 ?_); (case e0 => exact rfl); (case e1 => walk_at "dn"))
  | ((with_reducible refine' iteT_s ?e0 ?_); (case e0 => (first | exact rfl | assumption)))
  | ((with_reducible refine' iteF_s ?e0 ?_); (case e0 => (first | exact rfl | assumption)))
  | ((with_reducible refine' isiStr_s ?e0 ?_); (case e0 => walk_at "dk"))
  | ((with_reducible refine' isiInt_s ?e0 ?_); (case e0 => walk_at "dk"))
  | ((with_reducible refine' isiDct_s ?e0 ?_); (case e0 => walk_at "dk"))
  | ((with_reducible refine' splK2_s ?e0 ?e1 ?_); (case e0 => decide); (case e1 => decide))
  | ((with_reducible refine' addS_s ?e0 ?_); (case e0 => walk_at "da"))
  | ((with_reducible refine' addL_s ?e0 ?_); (case e0 => walk_at "da"))
  | ((with_reducible refine' cbLenS_s ?e0 ?_); (case e0 => walk_at "da"))
  | ((with_reducible refine' slSK_s ?e0 ?_); (case e0 => walk_at "da"))
  | ((with_reducible refine' lcK_s ?e0 ?_); (case e0 => walk_at "dn"))
  | ((with_reducible refine' dcK_s ?e0 ?_); (case e0 => walk_at "dn"))
  | ((with_reducible refine' makeK_s ?e0 ?e1 ?e2 ?e3 ?e4 ?e5 ?_); (case e0 => exact rfl); (case e1 => walk_at "dn"); (case e2 => walk_at "dz"); (case e3 => exact rfl); (case e4 => exact rfl); (case e5 => walk_at "dn"))
  | ((with_reducible refine' ir1K_s ?e0 ?_); (case e0 => walk_at "da"))
  | ((with_reducible refine' ir2K_s ?e0 ?_); (case e0 => walk_at "da"))
  | ((with_reducible refine' fnRt_s ?e0 ?e1 ?_); (case e0 => walk_at "db"); (case e1 => walk_at "dn"))
  | ((with_reducible refine' fnNx_s ?e0 ?e1 ?_); (case e0 => walk_at "db"); (case e1 => walk_at "dn"))
  | ((with_reducible refine' fnRo_s ?e0 ?e1 ?_); (case e0 => walk_at "db"); (case e1 => walk_at "dn"))
  | ((with_reducible refine' fnRtO_s ?e0 ?e1 ?_); (case e0 => walk_at "db"); (case e1 => walk_at "dn")))
local macro_rules | `(tactic| walk_at "ds") => `(tactic| repeat walk_at "s1")
local macro_rules | `(tactic| walk_at "dz") => `(tactic| (simp [nf]; done))
theorem id_ok {s : Str} (h : isIdB s = true) : PyData.strOk s = true := by
  unfold isIdB isWordB at h
  simp only [Bool.and_eq_true, List.all_eq_true, Bool.or_eq_true, decide_eq_true_eq] at h
  unfold PyData.strOk
  rw [Array.all_eq_true_iff_forall_mem]
  intro c hc
  have hb : ∀ c ∈ letters.cps.toList ++ digits.cps.toList, c < 1114112 := by decide +kernel
  have := hb c (List.mem_append.mpr (h.1.1.2 c (by simpa using hc)))
  simpa using this
theorem d_law_names {K : PySem.W.Frag} {a : Ad} : ∀ as Qd, as.length = 2 → (S_law_names a) as Qd → td_law_names K a (fnEnds as Qd) (as ++ List.replicate (4 - 2) .un) := by
  rintro as Qd hl ⟨v, s, m, rfl, hs, h0, h7, q⟩
  obtain ⟨gr, x, n, sd, rfl, hb⟩ := id hs
  show td_law_names K a (fnEnds _ Qd) [.ow v (stA (nf a) gr x n sd), .fz (.int m), .un, .un]
  unfold td_law_names
  walk_at "ds"
  intro p
  walk_at "ds"
  refine for_inv (fun ds env => ∃ (gr : List Int) (x n sd : Int) (L : List Str) (s3 : SD (nf a)), St a v (.ow v (stA (nf a) gr x n sd)) ∧ L.length + ds.length ≤ 7 ∧ L.Nodup ∧ (∀ s ∈ L, isIdB s = true ∧ s.length ≤ 12) ∧ env = [.ow v (stA (nf a) gr x n sd), .fz (.int m), .ow (.ref p) (lstA K (nf a) (L.map .str)), s3]) ?_ ?_ _ _ ⟨gr, x, n, sd, [], .un, hs, by simp [rangeD]; omega, by simp, (fun s h => by cases h), rfl⟩
  · rintro y ys env R ⟨gr3, x3, n3, sd3, L, s3, hs3, hlen, nd, hL, rfl⟩ hR
    rw [List.length_cons] at hlen
    walk_at "ds"
    refine ⟨v, _, _, L, rfl, hs3, .inr ⟨.ref p, rfl⟩, by omega, fun s' z hs' i1 i2 i3 => ?_⟩
    obtain ⟨gr4, x4, n4, sd4, rfl, hb4⟩ := id hs'
    walk_at "ds"
    refine appK_s rfl (by rw [List.length_map]; omega) rfl ?_
    refine hR _ ⟨gr4, x4, n4, sd4, L ++ [z], _, hs', by rw [List.length_append]; show L.length + 1 + ys.length ≤ 7; omega, ?_, fun s hs => ?_, by rw [List.map_append]; rfl⟩
    · exact List.nodup_append.mpr ⟨nd, by simp, fun b hb c hc => by rw [List.mem_singleton.mp hc]; exact fun e => i3 (e ▸ hb)⟩
    · rcases List.mem_append.mp hs with m | m
      · exact hL s m
      · rw [List.mem_singleton.mp m]; exact ⟨i1, i2⟩
  · rintro env ⟨gr3, x3, n3, sd3, L, s3, hs3, hlen, nd, hL, rfl⟩
    walk_at "ds"
    exact q _ L hs3 ⟨Nat.le_trans (by simpa using hlen) (by decide : 7 ≤ 8), hL⟩ nd (by simpa using hlen)
/-! values -/
theorem mem_joinL {S : List Nat} : ∀ {ps : List (List Nat)} {c : Nat}, c ∈ TL.joinL S ps → c ∈ S ∨ ∃ p ∈ ps, c ∈ p
  | [], c, h => by cases h
  | [p], c, h => .inr ⟨p, List.mem_cons_self, h⟩
  | p :: q :: r, c, h => by
    have h' : c ∈ p ++ (S ++ TL.joinL S (q :: r)) := h
    rcases List.mem_append.mp h' with m | m
    · exact .inr ⟨p, List.mem_cons_self, m⟩
    · rcases List.mem_append.mp m with m | m
      · exact .inl m
      · rcases mem_joinL m with z | ⟨p', hp, z⟩
        · exact .inl z
        · exact .inr ⟨p', List.mem_cons_of_mem _ hp, z⟩
theorem join_ok {sep : Str} {ys : List Str} (h0 : PyData.strOk sep = true) (h : ∀ y ∈ ys, PyData.strOk y = true) : PyData.strOk (Txt.join sep ys) = true := by
  have e : Txt.join sep ys = Str.join sep ys := StrLaws.glued_eq_join sep ys
  rw [e]
  unfold PyData.strOk at h0 h ⊢
  rw [Array.all_eq_true_iff_forall_mem] at h0 ⊢
  intro c hc
  have hc' : c ∈ TL.tl (Str.join sep ys) := by simpa using hc
  rw [TL.tl_join] at hc'
  rcases mem_joinL hc' with m | ⟨p, hp, m⟩
  · exact h0 c (by simpa using m)
  · obtain ⟨y, hy, rfl⟩ := List.mem_map.mp hp
    have := h y hy
    rw [Array.all_eq_true_iff_forall_mem] at this
    exact this c (by simpa using m)
theorem sum_ones : ∀ {ys : List Str}, (∀ y ∈ ys, y.length = 1) → (ys.map (·.length)).sum = ys.length
  | [], _ => rfl
  | y :: ys, h => by
    rw [List.map_cons, List.sum_cons, sum_ones fun z hz => h z (List.mem_cons_of_mem _ hz), h y List.mem_cons_self, List.length_cons]
    omega
def signsV : Str := " !#&'()*+,-./09:;<=>?@AZ[]^_`az{|}~"
theorem signsV_len : signsV.cps.toList.length = 35 := by decide +kernel
theorem signsV_ok : ∀ c ∈ signsV.cps.toList, PyData.strOk ⟨#[c]⟩ = true := by decide +kernel
theorem d_law_value {K : PySem.W.Frag} {a : Ad} : ∀ as Qd, as.length = 1 → (S_law_value a) as Qd → td_law_value K a (fnEnds as Qd) (as ++ List.replicate (4 - 1) .un) := by
  rintro as Qd hl ⟨v, s, rfl, hs, q⟩
  obtain ⟨gr, x, n, sd, rfl, hb⟩ := id hs
  show td_law_value K a (fnEnds _ Qd) [.ow v (stA (nf a) gr x n sd), .un, .un, .un]
  unfold td_law_value
  walk_at "ds"
  refine ⟨v, _, 4, rfl, hs, by decide, by decide, fun s1 d1 hs1 h01 h11 => ?_⟩
  obtain ⟨gr1, x1, n1, sd1, rfl, hb1⟩ := id hs1
  walk_at "ds"
  refine ite_s (fun hc => ?_) (fun hc => ?_)
  · walk_at "ds"
    refine ⟨v, _, 7, rfl, hs1, by decide, by decide, fun s2 d2 hs2 h02 h12 => ?_⟩
    obtain ⟨gr2, x2, n2, sd2, rfl, hb2⟩ := id hs2
    walk_at "ds"
    refine q _ _ hs2 ?_ (fun z e => by cases e)
    have hB : (10 : Int) ≤ 10 ^ 1000 := by decide +kernel
    simp only [valB, Bool.and_eq_true, decide_eq_true_eq]
    generalize (10 : Int) ^ 1000 = B at hB ⊢
    omega
  · walk_at "ds"
    refine ite_s (fun hc2 => ?_) (fun hc2 => ?_)
    · walk_at "ds"
      refine ⟨v, _, 2, rfl, hs1, by decide, by decide, fun s2 d2 hs2 h02 h12 => ?_⟩
      obtain ⟨gr2, x2, n2, sd2, rfl, hb2⟩ := id hs2
      walk_at "ds"
      refine ⟨v, _, _, rfl, hs2, by decide +kernel, by decide +kernel, fun s3 d3 hs3 h03 h13 => ?_⟩
      obtain ⟨gr3, x3, n3, sd3, rfl, hb3⟩ := id hs3
      walk_at "ds"
      have hB : (10 : Int) ^ (12 : Int).toNat + 10 ^ (30 : Int).toNat < 10 ^ 1000 := by decide +kernel
      have hp : 0 ≤ (10 : Int) ^ (12 : Int).toNat := by decide +kernel
      refine q _ _ hs3 ?_ (fun z e => by cases e)
      simp only [valB, Bool.and_eq_true, decide_eq_true_eq]
      have : d2 = 0 ∨ d2 = 1 := by omega
      generalize (10 : Int) ^ 1000 = B at hB ⊢
      generalize (10 : Int) ^ (12 : Int).toNat = C at hB hp h13 ⊢
      generalize (10 : Int) ^ (30 : Int).toNat = E at hB h13 ⊢
      rcases this with rfl | rfl
      · have e : (0 * 2 - 1) * (C + d3) = -(C + d3) := by omega
        rw [e]
        omega
      · have e : (1 * 2 - 1) * (C + d3) = C + d3 := by omega
        rw [e]
        omega
    · walk_at "ds"
      refine ⟨v, _, 5, rfl, hs1, by decide, by decide, fun s2 d2 hs2 h02 h12 => ?_⟩
      obtain ⟨gr2, x2, n2, sd2, rfl, hb2⟩ := id hs2
      walk_at "ds"
      refine lc_inv (fun ds acc env => ∃ (gr : List Int) (x n sd : Int) (ys : List Str), St a v (.ow v (stA (nf a) gr x n sd)) ∧ acc = ys.map .str ∧ (∀ y ∈ ys, y.length = 1 ∧ PyData.strOk y = true) ∧ ys.length + ds.length ≤ 4 ∧ env = [.ow v (stA (nf a) gr x n sd), .fz (.int d1), .fz (.str signsV), .un]) ?_ ?_ _ _ _ ⟨gr2, x2, n2, sd2, [], hs2, rfl, (fun y h => by cases h), by simp [rangeD]; omega, rfl⟩
      · rintro y ys acc env R ⟨gr3, x3, n3, sd3, zs, hs3, rfl, hz, hlen, rfl⟩ hR
        rw [List.length_cons] at hlen
        walk_at "ds"
        refine ⟨v, _, 35, rfl, hs3, by decide, by decide, fun s4 d4 hs4 h04 h14 => ?_⟩
        obtain ⟨gr4, x4, n4, sd4, rfl, hb4⟩ := id hs4
        walk_at "ds"
        obtain ⟨c, hc, ec, _⟩ := atI_ex (xs := signsV.cps.toList) (k := d4) h04 (by rw [signsV_len]; exact h14)
        refine ixS_s (c := c) (by decide +kernel) ec ?_
        refine ⟨by rw [List.length_map]; omega, hR _ _ ⟨gr4, x4, n4, sd4, zs ++ [⟨#[c]⟩], hs4, by rw [List.map_append]; rfl, fun z hz' => ?_, by rw [List.length_append]; show zs.length + 1 + ys.length ≤ 4; omega, rfl⟩⟩
        rcases List.mem_append.mp hz' with m | m
        · exact hz z m
        · rw [List.mem_singleton.mp m]; exact ⟨rfl, signsV_ok c hc⟩
      · rintro acc env ⟨gr3, x3, n3, sd3, zs, hs3, rfl, hz, hlen, rfl⟩
        refine joinK2_s (ys := zs) rfl (by rw [sum_ones fun y hy => (hz y hy).1, show (Str.ofString "").length = 0 from rfl]; have h4 : zs.length ≤ 4 := (by simpa using hlen); omega) ?_
        walk_at "ds"
        exact q _ _ hs3 rfl (fun z e => by cases e; exact join_ok (by decide +kernel) fun y hy => (hz y hy).2)
theorem Tab.drop {L : List Str} {k : List (Key × D)} (h : Tab L k) (x : Key) : Tab L (dropD k x) := ⟨(List.filter_sublist.map _).nodup h.nd, fun q hq => h.ok q (List.mem_filter.mp hq).1⟩
theorem d_law_changed {K : PySem.W.Frag} {a : Ad} : ∀ as Qd, as.length = 4 → (S_law_changed a) as Qd → td_law_changed K a (fnEnds as Qd) (as ++ List.replicate (8 - 4) .un) := by
  rintro as Qd hl ⟨v, s, L, o, kds, rfl, hs, hN, hT, hk, q⟩
  obtain ⟨gr, x, n, sd, rfl, hb⟩ := id hs
  show td_law_changed K a (fnEnds _ Qd) [.ow v (stA (nf a) gr x n sd), .fz (.dct kds), .fz (.lst (L.map .str)), .fz (.str o), .un, .un, .un, .un]
  have ho : o ∈ L ++ [o] := List.mem_append_right _ List.mem_cons_self
  have oo := hN.ok o ho
  have pl : plainsB (L.map .str) = true := strs_plain fun s hs => id_ok (hN.ok s (List.mem_append_left _ hs)).1
  have hfew := hN.few
  rw [List.length_append] at hfew
  have hfew : L.length + 1 ≤ 8 := hfew
  -- the end
  have fin : ∀ (gr1 : List Int) (x1 n1 sd1 w : Int) (p : Addr) (k1 : List (Key × D)) (s6 s7 : SD (nf a)), St a v (.ow v (stA (nf a) gr1 x1 n1 sd1)) → Tab (L ++ [o]) k1 →
      sSeq (sIf (dBv (dEqG false (dVar 5) (dC (.int 3)))) (sDPutV K 4 (dVar 3) (dCall 1 (S_law_value a) [] (mSlot 0 mNil))) sNext) (sRet (dVarFD K 4)) (fnEnds [.ow v (stA (nf a) gr x n sd), .fz (.dct kds), .fz (.lst (L.map .str)), .fz (.str o)] Qd) [.ow v (stA (nf a) gr1 x1 n1 sd1), .fz (.dct kds), .fz (.lst (L.map .str)), .fz (.str o), .ow (.ref p) (dctA K (nf a) k1), .fz (.int w), s6, s7] := by
    intro gr1 x1 n1 sd1 w p k1 s6 s7 hs1 t1
    have l1 := t1.len hN
    walk_at "ds"
    refine ite_s (fun hc => ?_) (fun hc => ?_)
    · walk_at "ds"
      refine ⟨v, _, rfl, hs1, fun s4 d4 hs4 v4 z4 => ?_⟩
      obtain ⟨gr4, x4, n4, sd4, rfl, hb4⟩ := id hs4
      walk_at "ds"
      refine dPutK2_s rfl rfl (by omega) rfl ?_
      walk_at "ds"
      exact q _ _ hs4 (t1.put ho v4 (id_ok oo.1) z4)
    · walk_at "ds"
      exact q _ _ hs1 t1
  unfold td_law_changed
  walk_at "ds"
  intro p
  walk_at "ds"
  refine ⟨v, _, 5, rfl, hs, by decide, by decide, fun s1 w hs1 hw0 hw1 => ?_⟩
  obtain ⟨gr1, x1, n1, sd1, rfl, hb1⟩ := id hs1
  walk_at "ds"
  refine neEmpty_s pl (by rw [strs_dep]; decide) ?_
  walk_at "ds"
  refine ite_s (fun hc => ?_) (fun hc => ?_)
  · have hne : L ≠ [] := fun e => by subst e; cases hc
    have hpos : 0 < L.length := List.length_pos_iff.mpr hne
    walk_at "ds"
    refine ⟨v, _, _, rfl, hs1, by rw [List.length_map]; omega, by rw [List.length_map]; omega, fun s5 d5 hs5 h05 h15 => ?_⟩
    obtain ⟨gr5, x5, n5, sd5, rfl, hb5⟩ := id hs5
    walk_at "ds"
    obtain ⟨e6, he6, ew, _⟩ := atI_ex (xs := L.map D.str) (k := d5) h05 h15
    obtain ⟨z, hz, rfl⟩ := List.mem_map.mp he6
    have hz' : z ∈ L ++ [o] := List.mem_append_left _ hz
    have zo := hN.ok z hz'
    have lk := hT.len hN
    refine ixL_s ew ?_
    walk_at "ds"
    refine ite_s (fun h1 => ?_) (fun h1 => ?_)
    · have w1 : w = 1 := of_decide_eq_true h1
      subst w1
      walk_at "ds"
      refine ⟨v, _, rfl, hs5, fun s6 d6 hs6 v6 z6 => ?_⟩
      obtain ⟨gr6, x6, n6, sd6, rfl, hb6⟩ := id hs6
      walk_at "ds"
      refine dPutK2_s rfl rfl (by omega) rfl ?_
      walk_at "ds"
      exact q _ _ hs6 (hT.put hz' v6 (id_ok zo.1) z6)
    · walk_at "ds"
      obtain ⟨d7, e7⟩ := hk z hz
      obtain ⟨_, _, e8, hv, _, sv⟩ := hT.ok _ (valD_mem e7)
      have pops : ∀ (De : EndsD (nf a)), (∀ k1 s7, Tab (L ++ [o]) k1 → De.nx [.ow v (stA (nf a) gr5 x5 n5 sd5), .fz (.dct kds), .fz (.lst (L.map .str)), .fz (.str o), .ow (.ref p) (dctA K (nf a) k1), .fz (.int w), .fz (.str z), s7]) →
          sSeq (sSet 7 (dPopV K 4 (dVar 6))) (sIf (dBv (dEqG false (dVar 5) (dC (.int 4)))) (sDPutV K 4 (dVar 3) (dVar 7)) sNext) De [.ow v (stA (nf a) gr5 x5 n5 sd5), .fz (.dct kds), .fz (.lst (L.map .str)), .fz (.str o), .ow (.ref p) (dctA K (nf a) kds), .fz (.int w), .fz (.str z), .un] := by
        intro De hk'
        have hd := hT.drop (.inr z)
        have ld := hd.len hN
        walk_at "ds"
        refine popK_s rfl rfl e7 rfl ?_
        walk_at "ds"
        refine ite_s (fun h4 => ?_) (fun h4 => ?_)
        · walk_at "ds"
          refine dPutK2_s rfl rfl (by omega) rfl ?_
          exact hk' _ _ (hd.put ho hv (id_ok oo.1) sv)
        · walk_at "ds"
          exact hk' _ _ hd
      refine ite_s (fun h2 => ?_) (fun h2 => ?_)
      · refine pops _ fun k1 s7 t1 => ?_
        exact fin _ _ _ _ w p k1 _ _ hs5 t1
      · walk_at "ds"
        refine ite_s (fun h4 => ?_) (fun h4 => ?_)
        · refine pops _ fun k1 s7 t1 => ?_
          exact fin _ _ _ _ w p k1 _ _ hs5 t1
        · refine sNext_s ?_
          exact fin _ _ _ _ w p kds _ _ hs5 hT
  · refine sNext_s ?_
    exact fin _ _ _ _ w p kds _ _ hs1 hT
def wiB (k1 k2 : List (Key × D)) : D → Bool
  | .str z => !hitD k2 (.inr z, (valD k1 (.inr z)).getD .non)
  | _ => false
theorem wiB_of {k1 k2 : List (Key × D)} {z : Str} {d1 : D} (e : valD k1 (.inr z) = some d1) : wiB k1 k2 (.str z) = !hitD k2 (.inr z, d1) := by
  show (!hitD k2 (.inr z, (valD k1 (.inr z)).getD .non)) = _
  rw [e]; rfl
theorem hit_none {k2 : List (Key × D)} {k : Key} {d : D} (e : valD k2 k = none) : hitD k2 (k, d) = false := by unfold hitD; simp only []; rw [e]
theorem hit_some {k2 : List (Key × D)} {k : Key} {d d2 : D} (e : valD k2 k = some d2) : hitD k2 (k, d) = eqF d d2 := by unfold hitD; simp only []; rw [e]
theorem d_law_within {K : PySem.W.Frag} {a : Ad} : ∀ as Qd, as.length = 2 → (S_law_within a) as Qd → td_law_within K a (fnEnds as Qd) (as ++ List.replicate (3 - 2) .un) := by
  rintro as Qd hl ⟨L, k1, k2, rfl, hL, h1, h2, q⟩
  show td_law_within K a (fnEnds _ Qd) [.fz (.dct k1), .fz (.dct k2), .un]
  unfold td_law_within
  have l1 := h1.len hL
  walk_at "ds"
  rw [h1.keys]
  refine lc_pure (wiB k1 k2) id rfl (fun x hx R r => ?_) (fun x hx _ R r => ?_) (by rw [List.length_map, h1.klen]; show 0 + k1.length ≤ 1000000; omega) ?_
  · obtain ⟨z, hz, rfl⟩ := List.mem_map.mp hx
    have r' : R (wiB k1 k2 (.str z)) [.fz (.dct k1), .fz (.dct k2), .fz (.str z)] := r
    show dOr _ _ [.fz (.dct k1), .fz (.dct k2), .fz (.str z)] R
    have hs := h1.mem.mp hz
    cases e1 : valD k1 (.inr z) with
    | none => rw [e1] at hs; cases hs
    | some d1 =>
      rw [wiB_of e1] at r'
      walk_at "ds"
      refine fK_s (z := .bl (!(valD k2 (.inr z)).isSome)) (by rfl) ?_
      cases e2 : valD k2 (.inr z) with
      | none =>
        rw [hit_none e2] at r'
        walk_at "ds"
        exact r'
      | some d2 =>
        rw [hit_some e2] at r'
        walk_at "ds"
        refine ixDct_s rfl e2 ?_
        walk_at "ds"
        refine ixDct_s rfl e1 ?_
        obtain ⟨_, _, _, v1, _⟩ := h1.ok _ (valD_mem e1)
        obtain ⟨_, _, _, v2, _⟩ := h2.ok _ (valD_mem e2)
        refine eqT_s (eqS_F v1 v2) ?_
        walk_at "ds"
        exact r'
  · obtain ⟨z, hz, rfl⟩ := List.mem_map.mp hx
    walk_at "ds"
    exact r
  · rw [List.nil_append, List.map_id]
    have pl : plainsB (((keyStrs k1).map D.str).filter (wiB k1 k2)) = true := plains_iff.mpr fun x hx => by
      obtain ⟨z, hz, rfl⟩ := List.mem_map.mp (List.mem_filter.mp hx).1
      show PyData.strOk z = true
      exact id_ok (hL.ok z (h1.sub z hz)).1
    have dp : depsD (((keyStrs k1).map D.str).filter (wiB k1 k2)) ≤ 63 := deps_le.mpr fun x hx => by
      obtain ⟨z, hz, rfl⟩ := List.mem_map.mp (List.mem_filter.mp hx).1
      show 0 ≤ 63
      decide
    walk_at "ds"
    refine eqEmpty_s pl dp ?_
    have e : (((keyStrs k1).map D.str).filter (wiB k1 k2)).isEmpty = k1.all (hitD k2) := by
      rw [Bool.eq_iff_iff, List.isEmpty_iff, List.filter_eq_nil_iff, List.all_eq_true]
      constructor
      · intro h p hp
        obtain ⟨s, _, es, _⟩ := h1.ok p hp
        have m : s ∈ keyStrs k1 := h1.mem.mpr (by rw [← es, valD_of (k := p.1) (d := p.2) h1.nd hp]; rfl)
        have := h _ (List.mem_map.mpr ⟨s, m, rfl⟩)
        rw [wiB_of (d1 := p.2) (by rw [← es]; exact valD_of h1.nd hp), ← es] at this
        simpa using this
      · intro h x hx
        obtain ⟨z, hz, rfl⟩ := List.mem_map.mp hx
        have hs := h1.mem.mp hz
        cases e1 : valD k1 (.inr z) with
        | none => rw [e1] at hs; cases hs
        | some d1 =>
          rw [wiB_of e1, h _ (valD_mem e1)]
          decide
    rw [e]
    walk_at "ds"
    exact q
theorem d_law_pairs {K : PySem.W.Frag} {a : Ad} : ∀ as Qd, as.length = 2 → (S_law_pairs a) as Qd → td_law_pairs K a (fnEnds as Qd) (as ++ List.replicate (3 - 2) .un) := by
  rintro as Qd hl ⟨kds, ss, rfl, hl64, hk, q⟩
  show td_law_pairs K a (fnEnds _ Qd) [.fz (.dct kds), .fz (.lst (ss.map .str)), .un]
  unfold td_law_pairs
  walk_at "ds"
  refine sortS_s (ss := ss) rfl hl64 (fun ys hp hs => ?_)
  walk_at "ds"
  refine lc_map (fun x => .tup [x, valF kds x]) rfl (fun x hx R r => ?_) (by rw [List.length_map, hp.length_eq]; omega) ?_
  · obtain ⟨s, hs, rfl⟩ := List.mem_map.mp hx
    show dTup _ [.fz (.dct kds), .fz (.lst (ss.map .str)), .fz (.str s)] R
    walk_at "ds"
    obtain ⟨d, e⟩ := hk s (hp.subset hs)
    refine ixDct_s rfl e ?_
    walk_at "ds"
    have r' : R (.tup [.str s, valF kds (.str s)]) [.fz (.dct kds), .fz (.lst (ss.map .str)), .fz (.str s)] := r
    rw [show valF kds (.str s) = d by simp [valF, e]] at r'
    exact r'
  · walk_at "ds"
    have e : (ys.map D.str).map (fun x => D.tup [x, valF kds x]) = pairsOf kds ys := by rw [List.map_map]; rfl
    rw [e]
    exact q ys hp hs
theorem tab_plain {L : List Str} {k : List (Key × D)} (h : Tab L k) : plainB (.lst (k.map fun p => .tup [kD p.1, p.2])) = true ∧ depD (.lst (k.map fun p => .tup [kD p.1, p.2])) ≤ 64 := by
  have one : ∀ x ∈ k.map (fun p => D.tup [kD p.1, p.2]), plainB x = true ∧ depD x ≤ 1 := fun x hx => by
    obtain ⟨p, hp, rfl⟩ := List.mem_map.mp hx
    obtain ⟨s, _, e, hv, so, sv⟩ := h.ok p hp
    have e2 : kD p.1 = .str s := by rw [e]; rfl
    rw [e2]
    cases hd : p.2 with
    | int i => exact ⟨by simp [plainB, plainsB, so], by simp [depD, depsD]⟩
    | str z => exact ⟨by simp [plainB, plainsB, so, sv z hd], by simp [depD, depsD]⟩
    | _ => rw [hd] at hv; simp [valB] at hv
  refine ⟨?_, ?_⟩
  · rw [plainB, plains_iff]
    exact fun x hx => (one x hx).1
  · rw [depD]
    have := (deps_le (n := 1)).mpr fun x hx => (one x hx).2
    omega
end K30

namespace K30
open PySem L2 DL
local macro_rules | `(tactic| walk_at "dn") => `(tactic| first | (simp only [List.set_cons_zero, List.set_cons_succ, List.map_cons, List.map_nil, List.append_nil, List.nil_append, List.cons_append, rs_v, rs_o, pb_nil, pb_v, pb_o, back_nil, back_fz, back_un, back_ow, wp_nil, wp_cons, List.getElem?_cons_zero, List.getElem?_cons_succ, Option.getD_some, stP1, stP2, stP3]; exact rfl) | exact rfl)
local macro_rules | `(tactic| walk_at "db") => `(tactic| repeat first | exact bo_nil | refine bo_fz ?_ | refine bo_un ?_ | refine bo_ow ?_ | refine bo_fr ?_)
local macro_rules | `(tactic| walk_at "dk") => `(tactic| first | exact kb1 | exact kb2 | exact kb3 | exact kb4 | exact kb5 | exact kb6)
local macro_rules | `(tactic| walk_at "da") => `(tactic| first | assumption | omega | decide | (exact Or.inl ⟨by omega, by omega⟩) | (exact Or.inr ⟨by omega, by omega⟩) | (exact ⟨by decide, by decide⟩) | (exact ⟨by decide, by decide, by omega⟩))
local macro_rules | `(tactic| walk_at "s1") => `(tactic| first
  | with_reducible refine sNext_s ?_
  | with_reducible refine sSeq_s ?_
  | with_reducible refine sBrk_s ?_
  | with_reducible refine sCnt_s ?_
  | with_reducible refine sIf_s ?_
  | with_reducible refine sRet_s ?_
  | with_reducible refine sRetN_s ?_
  | with_reducible refine sDrop_s ?_
  | with_reducible refine sSet_s ?_
  | with_reducible refine sAsg_s ?_
  | with_reducible refine gsNil_s ?_
  | with_reducible refine gsCons_s ?_
  | with_reducible refine sSetL_s ?_
  | with_reducible refine sSetDD_s ?_
  | with_reducible refine sDPutV_s ?_
  | with_reducible refine dC_s ?_
  | with_reducible refine dBv_s ?_
  | with_reducible refine bvK_s ?_
  | with_reducible refine dNot_s ?_
  | with_reducible refine dAnd_s ?_
  | with_reducible refine dOr_s ?_
  | with_reducible refine dYes_s ?_
  | with_reducible refine dAndV_s ?_
  | with_reducible refine dOrV_s ?_
  | with_reducible refine dNotV_s ?_
  | with_reducible refine andVK_s ?_
  | with_reducible refine orVK_s ?_
  | with_reducible refine notVK_s ?_
  | with_reducible refine dIf_s ?_
  | with_reducible refine dIsN_s ?_
  | with_reducible refine aNil_s ?_
  | with_reducible refine aCons_s ?_
  | with_reducible refine dTup_s ?_
  | with_reducible refine dLst_s ?_
  | with_reducible refine dD0_s ?_
  | with_reducible refine dOp_s ?_
  | with_reducible refine dAdd_s ?_
  | with_reducible refine dSub_s ?_
  | with_reducible refine dMul_s ?_
  | with_reducible refine dMod_s ?_
  | with_reducible refine dDiv_s ?_
  | with_reducible refine dPow_s ?_
  | with_reducible refine dCmp_s ?_
  | with_reducible refine opI0_s ?_
  | with_reducible refine dEqG_s ?_
  | with_reducible refine dF_s ?_
  | with_reducible refine addI_s ?_
  | with_reducible refine inS_s ?_
  | with_reducible refine dChain_s ?_
  | with_reducible refine chK_s ?_
  | with_reducible refine chK2_s ?_
  | with_reducible refine dCB_s ?_
  | with_reducible refine cbInt_s ?_
  | with_reducible refine cbIntB_s ?_
  | with_reducible refine cbAbs_s ?_
  | with_reducible refine cbLenL_s ?_
  | with_reducible refine cbLenT_s ?_
  | with_reducible refine cbLenD_s ?_
  | with_reducible refine cbList_s ?_
  | with_reducible refine cbListT_s ?_
  | with_reducible refine cbTuple_s ?_
  | with_reducible refine cbTupleT_s ?_
  | with_reducible refine cbDict_s ?_
  | with_reducible refine cbListD_s ?_
  | with_reducible refine dSortS_s ?_
  | with_reducible refine dItems_s ?_
  | with_reducible refine itemsK_s ?_
  | with_reducible refine dDS2_s ?_
  | with_reducible refine dS2K_s ?_
  | with_reducible refine dSplit_s ?_
  | with_reducible refine splK_s ?_
  | with_reducible refine dJoin_s ?_
  | with_reducible refine joinK_s ?_
  | with_reducible refine oNone_s ?_
  | with_reducible refine oSome_s ?_
  | with_reducible refine ok'_s ?_
  | with_reducible refine dSlS_s ?_
  | with_reducible refine dSlL_s ?_
  | with_reducible refine slLK_s ?_
  | with_reducible refine dFld_s ?_
  | with_reducible refine mNil_s ?_
  | with_reducible refine mVal_s ?_
  | with_reducible refine dCall_s ?_
  | with_reducible refine dMeth_s ?_
  | with_reducible refine dMake_s ?_
  | with_reducible refine dOwnOp_s ?_
  | with_reducible refine sStS_s ?_
  | with_reducible refine sCallO_s ?_
  | with_reducible refine sFldS_s ?_
  | with_reducible refine sFor_s ?_
  | with_reducible refine forCons_s ?_
  | with_reducible refine forNil_s ?_
  | with_reducible refine iL_s ?_
  | with_reducible refine ilK_s ?_
  | with_reducible refine ilS_s ?_
  | with_reducible refine iT_s ?_
  | with_reducible refine itK_s ?_
  | with_reducible refine iS_s ?_
  | with_reducible refine isK_s ?_
  | with_reducible refine iK_s ?_
  | with_reducible refine ikK_s ?_
  | with_reducible refine iKV_s ?_
  | with_reducible refine ikvK_s ?_
  | with_reducible refine iR1_s ?_
  | with_reducible refine iR2_s ?_
  | with_reducible refine dLc_s ?_
  | with_reducible refine dDc_s ?_
  | with_reducible refine dInV_s ?_
  | with_reducible refine dEqDG_s ?_
  | with_reducible refine dIsB_s ?_
  | with_reducible refine isBF_s ?_
  | with_reducible refine isBT_s ?_
  | ((with_reducible refine' dVar_s ?e0 ?_); (case e0 => exact rfl))
  | ((with_reducible refine' dVarQf_s ?e0 ?_); (case e0 => exact rfl))
  | ((with_reducible refine' dVarQo_s ?e0 ?e1 ?_); (case e0 => exact rfl); (case e1 => walk_at "dn"))
  | ((with_reducible refine' dPopV_s ?e0 ?_); (case e0 => exact rfl))
  | ((with_reducible refine' setK_s ?e0 ?e1 ?_); (case e0 => exact rfl); (case e1 => walk_at "dn"))
  | ((with_reducible refine' gN_s ?e0 ?e1 ?_); (case e0 => exact rfl); (case e1 => walk_at "dn"))
  | ((with_reducible refine' gT_s ?e0 ?_); (case e0 => exact rfl))
  | ((with_reducible refine' setL_s ?e0 ?e1 ?e2 ?_); (case e0 => exact rfl); (case e1 => exact rfl); (case e2 => (intro p; walk_at "dn")))
  | ((with_reducible refine' sSetD0_s ?e0 ?e1 ?_); (case e0 => exact rfl); (case e1 => (intro p; walk_at "dn")))
  | ((with_reducible refine' setDD_s ?e0 ?e1 ?_); (case e0 => exact rfl); (case e1 => (intro p; walk_at "dn")))
  | ((with_reducible refine' appW_s ?e0 ?_); (case e0 => exact rfl))
  | ((with_reducible refine' dVarF_s ?e0 ?e1 ?_); (case e0 => exact rfl); (case e1 => walk_at "dn"))
  | ((with_reducible refine' dVarFD_s ?e0 ?e1 ?_); (case e0 => exact rfl); (case e1 => walk_at "dn"))
  | ((with_reducible refine' dPutK_s ?e0 ?_); (case e0 => exact rfl))
  | ((with_reducible refine' lenQ_s ?e0 ?_); (case e0 => exact rfl))
  | ((with_reducible refine' opI_s ?e0 ?_); (case e0 => walk_at "da"))
  | ((with_reducible refine' eqF_s ?e0 ?_); (case e0 => exact rfl))
  | ((with_reducible refine' eqT_s ?e0 ?_); (case e0 => exact rfl))
  | ((with_reducible refine' fldK_s ?e0 ?_); (case e0 => exact rfl))
  | ((with_reducible refine' mSlot_s ?e0 ?e1 ?_); (case e0 => exact rfl); (case e1 => trivial))
  | ((with_reducible refine' callK_s ?e0 ?e1 ?e2 ?e3 ?e4 ?_); (case e0 => exact rfl); (case e1 => walk_at "dn"); (case e2 => exact rfl); (case e3 => exact rfl); (case e4 => walk_at "dn"))
  | ((with_reducible refine' methK_s ?e0 ?_); (case e0 => exact rfl))
  | ((with_reducible refine' methK2_s ?e0 ?e1 ?e2 ?e3 ?e4 ?_); (case e0 => exact rfl); (case e1 => walk_at "dn"); (case e2 => exact rfl); (case e3 => exact rfl); (case e4 => walk_at "dn"))
  | ((with_reducible refine' putK_s ?e0 ?_); (case e0 => walk_at "dn"))
  | ((with_reducible refine' mkK_s ?e0 ?_); (case e0 => walk_at "dn"))
  | ((with_reducible refine' callOK_s ?e0 ?e1 ?e2 ?e3 ?e4 ?e5 ?_); (case e0 => exact rfl); (case e1 => walk_at "dn"); (case e2 => exact rfl); (case e3 => exact rfl); (case e4 => exact rfl); (case e5 => walk_at "dn"))
  | ((with_reducible refine' putOK_s ?e0 ?_); (case e0 => walk_at "dn"))
  | ((with_reducible refine' dStI_s ?e0 ?e1 ?_); (case e0 => exact rfl); (case e1 => exact rfl))
  | ((with_reducible refine' dStN_s ?e0 ?_); (case e0 => exact rfl))
  | ((with_reducible refine' stSK_s ?e0 ?e1 ?e2 ?e3 ?_); (case e0 => exact rfl); (case e1 => exact rfl); (case e2 => walk_at "dn"); (case e3 => walk_at "dn"))
  | ((with_reducible refine' sStG_s ?e0 ?e1 ?e2 ?_); (case e0 => exact rfl); (case e1 => exact rfl); (case e2 => exact rfl))
  | ((with_reducible refine' stGK_s ?e0 ?e1 ?e2 ?_); (case e0 => exact rfl); (case e1 => walk_at "dn"); (case e2 => walk_at "dn"))
  | ((with_reducible refine' sStPop_s ?e0 ?e1 ?_); (case e0 => exact rfl); (case e1 => walk_at "dn"))
  | ((with_reducible refine' sRetSt_s ?e0 ?_); (case e0 => exact rfl))
  | ((with_reducible refine' retStK_s ?e0 ?e1 ?_); (case e0 => exact rfl); (case e1 => walk_at "dn"))
  | ((with_reducible refine' iteT_s ?e0 ?_); (case e0 => (first | exact rfl | assumption)))
  | ((with_reducible refine' iteF_s ?e0 ?_); (case e0 => (first | exact rfl | assumption)))
  | ((with_reducible refine' isiStr_s ?e0 ?_); (case e0 => walk_at "dk"))
  | ((with_reducible refine' isiInt_s ?e0 ?_); (case e0 => walk_at "dk"))
  | ((with_reducible refine' isiDct_s ?e0 ?_); (case e0 => walk_at "dk"))
  | ((with_reducible refine' splK2_s ?e0 ?e1 ?_); (case e0 => decide); (case e1 => decide))
  | ((with_reducible refine' addS_s ?e0 ?_); (case e0 => walk_at "da"))
  | ((with_reducible refine' addL_s ?e0 ?_); (case e0 => walk_at "da"))
  | ((with_reducible refine' cbLenS_s ?e0 ?_); (case e0 => walk_at "da"))
  | ((with_reducible refine' slSK_s ?e0 ?_); (case e0 => walk_at "da"))
  | ((with_reducible refine' lcK_s ?e0 ?_); (case e0 => walk_at "dn"))
  | ((with_reducible refine' dcK_s ?e0 ?_); (case e0 => walk_at "dn"))
  | ((with_reducible refine' makeK_s ?e0 ?e1 ?e2 ?e3 ?e4 ?e5 ?_); (case e0 => exact rfl); (case e1 => walk_at "dn"); (case e2 => walk_at "dz"); (case e3 => exact rfl); (case e4 => exact rfl); (case e5 => walk_at "dn"))
  | ((with_reducible refine' ir1K_s ?e0 ?_); (case e0 => walk_at "da"))
  | ((with_reducible refine' ir2K_s ?e0 ?_); (case e0 => walk_at "da"))
  | ((with_reducible refine' fnRt_s ?e0 ?e1 ?_); (case e0 => walk_at "db"); (case e1 => walk_at "dn"))
  | ((with_reducible refine' fnNx_s ?e0 ?e1 ?_); (case e0 => walk_at "db"); (case e1 => walk_at "dn"))
  | ((with_reducible refine' fnRo_s ?e0 ?e1 ?_); (case e0 => walk_at "db"); (case e1 => walk_at "dn"))
  | ((with_reducible refine' fnRtO_s ?e0 ?e1 ?_); (case e0 => walk_at "db"); (case e1 => walk_at "dn")))
local macro_rules | `(tactic| walk_at "ds") => `(tactic| repeat walk_at "s1")
local macro_rules | `(tactic| walk_at "dz") => `(tactic| (simp [nf]; done))
theorem eqF_iff {d e : D} (hd : valB d = true) (he : valB e = true) : eqF d e = true ↔ d = e := by
  cases d with
  | int i =>
    cases e with
    | int j => show (i == j) = true ↔ _; simp
    | str z => show false = true ↔ _; simp
    | _ => simp [valB] at he
  | str w =>
    cases e with
    | int j => show false = true ↔ _; simp
    | str z => show (w == z) = true ↔ _; simp
    | _ => simp [valB] at he
  | _ => simp [valB] at hd
theorem sub_iff {L M : List Str} {k l : List (Key × D)} (h1 : Tab L k) (h2 : Tab M l) : k.all (hitD l) = true ↔ ∀ x d, valD k x = some d → valD l x = some d := by
  rw [List.all_eq_true]
  constructor
  · intro h x d e
    have m := valD_mem e
    have z := h _ m
    cases e2 : valD l x with
    | none => rw [hit_none e2] at z; cases z
    | some d2 =>
      rw [hit_some e2] at z
      obtain ⟨_, _, _, v1, _⟩ := h1.ok _ m
      obtain ⟨_, _, _, v2, _⟩ := h2.ok _ (valD_mem e2)
      have zz : d = d2 := (eqF_iff v1 v2).mp z
      rw [zz]
  · rintro h ⟨x, d⟩ m
    have e := h x d (valD_of h1.nd m)
    obtain ⟨_, _, _, v1, _⟩ := h1.ok _ m
    rw [hit_some e]
    exact (eqF_iff v1 v1).mpr rfl
theorem sub_keys {L M : List Str} {k l : List (Key × D)} (h : ∀ x d, valD k x = some d → valD l x = some d) : ∀ x ∈ k.map (·.1), x ∈ l.map (·.1) := fun x hx => by
  obtain ⟨d, e⟩ := valD_some hx
  exact List.mem_map.mpr ⟨_, valD_mem (h x d e), rfl⟩
theorem eq_iff {L M : List Str} {k l : List (Key × D)} (h1 : Tab L k) (h2 : Tab M l) : eqDctD k l = true ↔ SameM k l := by
  unfold eqDctD
  rw [Bool.and_eq_true, sub_iff h1 h2, beq_iff_eq]
  constructor
  · rintro ⟨hl, h⟩ x
    cases e : valD k x with
    | some d => exact (h x d e).symm
    | none =>
      cases e2 : valD l x with
      | none => rfl
      | some d2 =>
        have nd : (x :: k.map (·.1)).Nodup := List.nodup_cons.mpr ⟨valD_none.mp e, h1.nd⟩
        have := nodup_len (m := l.map (·.1)) nd fun y hy => by
          rcases List.mem_cons.mp hy with z | z
          · subst z; exact List.mem_map.mpr ⟨_, valD_mem e2, rfl⟩
          · exact sub_keys (L := L) (M := M) h y z
        rw [List.length_cons, List.length_map, List.length_map] at this
        omega
  · intro h
    refine ⟨?_, fun x d e => (h x) ▸ e⟩
    have a := nodup_len (m := l.map (·.1)) h1.nd (sub_keys (L := L) (M := M) fun x d e => (h x) ▸ e)
    have b := nodup_len (m := k.map (·.1)) h2.nd (sub_keys (L := L) (M := M) fun x d e => (h x).symm ▸ e)
    rw [List.length_map, List.length_map] at a b
    omega
theorem eq_congr {L : List Str} {k l k' l' : List (Key × D)} (h1 : Tab L k) (h2 : Tab L l) (g1 : Tab L k') (g2 : Tab L l') (s1 : SameM k k') (s2 : SameM l l') : eqDctD k l = eqDctD k' l' := by
  rw [Bool.eq_iff_iff, eq_iff h1 h2, eq_iff g1 g2]
  exact ⟨fun h => s1.symm.trans (h.trans s2), fun h => s1.trans (h.trans s2.symm)⟩
theorem sub_congr {L : List Str} {k l k' l' : List (Key × D)} (h1 : Tab L k) (h2 : Tab L l) (g1 : Tab L k') (g2 : Tab L l') (s1 : SameM k k') (s2 : SameM l l') : k.all (hitD l) = k'.all (hitD l') := by
  rw [Bool.eq_iff_iff, sub_iff h1 h2, sub_iff g1 g2]
  constructor
  · intro h x d e; rw [← s2]; exact h x d (by rw [s1]; exact e)
  · intro h x d e; rw [s2]; exact h x d (by rw [← s1]; exact e)
def keyP (P : List Str) : Key → Bool
  | .inr s => decide (s ∈ P)
  | _ => false
theorem valD_filt (f : Key → Bool) : ∀ (ks : List (Key × D)) (k : Key), valD (ks.filter fun p => f p.1) k = if f k = true then valD ks k else none
  | [], k => by simp [valD_nil]
  | p :: ks, k => by
    have ih := valD_filt f ks k
    rw [List.filter_cons, valD_cons]
    by_cases hp : f p.1 = true
    · rw [if_pos hp, valD_cons, ih]
      by_cases e : p.1 = k
      · rw [if_pos e, if_pos e, if_pos (e ▸ hp)]
      · rw [if_neg e, if_neg e]
    · rw [if_neg hp, ih]
      by_cases e : p.1 = k
      · subst e; rw [if_neg hp, if_neg hp]
      · rw [if_neg e]
theorem filtN {P : List Str} {ks : List (Key × D)} (k : Key) : valD (ks.filter fun p => !inP P p) k = if keyP P k = true then none else valD ks k := by
  have e : (ks.filter fun p => !inP P p) = ks.filter fun p => (fun k => !keyP P k) p.1 := by
    apply List.filter_congr; intro p _; unfold inP keyP; rcases p with ⟨k | k, d⟩ <;> rfl
  rw [e, valD_filt (fun k => !keyP P k)]
  cases keyP P k <;> rfl
theorem filtY {P : List Str} {ks : List (Key × D)} (k : Key) : valD (ks.filter fun p => inP P p) k = if keyP P k = true then valD ks k else none := by
  have e : (ks.filter fun p => inP P p) = ks.filter fun p => (keyP P) p.1 := by
    apply List.filter_congr; intro p _; unfold inP keyP; rcases p with ⟨k | k, d⟩ <;> rfl
  rw [e, valD_filt]
theorem Tab.inl {L : List Str} {k : List (Key × D)} (h : Tab L k) (i : Int) : valD k (.inl i) = none := by
  rw [valD_none]
  intro m
  obtain ⟨p, hp, e⟩ := List.mem_map.mp m
  obtain ⟨s, _, es, _⟩ := h.ok p hp
  rw [es] at e; cases e
theorem listed_eq {L : List Str} {k3 kds : List (Key × D)} {ss ys : List Str} (t3 : Tab L k3) (a3 : Asc k3) (t : Tab L kds) (nd : ss.Nodup) (hk : ∀ z ∈ ss, ∃ d, valD kds (.inr z) = some d) (hp : ys.Perm ss) (hs : PyProof.Rows.sortedS ys = true)
    (h : ∀ z, valD k3 (.inr z) = if z ∈ ss then valD kds (.inr z) else none) : D.lst (k3.map fun p => .tup [kD p.1, p.2]) = .lst (pairsOf kds ys) := by
  have tf : Tab L (kds.filter fun p => keyP ss p.1) := tabFilter t _
  have kf : ∀ z, z ∈ keyStrs (kds.filter fun p => keyP ss p.1) ↔ z ∈ ss := fun z => by
    rw [tf.mem, valD_filt]
    show (if decide (z ∈ ss) = true then valD kds (.inr z) else none).isSome = true ↔ _
    by_cases m : z ∈ ss
    · obtain ⟨d, e⟩ := hk z m
      simp [m, e]
    · simp [m]
  have pf : ys.Perm (keyStrs (kds.filter fun p => keyP ss p.1)) := hp.trans (perm_of nd tf.snd fun z => (kf z).symm)
  obtain ⟨u1, u2, u3⟩ := tab_of tf pf
  have e : k3 = ys.map fun y => ((Sum.inr y : Key), (valD (kds.filter fun p => keyP ss p.1) (.inr y)).getD .non) := by
    refine asc_eq t3 u1 a3 (by unfold Asc; rw [u3]; exact hs) (SameM.trans (fun k => ?_) u2.symm)
    rw [valD_filt]
    cases k with
    | inl i => rw [t3.inl]; rfl
    | inr z =>
      rw [h z]
      show _ = (if decide (z ∈ ss) = true then _ else _)
      by_cases m : z ∈ ss <;> simp [m]
  rw [e, List.map_map]
  congr 1
  apply List.map_congr_left
  intro y hy
  have m : y ∈ ss := hp.subset hy
  show D.tup [.str y, (valD (kds.filter fun p => keyP ss p.1) (Sum.inr y)).getD .non] = _
  rw [valD_filt]
  show D.tup [.str y, (if decide (y ∈ ss) = true then valD kds (.inr y) else none).getD .non] = _
  simp [m]
theorem strs_ok {L : List Str} (h : ∀ z ∈ L, isIdB z = true) : plainB (.lst (L.map .str)) = true ∧ depD (.lst (L.map .str)) ≤ 64 := by
  refine ⟨?_, ?_⟩
  · rw [plainB]; exact strs_plain fun z hz => id_ok (h z hz)
  · rw [depD, strs_dep]; decide
theorem sub_s {a : Ad} {L P : List Str} {ka : List (Key × D)} {y : D} {Q : D → EV (nf a) → Prop} {env : EV (nf a)} (iA : IsB a L (envD a ka) ka) (hP : isP y P) (h : ∀ k, Tab L k → Asc k → SameM k (ka.filter fun p => !inP P p) → Q (envD a k) env) : OwnK false (fun x y => isO a.C_Env x ∧ isSq y) (S_Env_sub a) Q (envD a ka) y env :=
  ownF_s ⟨⟨_, rfl⟩, by rcases hP with rfl | rfl; exact ⟨_, .inl rfl⟩; exact ⟨_, .inr rfl⟩⟩ ⟨L, y, ka, P, rfl, iA, hP, h⟩
theorem or_s {a : Ad} {L : List Str} {ka kb : List (Key × D)} {y : D} {P : D → D → Prop} {Q : D → EV (nf a) → Prop} {env : EV (nf a)} (iA : IsB a L (envD a ka) ka) (iB : IsB a L y kb) (p : P (envD a ka) y) (h : ∀ k, Tab L k → Asc k → SameM k (mergeD ka kb) → Q (envD a k) env) : OwnK false P (S_Env_or a) Q (envD a ka) y env :=
  ownF_s p ⟨L, _, y, ka, kb, rfl, rfl, iA, iB, h⟩
theorem eqO_s {a : Ad} {L : List Str} {ka kb : List (Key × D)} {P : D → D → Prop} {Q : D → EV (nf a) → Prop} {env : EV (nf a)} (tA : Tab L ka) (tB : Tab L kb) (p : P (envD a ka) (envD a kb)) (h : Q (.bl (eqDctD ka kb)) env) : OwnK false P (S_Env_eq a) Q (envD a ka) (envD a kb) env :=
  ownF_s p ⟨L, ka, _, rfl, tA, .inl ⟨kb, rfl, tB, h⟩⟩
theorem eqDO_s {a : Ad} {L : List Str} {ka kb : List (Key × D)} {Q : D → EV (nf a) → Prop} {env : EV (nf a)} (tA : Tab L ka) (h : Q (.bl false) env) : OwnK false (eqP a.C_Env) (S_Env_eq a) Q (envD a ka) (.dct kb) env :=
  ownF_s ⟨⟨_, rfl⟩, .inr ⟨_, rfl⟩⟩ ⟨L, ka, _, rfl, tA, .inr ⟨kb, rfl, h⟩⟩
theorem if_share {nf : Addr → Nat} {c : Bool} {da db : DT nf} {env : EV nf} {Q : D → EV nf → Prop} (x1 x2 : D) (e1 : ∀ Q' : D → EV nf → Prop, Q' x1 env → da env Q') (e2 : ∀ Q' : D → EV nf → Prop, Q' x2 env → db env Q') (h : ∀ x, x = x1 ∨ x = x2 → Q x env) : if c = true then da env Q else db env Q := by
  split
  · exact e1 Q (h _ (.inl rfl))
  · exact e2 Q (h _ (.inr rfl))
theorem in_strs (z : Str) (P : List Str) : inD (.str z) (.lst (P.map .str)) = some (decide (z ∈ P)) := inD_P (.inl rfl) z
theorem d_law {K : PySem.W.Frag} {a : Ad} (iE : IsiC K a.C_Env) : ∀ as Qd, as.length = 1 → (S_law a) as Qd → td_law K a (fnEnds as Qd) (as ++ List.replicate (15 - 1) .un) := by
  rintro as Qd hl ⟨ns, rfl, hn, q⟩
  show td_law K a (fnEnds _ Qd) [.fz (.scr ns), .un, .un, .un, .un, .un, .un, .un, .un, .un, .un, .un, .un, .un, .un]
  unfold td_law
  walk_at "ds"
  refine ⟨ns, rfl, hn, fun v gr sd h0 h1 => ?_⟩
  have hs : St a v (.ow v (stA (nf a) gr 0 0 sd)) := ⟨gr, 0, 0, sd, rfl, h0, h1⟩
  walk_at "ds"
  refine ⟨v, _, 8, rfl, hs, by decide, by decide, fun s1 m hs1 hm0 hm1 => ?_⟩
  obtain ⟨gr1, x1, n1, sd1, rfl, _⟩ := id hs1
  walk_at "ds"
  refine ⟨v, _, m, rfl, hs1, hm0, by omega, fun s2 L hs2 hL nd l7 => ?_⟩
  obtain ⟨gr2, x2, n2, sd2, rfl, _⟩ := id hs2
  walk_at "ds"
  refine ⟨v, _, _, L, rfl, hs2, .inl rfl, l7, fun s3 o hs3 o1 o2 o3 => ?_⟩
  obtain ⟨gr3, x3, n3, sd3, rfl, _⟩ := id hs3
  have hN : Names (L ++ [o]) := ⟨by rw [List.length_append]; show L.length + 1 ≤ 8; omega, fun z hz => by
    rcases List.mem_append.mp hz with z1 | z1
    · exact hL.ok z z1
    · rw [List.mem_singleton.mp z1]; exact ⟨o1, o2⟩⟩
  walk_at "ds"
  intro p
  walk_at "ds"
  refine for_inv (fun ds env => ∃ (gr : List Int) (x n sd : Int) (kds : List (Key × D)) (pre post : List Str) (s5 : SD (nf a)), St a v (.ow v (stA (nf a) gr x n sd)) ∧ Tab (L ++ [o]) kds ∧ L = pre ++ post ∧ ds = post.map .str ∧ (∀ z, (valD kds (.inr z)).isSome = decide (z ∈ pre)) ∧
    env = [.fz (.scr ns), .ow v (stA (nf a) gr x n sd), .fz (.lst (L.map .str)), .fz (.str o), .ow (.ref p) (dctA K (nf a) kds), s5, .un, .un, .un, .un, .un, .un, .un, .un, .un]) ?_ ?_ _ _ ⟨gr3, x3, n3, sd3, [], [], L, .un, hs3, Tab.nil, rfl, rfl, (fun z => by simp [valD_nil]), rfl⟩
  · rintro y ys env R ⟨gr4, x4, n4, sd4, kds, pre, post, s5, hs4, hT, eL, ed, hk, rfl⟩ hR
    cases post with
    | nil => cases ed
    | cons z post =>
      rw [List.map_cons] at ed
      obtain ⟨rfl, rfl⟩ := List.cons.inj ed
      have lk := hT.len hN
      have hz : z ∈ L ++ [o] := List.mem_append_left _ (by rw [eL]; exact List.mem_append_right _ List.mem_cons_self)
      walk_at "ds"
      refine ⟨v, _, rfl, hs4, fun s6 d6 hs6 v6 z6 => ?_⟩
      obtain ⟨gr6, x6, n6, sd6, rfl, _⟩ := id hs6
      walk_at "ds"
      refine dPutK2_s rfl rfl (by omega) rfl ?_
      refine hR _ ⟨gr6, x6, n6, sd6, _, pre ++ [z], post, _, hs6, hT.put hz v6 (id_ok (hN.ok z hz).1) z6, by rw [eL]; simp, rfl, fun w => ?_, rfl⟩
      rw [valD_put]
      by_cases e : w = z
      · subst e; simp
      · have e' : ¬ (Sum.inr w : Key) = .inr z := fun h => e (Sum.inr.inj h)
        rw [if_neg e', hk w]
        simp [e]
  · rintro env ⟨gr4, x4, n4, sd4, kds, pre, post, s5, hs4, hT, eL, ed, hk, rfl⟩
    have : post = [] := by cases post with | nil => rfl | cons t post => cases ed
    subst this
    rw [List.append_nil] at eL
    subst eL
    clear ed
    have hkey : ∀ z ∈ L, ∃ d, valD kds (.inr z) = some d := fun z hz => by
      have := hk z
      cases e : valD kds (.inr z) with
      | none => rw [e] at this; simp [hz] at this
      | some d => exact ⟨d, rfl⟩
    have hout : ∀ z, z ∉ L → valD kds (.inr z) = none := fun z hz => by
      have := hk z
      cases e : valD kds (.inr z) with
      | none => rfl
      | some d => rw [e] at this; simp [hz] at this
    walk_at "ds"
    intro y1
    refine ⟨.ref y1, L ++ [o], _, kds, rfl, ⟨hN, hT, .inr rfl⟩, fun ka ta aa sa => ?_⟩
    have iA : IsB a (L ++ [o]) (envD a ka) ka := ⟨hN, ta, .inl ⟨rfl, aa⟩⟩
    walk_at "ds"
    refine ⟨v, _, 8, rfl, hs4, by decide, by decide, fun s6 m6 hs6 h06 h16 => ?_⟩
    obtain ⟨gr6, x6, n6, sd6, rfl, _⟩ := id hs6
    walk_at "ds"
    refine lc_inv (fun ds acc env => ∃ (gr : List Int) (x n sd : Int) (P : List Str), St a v (.ow v (stA (nf a) gr x n sd)) ∧ acc = P.map .str ∧ (∀ z ∈ P, z ∈ L ++ [o]) ∧ P.length + ds.length ≤ 7 ∧
      env = [.fz (.scr ns), .ow v (stA (nf a) gr x n sd), .fz (.lst (L.map .str)), .fz (.str o), .fz (.dct kds), s5, .fz (envD a ka), .un, .un, .un, .un, .un, .un, .un, .un]) ?_ ?_ _ _ _ ⟨gr6, x6, n6, sd6, [], hs6, rfl, (fun z h => by cases h), by simp [rangeD]; omega, rfl⟩
    · rintro y ys acc env R ⟨gr7, x7, n7, sd7, P, hs7, rfl, hP, hlen, rfl⟩ hR
      rw [List.length_cons] at hlen
      walk_at "ds"
      refine addL_s (by rw [List.length_map]; show L.length + 1 ≤ 1000000; omega) ?_
      walk_at "ds"
      refine ⟨v, _, _, rfl, hs7, by rw [List.length_map]; omega, by rw [List.length_map]; omega, fun s8 d8 hs8 h08 h18 => ?_⟩
      obtain ⟨gr8, x8, n8, sd8, rfl, _⟩ := id hs8
      walk_at "ds"
      obtain ⟨e8, he8, ew, _⟩ := atI_ex (xs := L.map D.str ++ [.str o]) (k := d8) h08 (by rw [List.length_append]; simpa using h18)
      obtain ⟨z, hz, rfl⟩ : ∃ z ∈ L ++ [o], e8 = .str z := by
        have : e8 ∈ (L ++ [o]).map D.str := by rw [List.map_append]; exact he8
        obtain ⟨z, hz, e⟩ := List.mem_map.mp this
        exact ⟨z, hz, e.symm⟩
      refine ixL_s ew ?_
      refine ⟨by rw [List.length_map]; omega, hR _ _ ⟨gr8, x8, n8, sd8, P ++ [z], hs8, by rw [List.map_append]; rfl, fun w hw => ?_, by rw [List.length_append]; show P.length + 1 + ys.length ≤ 7; omega, rfl⟩⟩
      rcases List.mem_append.mp hw with m | m
      · exact hP w m
      · rw [List.mem_singleton.mp m]; exact hz
    · rintro acc env ⟨gr7, x7, n7, sd7, P, hs7, rfl, hP, hlen, rfl⟩
      have hPl : P.length ≤ 7 := by simpa using hlen
      walk_at "ds"
      refine ⟨v, _, 2, rfl, hs7, by decide, by decide, fun s8 d8 hs8 h08 h18 => ?_⟩
      obtain ⟨gr8, x8, n8, sd8, rfl, _⟩ := id hs8
      walk_at "ds"
      refine if_share (.tup (P.map .str)) (.lst (P.map .str)) (fun Q' q' => ?_) (fun Q' q' => ?_) (fun hd hhd => ?_)
      · walk_at "ds"
        exact q'
      · walk_at "ds"
        exact q'
      have hPd : isP hd P := hhd.symm
      walk_at "ds"
      refine lc_pure (frS fun z => !decide (z ∈ P)) id rfl (fun x hx R r => ?_) (fun x hx _ R r => ?_) (by rw [List.length_map]; show 0 + L.length ≤ 1000000; omega) ?_
      · obtain ⟨z, hz, rfl⟩ := List.mem_map.mp hx
        have r' : R (!decide (z ∈ P)) [.fz (.scr ns), .ow v (stA (nf a) gr8 x8 n8 sd8), .fz (.lst (L.map .str)), .fz (.str o), .fz (.dct kds), .fz (.str z), .fz (envD a ka), .fz (.lst (P.map .str)), .un, .fz hd, .un, .un, .un, .un, .un] := r
        show dBv _ [.fz (.scr ns), .ow v (stA (nf a) gr8 x8 n8 sd8), .fz (.lst (L.map .str)), .fz (.str o), .fz (.dct kds), .fz (.str z), .fz (envD a ka), .fz (.lst (P.map .str)), .un, .fz hd, .un, .un, .un, .un, .un] R
        walk_at "ds"
        refine ninL_s (in_strs z P) ?_
        walk_at "ds"
        exact r'
      · obtain ⟨z, hz, rfl⟩ := List.mem_map.mp hx
        walk_at "ds"
        exact r
      rw [List.nil_append, filt_map]
      walk_at "ds"
      refine lc_pure (frS fun z => decide (z ∈ P)) id rfl (fun x hx R r => ?_) (fun x hx _ R r => ?_) (by rw [List.length_map]; show 0 + L.length ≤ 1000000; omega) ?_
      · obtain ⟨z, hz, rfl⟩ := List.mem_map.mp hx
        have r' : R (decide (z ∈ P)) [.fz (.scr ns), .ow v (stA (nf a) gr8 x8 n8 sd8), .fz (.lst (L.map .str)), .fz (.str o), .fz (.dct kds), .fz (.str z), .fz (envD a ka), .fz (.lst (P.map .str)), .un, .fz hd, .fz (.lst ((L.filter fun z => !decide (z ∈ P)).map .str)), .un, .un, .un, .un] := r
        show dBv _ [.fz (.scr ns), .ow v (stA (nf a) gr8 x8 n8 sd8), .fz (.lst (L.map .str)), .fz (.str o), .fz (.dct kds), .fz (.str z), .fz (envD a ka), .fz (.lst (P.map .str)), .un, .fz hd, .fz (.lst ((L.filter fun z => !decide (z ∈ P)).map .str)), .un, .un, .un, .un] R
        walk_at "ds"
        refine in_s (in_strs z P) ?_
        walk_at "ds"
        exact r'
      · obtain ⟨z, hz, rfl⟩ := List.mem_map.mp hx
        walk_at "ds"
        exact r
      rw [List.nil_append, filt_map]
      have hrest : ∀ z ∈ L.filter (fun z => !decide (z ∈ P)), ∃ d, valD kds (.inr z) = some d := fun z hz => hkey z (List.mem_filter.mp hz).1
      have hsome : ∀ z ∈ L.filter (fun z => decide (z ∈ P)), ∃ d, valD kds (.inr z) = some d := fun z hz => hkey z (List.mem_filter.mp hz).1
      have lrest := List.length_filter_le (fun z => !decide (z ∈ P)) L
      have lsome := List.length_filter_le (fun z => decide (z ∈ P)) L
      walk_at "ds"
      refine sub_s iA hPd (fun k3 t3 a3 s3 => ?_)
      walk_at "ds"
      refine ⟨k3, rfl, ?_⟩
      walk_at "ds"
      refine ⟨kds, _, rfl, by omega, hrest, fun ys hp hs' => ?_⟩
      walk_at "ds"
      have pl3 := tab_plain t3
      refine neRefl_s (listed_eq t3 a3 hT (nd.sublist List.filter_sublist) hrest hp hs' fun z => ?_) pl3.1 pl3.2 ?_
      · rw [s3, filtN, sa]
        show (if decide (z ∈ P) = true then none else valD kds (.inr z)) = _
        by_cases m1 : z ∈ L
        · by_cases m2 : z ∈ P <;> simp [m1, m2]
        · simp [m1, hout z m1]
      walk_at "ds"
      refine ⟨L ++ [o], hd, ka, P, rfl, iA, hPd, fun k4 t4 a4 s4 => ?_⟩
      walk_at "ds"
      refine ⟨k4, rfl, ?_⟩
      walk_at "ds"
      refine ⟨kds, _, rfl, by omega, hsome, fun ys2 hp2 hs2' => ?_⟩
      walk_at "ds"
      have pl4 := tab_plain t4
      refine neRefl_s (listed_eq t4 a4 hT (nd.sublist List.filter_sublist) hsome hp2 hs2' fun z => ?_) pl4.1 pl4.2 ?_
      · rw [s4, filtY, sa]
        show (if decide (z ∈ P) = true then valD kds (.inr z) else none) = _
        by_cases m1 : z ∈ L
        · by_cases m2 : z ∈ P <;> simp [m1, m2]
        · simp [m1, hout z m1]
      walk_at "ds"
      -- list(handed) != picked
      have plP := strs_ok (L := P) fun z hz => (hN.ok z (hP z hz)).1
      have lst_of : ∀ (Q' : D → EV (nf a) → Prop) (e : EV (nf a)), Q' (.lst (P.map .str)) e → CbK fList Q' [hd] e := fun Q' e h => by
        rcases hPd with rfl | rfl
        · exact cbList_s h
        · exact cbListT_s h
      refine lst_of _ _ ?_
      walk_at "ds"
      refine neRefl_s rfl plP.1 plP.2 ?_
      walk_at "ds"
      refine sub_s iA hPd (fun k3' t3' a3' s3' => ?_)
      walk_at "ds"
      refine isiOwn_s iE ?_
      walk_at "ds"
      refine ⟨L ++ [o], hd, ka, P, rfl, iA, hPd, fun k4' t4' a4' s4' => ?_⟩
      walk_at "ds"
      refine isiOwn_s iE ?_
      walk_at "ds"
      refine ⟨v, _, L, o, kds, rfl, hs8, hN, hT, hkey, fun s9 kt hs9 tt => ?_⟩
      obtain ⟨gr9, x9, n9, sd9, rfl, _⟩ := id hs9
      walk_at "ds"
      intro y2
      refine ⟨.ref y2, L ++ [o], _, kt, rfl, ⟨hN, tt, .inr rfl⟩, fun kb tb ab sb => ?_⟩
      walk_at "ds"
      refine eqDG_s hT.flat tt.flat ?_
      have eqe : eqDctD ka kb = eqDctD kds kt := eq_congr ta tb hT tt sa sb
      walk_at "ds"
      refine eqO_s ta tb ⟨⟨_, rfl⟩, .inl ⟨_, rfl⟩⟩ ?_
      rw [eqe]
      walk_at "ds"
      refine iteF_s (by simp) ?_
      walk_at "ds"
      refine eqO_s ta tb ⟨⟨_, rfl⟩, ⟨_, rfl⟩⟩ ?_
      rw [eqe]
      walk_at "ds"
      refine iteF_s (by cases eqDctD kds kt <;> rfl) ?_
      walk_at "ds"
      refine eqDO_s ta ?_
      walk_at "ds"
      -- within
      refine ⟨L ++ [o], ka, kb, rfl, hN, ta, tb, ?_⟩
      walk_at "ds"
      refine ⟨L ++ [o], kds, kt, rfl, hN, hT, tt, ?_⟩
      rw [sub_congr ta tb hT tt sa sb]
      walk_at "ds"
      refine iteF_s (by simp) ?_
      walk_at "ds"
      refine ⟨L ++ [o], kb, ka, rfl, hN, tb, ta, ?_⟩
      walk_at "ds"
      refine ⟨L ++ [o], kt, kds, rfl, hN, tt, hT, ?_⟩
      rw [sub_congr tb ta tt hT sb sa]
      walk_at "ds"
      refine iteF_s (by simp) ?_
      walk_at "ds"
      -- (env - handed).within(env) is not True
      refine sub_s iA hPd (fun k5 t5 a5 s5' => ?_)
      walk_at "ds"
      refine ⟨L ++ [o], k5, ka, rfl, hN, t5, ta, ?_⟩
      rw [(sub_iff t5 ta).mpr fun x d e => by
        rw [s5', filtN] at e
        split at e
        · cases e
        · exact e]
      walk_at "ds"
      -- env - handed | env.only(handed) != env
      refine sub_s iA hPd (fun k6 t6 a6 s6' => ?_)
      walk_at "ds"
      refine ⟨L ++ [o], hd, ka, P, rfl, iA, hPd, fun k7 t7 a7 s7' => ?_⟩
      walk_at "ds"
      refine or_s ⟨hN, t6, .inl ⟨rfl, a6⟩⟩ ⟨hN, t7, .inl ⟨rfl, a7⟩⟩ ⟨⟨_, rfl⟩, ⟨_, rfl⟩⟩ (fun k8 t8 a8 s8' => ?_)
      walk_at "ds"
      refine eqO_s t8 ta ⟨⟨_, rfl⟩, ⟨_, rfl⟩⟩ ?_
      rw [(eq_iff t8 ta).mpr fun x => by
        rw [s8', valD_merge x t7.nd, s6', s7', filtN, filtY]
        cases keyP P x <;> simp]
      walk_at "ds"
      refine ⟨ka, rfl, ?_⟩
      walk_at "ds"
      refine ⟨kds, L, rfl, by omega, hkey, fun ys3 hp3 hs3' => ?_⟩
      walk_at "ds"
      have plA := tab_plain ta
      refine eqRefl_s (listed_eq ta aa hT nd hkey hp3 hs3' fun z => ?_) plA.1 plA.2 ?_
      · rw [sa]
        by_cases m1 : z ∈ L
        · simp [m1]
        · simp [m1, hout z m1]
      walk_at "ds"
      refine ⟨kb, rfl, ?_⟩
      walk_at "ds"
      rw [tt.keys]
      have lt := tt.len hN
      have hkt : ∀ z ∈ keyStrs kt, ∃ d, valD kt (.inr z) = some d := fun z hz => Option.isSome_iff_exists.mp (tt.mem.mp hz)
      refine ⟨kt, keyStrs kt, rfl, by rw [tt.klen]; omega, hkt, fun ys4 hp4 hs4' => ?_⟩
      walk_at "ds"
      have plB := tab_plain tb
      refine eqRefl_s (listed_eq tb ab tt tt.snd hkt hp4 hs4' fun z => ?_) plB.1 plB.2 ?_
      · rw [sb]
        by_cases m1 : z ∈ keyStrs kt
        · simp [m1]
        · rw [if_neg m1]
          cases e : valD kt (.inr z) with
          | none => rfl
          | some d => exact absurd (tt.mem.mpr (by rw [e]; rfl)) m1
      walk_at "ds"
      exact q
end K30

namespace K30
open PySem L2 DL
structure Txt (K : PySem.W.Frag) (mg : Str → Option Value) (a : Ad) : Prop where
  F_is_word : Fun K "is_word" "is_word" s_is_word a.f_is_word a.d_is_word
  b_is_word : Binds K a.d_is_word ["value"] []
  g_is_word : mg "is_word" = some (.ref a.f_is_word)
  k_is_word : PySem.W.keepIn K (.ref a.f_is_word) = true
  F_is_identifier : Fun K "is_identifier" "is_identifier" s_is_identifier a.f_is_identifier a.d_is_identifier
  b_is_identifier : Binds K a.d_is_identifier ["value"] []
  g_is_identifier : mg "is_identifier" = some (.ref a.f_is_identifier)
  k_is_identifier : PySem.W.keepIn K (.ref a.f_is_identifier) = true
  F_is_value : Fun K "is_value" "is_value" s_is_value a.f_is_value a.d_is_value
  b_is_value : Binds K a.d_is_value ["value"] []
  g_is_value : mg "is_value" = some (.ref a.f_is_value)
  k_is_value : PySem.W.keepIn K (.ref a.f_is_value) = true
  F_check_pair : Fun K "check_pair" "check_pair" s_check_pair a.f_check_pair a.d_check_pair
  b_check_pair : Binds K a.d_check_pair ["name", "value"] []
  g_check_pair : mg "check_pair" = some (.ref a.f_check_pair)
  k_check_pair : PySem.W.keepIn K (.ref a.f_check_pair) = true
  F_ascending : Fun K "ascending" "ascending" s_ascending a.f_ascending a.d_ascending
  b_ascending : Binds K a.d_ascending ["table"] []
  g_ascending : mg "ascending" = some (.ref a.f_ascending)
  k_ascending : PySem.W.keepIn K (.ref a.f_ascending) = true
  F_bindings_of : Fun K "bindings_of" "bindings_of" s_bindings_of a.f_bindings_of a.d_bindings_of
  b_bindings_of : Binds K a.d_bindings_of ["given"] []
  g_bindings_of : mg "bindings_of" = some (.ref a.f_bindings_of)
  k_bindings_of : PySem.W.keepIn K (.ref a.f_bindings_of) = true
  F_Env_init : FunD K "__init__" "Env.__init__" (defArgs s_Env_init) (defBody s_Env_init) (defScope s_Env_init) [.non] [] a.f_Env_init a.d_Env_init
  b_Env_init : Binds K a.d_Env_init ["self", "bindings"] []
  mk_Env : Mk K a.C_Env a.f_Env_init
  F_Env_eq : Fun K "__eq__" "Env.__eq__" s_Env_eq a.f_Env_eq a.d_Env_eq
  b_Env_eq : Binds K a.d_Env_eq ["self", "other"] []
  m_Env_eq : Meth K a.C_Env "__eq__" a.f_Env_eq
  F_Env_or : Fun K "__or__" "Env.__or__" s_Env_or a.f_Env_or a.d_Env_or
  b_Env_or : Binds K a.d_Env_or ["self", "other"] []
  m_Env_or : Meth K a.C_Env "__or__" a.f_Env_or
  F_Env_sub : Fun K "__sub__" "Env.__sub__" s_Env_sub a.f_Env_sub a.d_Env_sub
  b_Env_sub : Binds K a.d_Env_sub ["self", "names"] []
  m_Env_sub : Meth K a.C_Env "__sub__" a.f_Env_sub
  F_Env_listed : Fun K "listed" "Env.listed" s_Env_listed a.f_Env_listed a.d_Env_listed
  b_Env_listed : Binds K a.d_Env_listed ["self"] []
  m_Env_listed : Meth K a.C_Env "listed" a.f_Env_listed
  F_Env_only : Fun K "only" "Env.only" s_Env_only a.f_Env_only a.d_Env_only
  b_Env_only : Binds K a.d_Env_only ["self", "names"] []
  m_Env_only : Meth K a.C_Env "only" a.f_Env_only
  F_Env_within : Fun K "within" "Env.within" s_Env_within a.f_Env_within a.d_Env_within
  b_Env_within : Binds K a.d_Env_within ["self", "other"] []
  m_Env_within : Meth K a.C_Env "within" a.f_Env_within
  F_law_state : Fun K "_law_state" "_law_state" s_law_state a.f_law_state a.d_law_state
  b_law_state : Binds K a.d_law_state ["_law_script"] []
  g_law_state : mg "_law_state" = some (.ref a.f_law_state)
  k_law_state : PySem.W.keepIn K (.ref a.f_law_state) = true
  F_law_draw : Fun K "_law_draw" "_law_draw" s_law_draw a.f_law_draw a.d_law_draw
  b_law_draw : Binds K a.d_law_draw ["_law_state_here", "_law_many"] []
  g_law_draw : mg "_law_draw" = some (.ref a.f_law_draw)
  k_law_draw : PySem.W.keepIn K (.ref a.f_law_draw) = true
  F_law_kept_words : Fun K "_law_kept_words" "_law_kept_words" s_law_kept_words a.f_law_kept_words a.d_law_kept_words
  b_law_kept_words : Binds K a.d_law_kept_words [] []
  g_law_kept_words : mg "_law_kept_words" = some (.ref a.f_law_kept_words)
  k_law_kept_words : PySem.W.keepIn K (.ref a.f_law_kept_words) = true
  F_law_name : Fun K "_law_name" "_law_name" s_law_name a.f_law_name a.d_law_name
  b_law_name : Binds K a.d_law_name ["_law_state_here", "_law_names_here"] []
  g_law_name : mg "_law_name" = some (.ref a.f_law_name)
  k_law_name : PySem.W.keepIn K (.ref a.f_law_name) = true
  F_law_names : Fun K "_law_names" "_law_names" s_law_names a.f_law_names a.d_law_names
  b_law_names : Binds K a.d_law_names ["_law_state_here", "_law_many"] []
  g_law_names : mg "_law_names" = some (.ref a.f_law_names)
  k_law_names : PySem.W.keepIn K (.ref a.f_law_names) = true
  F_law_value : Fun K "_law_value" "_law_value" s_law_value a.f_law_value a.d_law_value
  b_law_value : Binds K a.d_law_value ["_law_state_here"] []
  g_law_value : mg "_law_value" = some (.ref a.f_law_value)
  k_law_value : PySem.W.keepIn K (.ref a.f_law_value) = true
  F_law_changed : Fun K "_law_changed" "_law_changed" s_law_changed a.f_law_changed a.d_law_changed
  b_law_changed : Binds K a.d_law_changed ["_law_state_here", "_law_table", "_law_names_here", "_law_other"] []
  g_law_changed : mg "_law_changed" = some (.ref a.f_law_changed)
  k_law_changed : PySem.W.keepIn K (.ref a.f_law_changed) = true
  F_law_within : Fun K "_law_within" "_law_within" s_law_within a.f_law_within a.d_law_within
  b_law_within : Binds K a.d_law_within ["_law_small", "_law_large"] []
  g_law_within : mg "_law_within" = some (.ref a.f_law_within)
  k_law_within : PySem.W.keepIn K (.ref a.f_law_within) = true
  F_law_pairs : Fun K "_law_pairs" "_law_pairs" s_law_pairs a.f_law_pairs a.d_law_pairs
  b_law_pairs : Binds K a.d_law_pairs ["_law_table", "_law_names_here"] []
  g_law_pairs : mg "_law_pairs" = some (.ref a.f_law_pairs)
  k_law_pairs : PySem.W.keepIn K (.ref a.f_law_pairs) = true
  F_law : Fun K "law" "law" s_law a.f_law a.d_law
  b_law : Binds K a.d_law ["_law_script"] []
  g_law : mg "law" = some (.ref a.f_law)
  k_law : PySem.W.keepIn K (.ref a.f_law) = true
  c_Env : Cls K a.C_Env
  i_Env : IsiC K a.C_Env
  g_Env : mg "Env" = some (.ref a.C_Env)
  n_Env_table : NoAttr K a.C_Env "table"
  op_Env : OpC K a.C_Env "or" a.f_Env_or
  opS_Env : OpC K a.C_Env "sub" a.f_Env_sub
  opL_Env : OpT K a.C_Env "sub" "list" none a.fl_Env a.rl_Env
  opP_Env : OpT K a.C_Env "sub" "tuple" none a.fp_Env a.rp_Env
  eq_Env : EqC K a.C_Env a.f_Env_eq
  kit_dE : PySem.W.kitOne K (.type "dict") (.ref a.C_Env) = some false
  z_len : mg "len" = none
  z_int : mg "int" = none
  z_abs : mg "abs" = none
  z_str : mg "str" = none
  z_all : mg "all" = none
  z_tuple : mg "tuple" = none
  z_dict : mg "dict" = none
  z_list : mg "list" = none
  z_sorted : mg "sorted" = none
  z_isinstance : mg "isinstance" = none
  z_range : mg "range" = none
  z_bool : mg "bool" = none
  g_BEYOND : mg "BEYOND" = some (.int (10 ^ 1000) a.t_BEYOND)
  g_LETTERS : mg "LETTERS" = some (.str "abcdefghijklmnopqrstuvwxyz" a.t_LETTERS)
  g_DIGITS : mg "DIGITS" = some (.str "0123456789" a.t_DIGITS)
  g_LONGEST : mg "LONGEST" = some (.int 12 a.t_LONGEST)
  g_KEPT : mg "KEPT" = some (.ref a.p_KEPT)
  r_KEPT : ∀ nf H, Rel K nf H (.ref a.p_KEPT) kept
section
variable {P : Program} {w : World} {K : PySem.W.Frag} {mg : Str → Option Value} {base : Heap} {a : Ad}
theorem ok_is_word (T : Txt K mg a) : FnOk P w K mg base CX0 1 a.f_is_word a.d_is_word ["value"] (toSp K (nf a) 1 (S_is_word a)) := by
  refine T.F_is_word.ok sc_is_word (fun vs H Q E h => h.1) (fun cdv A outer s H vs Q E hr h => ?_)
  have hN := sc_is_word.nd
  have hu := hu_of hr
  have hu6 := hr.units
  refine body_ok (td := td_is_word K a) ?_ (by decide) (d_is_word) h
  exact (ds_cons (ds_if (DW.dc (dw_or (dc_not (dc_val (de_cb call_isi cd_isi rfl T.z_isinstance (by decide +kernel) (da_cons (dv 0) (da_cons (de_bty rfl T.z_str (by decide +kernel)) da_nil))))) (dw_or1 (dc_not (dc_chain op_le op_le de_int (de_cb call_lenG cd_lenG rfl T.z_len boot_len (da_cons (dv 0) da_nil)) (de_gint rfl T.g_LONGEST)))))) (ds_one (ds_ret de_bl)) ds_nil)
      (ds_one (ds_ret (de_cb (cr_all rfl) cd_all rfl T.z_all (by decide +kernel) (da_cons (de_lc rfl hN (di_str (dv 0)) (own := [("sign", 1)]) (show BlkOk ["value", "sign"] (defScope s_is_word) _ _ from ⟨rfl, by decide +kernel, by decide +kernel, by decide +kernel, by decide +kernel⟩) (fun s H C cl fp => (dg_name (i := 1) hN rfl (by first | exact Or.inl rfl | exact Or.inr rfl))) (fun s H C cl fp => dts_nil) (fun s H C cl fp => (de_or (de_inG hu (dv 1) (de_gstr rfl T.g_LETTERS)) (de_one (de_inG hu (dv 1) (de_gstr rfl T.g_DIGITS)))))) da_nil)))))
theorem ok_is_identifier (T : Txt K mg a) : FnOk P w K mg base CX0 2 a.f_is_identifier a.d_is_identifier ["value"] (toSp K (nf a) 1 (S_is_identifier a)) := by
  have G_is_word : FnOk P w K mg base CX0 1 a.f_is_word a.d_is_word ["value"] (toSp K (nf a) 1 (S_is_word a)) := ok_is_word T
  have b_is_word := T.b_is_word
  refine T.F_is_identifier.ok sc_is_identifier (fun vs H Q E h => h.1) (fun cdv A outer s H vs Q E hr h => ?_)
  have hN := sc_is_identifier.nd
  have hu := hu_of hr
  have hu6 := hr.units
  refine body_ok (td := td_is_identifier K a) ?_ (by decide) (d_is_identifier) h
  exact (ds_one (ds_ret (de_and (de_call G_is_word (hr.mono (by decide)) rfl T.g_is_word T.k_is_word b_is_word .nil (fun _ => .nil) pass0 (dm_val (dv 0) dm_nil)) (de_and (de_inG hu (de_ixG hu (dv 0) de_int) (de_gstr rfl T.g_LETTERS)) (de_one (de_ninG hu (dv 0) (de_gany rfl T.g_KEPT (T.r_KEPT _))))))))
theorem ok_is_value (T : Txt K mg a) : FnOk P w K mg base CX0 1 a.f_is_value a.d_is_value ["value"] (toSp K (nf a) 1 (S_is_value a)) := by
  refine T.F_is_value.ok sc_is_value (fun vs H Q E h => h.1) (fun cdv A outer s H vs Q E hr h => ?_)
  have hN := sc_is_value.nd
  have hu := hu_of hr
  have hu6 := hr.units
  refine body_ok (td := td_is_value K a) ?_ (by decide) (d_is_value) h
  exact (ds_cons (ds_if (dc_val (de_cb call_isi cd_isi rfl T.z_isinstance (by decide +kernel) (da_cons (dv 0) (da_cons (de_bty rfl T.z_bool (by decide +kernel)) da_nil)))) (ds_one (ds_ret de_bl)) ds_nil)
      (ds_cons (ds_if (dc_val (de_cb call_isi cd_isi rfl T.z_isinstance (by decide +kernel) (da_cons (dv 0) (da_cons (de_bty rfl T.z_int (by decide +kernel)) da_nil)))) (ds_one (ds_ret (de_lt (de_cb call_abs cd_abs rfl T.z_abs (by decide +kernel) (da_cons (dv 0) da_nil)) (de_gint rfl T.g_BEYOND)))) ds_nil)
      (ds_one (ds_ret (de_cb call_isi cd_isi rfl T.z_isinstance (by decide +kernel) (da_cons (dv 0) (da_cons (de_bty rfl T.z_str (by decide +kernel)) da_nil)))))))
theorem ok_check_pair (T : Txt K mg a) : FnOk P w K mg base CX0 3 a.f_check_pair a.d_check_pair ["name", "value"] (toSp K (nf a) 2 (S_check_pair a)) := by
  have G_is_identifier : FnOk P w K mg base CX0 2 a.f_is_identifier a.d_is_identifier ["value"] (toSp K (nf a) 1 (S_is_identifier a)) := ok_is_identifier T
  have b_is_identifier := T.b_is_identifier
  have G_is_value : FnOk P w K mg base CX0 1 a.f_is_value a.d_is_value ["value"] (toSp K (nf a) 1 (S_is_value a)) := ok_is_value T
  have b_is_value := T.b_is_value
  refine T.F_check_pair.ok sc_check_pair (fun vs H Q E h => h.1) (fun cdv A outer s H vs Q E hr h => ?_)
  have hN := sc_check_pair.nd
  have hu := hu_of hr
  have hu6 := hr.units
  refine body_ok (td := td_check_pair K a) ?_ (by decide) (d_check_pair) h
  exact (ds_cons (ds_if (dc_not (dc_val (de_call G_is_identifier (hr.mono (by decide)) rfl T.g_is_identifier T.k_is_identifier b_is_identifier .nil (fun _ => .nil) pass0 (dm_val (dv 0) dm_nil)))) (ds_one ds_never) ds_nil)
      (ds_one (ds_if (dc_not (dc_val (de_call G_is_value (hr.mono (by decide)) rfl T.g_is_value T.k_is_value b_is_value .nil (fun _ => .nil) pass0 (dm_val (dv 1) dm_nil)))) (ds_one ds_never) ds_nil)))
theorem ok_ascending (T : Txt K mg a) : FnOk P w K mg base CX0 1 a.f_ascending a.d_ascending ["table"] (toSp K (nf a) 1 (S_ascending a)) := by
  refine T.F_ascending.ok sc_ascending (fun vs H Q E h => h.1) (fun cdv A outer s H vs Q E hr h => ?_)
  have hN := sc_ascending.nd
  have hu := hu_of hr
  have hu6 := hr.units
  refine body_ok (td := td_ascending K a) ?_ (by decide) (d_ascending) h
  exact (ds_one (ds_ret (de_dc rfl hN (di_list (de_sortS rfl T.z_sorted (da_cons (de_ctF (call_listD rfl) cd_listD rfl T.z_list (by decide +kernel) (da_cons (dv 0) da_nil)) da_nil))) (own := [("name", 1)]) (show BlkOk ["table", "name"] (defScope s_ascending) _ _ from ⟨rfl, by decide +kernel, by decide +kernel, by decide +kernel, by decide +kernel⟩) (fun s H C cl fp => (dg_name (i := 1) hN rfl (by first | exact Or.inl rfl | exact Or.inr rfl))) (fun s H C cl fp => dts_nil) (fun s H C cl fp => (dv 1)) (fun s H C cl fp => (de_ixG hu (dv 0) (dv 1))))))
theorem ok_bindings_of (T : Txt K mg a) : FnOk P w K mg base CX0 4 a.f_bindings_of a.d_bindings_of ["given"] (toSp K (nf a) 1 (S_bindings_of a)) := by
  have G_ascending : FnOk P w K mg base CX0 1 a.f_ascending a.d_ascending ["table"] (toSp K (nf a) 1 (S_ascending a)) := ok_ascending T
  have b_ascending := T.b_ascending
  have G_check_pair : FnOk P w K mg base CX0 3 a.f_check_pair a.d_check_pair ["name", "value"] (toSp K (nf a) 2 (S_check_pair a)) := ok_check_pair T
  have b_check_pair := T.b_check_pair
  refine T.F_bindings_of.ok sc_bindings_of (fun vs H Q E h => h.1) (fun cdv A outer s H vs Q E hr h => ?_)
  have hN := sc_bindings_of.nd
  have hu := hu_of hr
  have hu6 := hr.units
  refine body_ok (td := td_bindings_of K a) ?_ (by decide) (d_bindings_of T.i_Env T.kit_dE) h
  exact (ds_cons (ds_if (dc_val (de_cb call_isi cd_isi rfl T.z_isinstance (by decide +kernel) (da_cons (dv 0) (da_cons (de_gref rfl T.g_Env) da_nil)))) (ds_one (ds_ret (de_ctF call_dictD cd_dict rfl T.z_dict (by decide +kernel) (da_cons (de_fld (dv 0) T.c_Env T.n_Env_table) da_nil)))) ds_nil)
      (ds_cons (ds_if (dc_not (dc_val (de_cb call_isi cd_isi rfl T.z_isinstance (by decide +kernel) (da_cons (dv 0) (da_cons (de_bty rfl T.z_dict (by decide +kernel)) da_nil))))) (ds_one ds_never) ds_nil)
      (ds_cons (ds_for PassesOwn.never rfl (di_items (dv 0) (fun h => pi_items h)) (dg_tup rfl (dgs_cons (dg_name (i := 1) hN rfl (by first | exact Or.inl rfl | exact Or.inr rfl)) (dgs_cons (dg_name (i := 2) hN rfl (by first | exact Or.inl rfl | exact Or.inr rfl)) dgs_nil))) (ds_one (ds_expr (de_call G_check_pair (hr.mono (by decide)) rfl T.g_check_pair T.k_check_pair b_check_pair .nil (fun _ => .nil) pass0 (dm_val (dv 1) (dm_val (dv 2) dm_nil))))))
      (ds_one (ds_ret (de_call G_ascending (hr.mono (by decide)) rfl T.g_ascending T.k_ascending b_ascending .nil (fun _ => .nil) pass0 (dm_val (dv 0) dm_nil)))))))
theorem ok_Env_init (T : Txt K mg a) : FnOk P w K mg base CX0 5 a.f_Env_init a.d_Env_init ["self", "bindings"] (toSp K (nf a) 2 (S_Env_init K a)) := by
  have G_bindings_of : FnOk P w K mg base CX0 4 a.f_bindings_of a.d_bindings_of ["given"] (toSp K (nf a) 1 (S_bindings_of a)) := ok_bindings_of T
  have b_bindings_of := T.b_bindings_of
  refine T.F_Env_init.ok sc_Env_init (fun vs H Q E h => h.1) (fun cdv A outer s H vs Q E hr h => ?_)
  have hN := sc_Env_init.nd
  have hu := hu_of hr
  have hu6 := hr.units
  refine body_ok (td := td_Env_init K a) ?_ (by decide) (d_Env_init) h
  exact (ds_one (ds_fldS (pv 0) (de_if (dc_isN (dv 1)) de_d0 (de_call G_bindings_of (hr.mono (by decide)) rfl T.g_bindings_of T.k_bindings_of b_bindings_of .nil (fun _ => .nil) pass0 (dm_val (dv 1) dm_nil))) T.c_Env T.n_Env_table))
theorem ok_Env_eq (T : Txt K mg a) : FnOk P w K mg base CX0 1 a.f_Env_eq a.d_Env_eq ["self", "other"] (toSp K (nf a) 2 (S_Env_eq a)) := by
  refine T.F_Env_eq.ok sc_Env_eq (fun vs H Q E h => h.1) (fun cdv A outer s H vs Q E hr h => ?_)
  have hN := sc_Env_eq.nd
  have hu := hu_of hr
  have hu6 := hr.units
  refine body_ok (td := td_Env_eq K a) ?_ (by decide) (d_Env_eq T.i_Env T.kit_dE) h
  exact (ds_one (ds_ret (de_and (de_cb call_isi cd_isi rfl T.z_isinstance (by decide +kernel) (da_cons (dv 1) (da_cons (de_gref rfl T.g_Env) da_nil))) (de_one (de_eqDG hu6 (de_fld (dv 0) T.c_Env T.n_Env_table) (de_fld (dv 1) T.c_Env T.n_Env_table))))))
theorem ok_Env_or (T : Txt K mg a) : FnOk P w K mg base CX0 7 a.f_Env_or a.d_Env_or ["self", "other"] (toSp K (nf a) 2 (S_Env_or a)) := by
  have G_Env_init : FnOk P w K mg base CX0 5 a.f_Env_init a.d_Env_init ["self", "bindings"] (toSp K (nf a) 2 (S_Env_init K a)) := ok_Env_init T
  have b_Env_init := T.b_Env_init
  have G_bindings_of : FnOk P w K mg base CX0 4 a.f_bindings_of a.d_bindings_of ["given"] (toSp K (nf a) 1 (S_bindings_of a)) := ok_bindings_of T
  have b_bindings_of := T.b_bindings_of
  refine T.F_Env_or.ok sc_Env_or (fun vs H Q E h => h.1) (fun cdv A outer s H vs Q E hr h => ?_)
  have hN := sc_Env_or.nd
  have hu := hu_of hr
  have hu6 := hr.units
  refine body_ok (td := td_Env_or K a) ?_ (by decide) (d_Env_or) h
  exact (ds_one (ds_ret (de_make T.mk_Env G_Env_init (hr.mono (by decide)) rfl T.g_Env b_Env_init .nil (fun _ => .nil) pass0 (dm_val (de_ds2 (de_fld (dv 0) T.c_Env T.n_Env_table) (de_call G_bindings_of (hr.mono (by decide)) rfl T.g_bindings_of T.k_bindings_of b_bindings_of .nil (fun _ => .nil) pass0 (dm_val (dv 1) dm_nil))) dm_nil))))
theorem ok_Env_sub (T : Txt K mg a) : FnOk P w K mg base CX0 7 a.f_Env_sub a.d_Env_sub ["self", "names"] (toSp K (nf a) 2 (S_Env_sub a)) := by
  have G_Env_init : FnOk P w K mg base CX0 5 a.f_Env_init a.d_Env_init ["self", "bindings"] (toSp K (nf a) 2 (S_Env_init K a)) := ok_Env_init T
  have b_Env_init := T.b_Env_init
  refine T.F_Env_sub.ok sc_Env_sub (fun vs H Q E h => h.1) (fun cdv A outer s H vs Q E hr h => ?_)
  have hN := sc_Env_sub.nd
  have hu := hu_of hr
  have hu6 := hr.units
  refine body_ok (td := td_Env_sub K a) ?_ (by decide) (d_Env_sub) h
  exact (ds_one (ds_ret (de_make T.mk_Env G_Env_init (hr.mono (by decide)) rfl T.g_Env b_Env_init .nil (fun _ => .nil) pass0 (dm_val (de_dc rfl hN (di_items (de_fld (dv 0) T.c_Env T.n_Env_table) (fun h => pi_items h)) (own := [("name", 2), ("value", 3)]) (show BlkOk ["self", "names", "name", "value"] (defScope s_Env_sub) _ _ from ⟨rfl, by decide +kernel, by decide +kernel, by decide +kernel, by decide +kernel⟩) (fun s H C cl fp => (dg_tup rfl (dgs_cons (dg_name (i := 2) hN rfl (by first | exact Or.inl rfl | exact Or.inr rfl)) (dgs_cons (dg_name (i := 3) hN rfl (by first | exact Or.inl rfl | exact Or.inr rfl)) dgs_nil)))) (fun s H C cl fp => (dts_one (dc_ninG hu (dv 2) (dv 1)))) (fun s H C cl fp => (dv 2)) (fun s H C cl fp => (dv 3))) dm_nil))))
theorem ok_Env_listed (T : Txt K mg a) : FnOk P w K mg base CX0 1 a.f_Env_listed a.d_Env_listed ["self"] (toSp K (nf a) 1 (S_Env_listed a)) := by
  refine T.F_Env_listed.ok sc_Env_listed (fun vs H Q E h => h.1) (fun cdv A outer s H vs Q E hr h => ?_)
  have hN := sc_Env_listed.nd
  have hu := hu_of hr
  have hu6 := hr.units
  refine body_ok (td := td_Env_listed K a) ?_ (by decide) (d_Env_listed) h
  exact (ds_one (ds_ret (de_items rfl (de_fld (dv 0) T.c_Env T.n_Env_table) rfl T.z_list)))
theorem ok_Env_only (T : Txt K mg a) : FnOk P w K mg base CX0 7 a.f_Env_only a.d_Env_only ["self", "names"] (toSp K (nf a) 2 (S_Env_only a)) := by
  have G_Env_init : FnOk P w K mg base CX0 5 a.f_Env_init a.d_Env_init ["self", "bindings"] (toSp K (nf a) 2 (S_Env_init K a)) := ok_Env_init T
  have b_Env_init := T.b_Env_init
  refine T.F_Env_only.ok sc_Env_only (fun vs H Q E h => h.1) (fun cdv A outer s H vs Q E hr h => ?_)
  have hN := sc_Env_only.nd
  have hu := hu_of hr
  have hu6 := hr.units
  refine body_ok (td := td_Env_only K a) ?_ (by decide) (d_Env_only) h
  exact (ds_one (ds_ret (de_make T.mk_Env G_Env_init (hr.mono (by decide)) rfl T.g_Env b_Env_init .nil (fun _ => .nil) pass0 (dm_val (de_dc rfl hN (di_items (de_fld (dv 0) T.c_Env T.n_Env_table) (fun h => pi_items h)) (own := [("name", 2), ("value", 3)]) (show BlkOk ["self", "names", "name", "value"] (defScope s_Env_only) _ _ from ⟨rfl, by decide +kernel, by decide +kernel, by decide +kernel, by decide +kernel⟩) (fun s H C cl fp => (dg_tup rfl (dgs_cons (dg_name (i := 2) hN rfl (by first | exact Or.inl rfl | exact Or.inr rfl)) (dgs_cons (dg_name (i := 3) hN rfl (by first | exact Or.inl rfl | exact Or.inr rfl)) dgs_nil)))) (fun s H C cl fp => (dts_one (dc_inG hu (dv 2) (dv 1)))) (fun s H C cl fp => (dv 2)) (fun s H C cl fp => (dv 3))) dm_nil))))
theorem ok_Env_within (T : Txt K mg a) : FnOk P w K mg base CX0 1 a.f_Env_within a.d_Env_within ["self", "other"] (toSp K (nf a) 2 (S_Env_within a)) := by
  refine T.F_Env_within.ok sc_Env_within (fun vs H Q E h => h.1) (fun cdv A outer s H vs Q E hr h => ?_)
  have hN := sc_Env_within.nd
  have hu := hu_of hr
  have hu6 := hr.units
  refine body_ok (td := td_Env_within K a) ?_ (by decide) (d_Env_within) h
  exact (ds_one (ds_ret (de_cb (cr_all rfl) cd_all rfl T.z_all (by decide +kernel) (da_cons (de_lc rfl hN (di_items (de_fld (dv 0) T.c_Env T.n_Env_table) (fun h => pi_items h)) (own := [("name", 2), ("value", 3)]) (show BlkOk ["self", "other", "name", "value"] (defScope s_Env_within) _ _ from ⟨rfl, by decide +kernel, by decide +kernel, by decide +kernel, by decide +kernel⟩) (fun s H C cl fp => (dg_tup rfl (dgs_cons (dg_name (i := 2) hN rfl (by first | exact Or.inl rfl | exact Or.inr rfl)) (dgs_cons (dg_name (i := 3) hN rfl (by first | exact Or.inl rfl | exact Or.inr rfl)) dgs_nil)))) (fun s H C cl fp => dts_nil) (fun s H C cl fp => (de_and (de_inG hu (dv 2) (de_fld (dv 1) T.c_Env T.n_Env_table)) (de_one (de_eqG hu6 (de_ixG hu (de_fld (dv 1) T.c_Env T.n_Env_table) (dv 2)) (dv 3)))))) da_nil))))
theorem ok_law_state (T : Txt K mg a) : FnOk P w K mg base CX0 1 a.f_law_state a.d_law_state ["_law_script"] (toSpO K (nf a) 1 (S_law_state a)) := by
  refine T.F_law_state.ok sc_law_state (fun vs H Q E h => h.1) (fun cdv A outer s H vs Q E hr h => ?_)
  have hN := sc_law_state.nd
  have hu := hu_of hr
  have hu6 := hr.units
  refine body_okO (td := td_law_state K a) ?_ (by decide) (d_law_state) h
  exact (ds_cons (ds_set (i := 1) hN rfl (by first | exact Or.inl rfl | exact Or.inr rfl) de_int)
      (ds_cons (ds_setL (i := 2) hN rfl (by first | exact Or.inl rfl | exact Or.inr rfl) da_nil)
      (ds_cons (ds_for PassesOwn.never rfl (di_list (dv 0)) (dg_name (i := 3) hN rfl (by first | exact Or.inl rfl | exact Or.inr rfl)) (ds_cons (ds_set (i := 1) hN rfl (by first | exact Or.inl rfl | exact Or.inr rfl) (de_mod (de_addG (de_addG (de_mul (dv 1) de_int) (de_mod (de_ct call_int1 cd_int rfl T.z_int (by decide +kernel) (da_cons (dv 3) da_nil)) de_int)) de_int) de_int))
      (ds_one (ds_if (dc_ge (de_cb call_abs cd_abs rfl T.z_abs (by decide +kernel) (da_cons (dv 3) da_nil)) (de_pow de_int de_int)) (ds_one (ds_app (pv 2) (de_cb call_abs cd_abs rfl T.z_abs (by decide +kernel) (da_cons (dv 3) da_nil)))) ds_nil))))
      (ds_one (ds_retSt (pv 2) (da_cons de_int (da_cons de_int (da_cons (dv 1) da_nil))))))))
theorem ok_law_draw (T : Txt K mg a) : FnOk P w K mg base CX0 1 a.f_law_draw a.d_law_draw ["_law_state_here", "_law_many"] (toSp K (nf a) 2 (S_law_draw a)) := by
  refine T.F_law_draw.ok sc_law_draw (fun vs H Q E h => h.1) (fun cdv A outer s H vs Q E hr h => ?_)
  have hN := sc_law_draw.nd
  have hu := hu_of hr
  have hu6 := hr.units
  refine body_ok (td := td_law_draw K a) ?_ (by decide) (d_law_draw) h
  exact (ds_cons (ds_if (DW.dc (dw_and (dc_eqG hu6 (de_stI (pv 0)) de_int) (dw_and1 (dc_stN hu6 (pv 0))))) (ds_one (ds_stPop (pv 0) (pv 0))) ds_nil)
      (ds_cons (ds_if (dc_gt (de_stI (pv 0)) de_int) (ds_cons (ds_set (i := 2) hN rfl (by first | exact Or.inl rfl | exact Or.inr rfl) (de_mod (de_ct call_int1 cd_int rfl T.z_int (by decide +kernel) (da_cons (de_stI (pv 0)) da_nil)) (dv 1)))
      (ds_cons (ds_stS (pv 0) (de_div (de_stI (pv 0)) (dv 1)))
      (ds_one (ds_ret (dv 2))))) ds_nil)
      (ds_cons (ds_stG (pv 0) de_int)
      (ds_cons (ds_stS (pv 0) (de_mod (de_addG (de_addG (de_mul (de_stI (pv 0)) de_int) (de_mul de_int (de_stI (pv 0)))) de_int) de_int))
      (ds_one (ds_ret (de_mod (de_div (de_mod (de_pow (de_stI (pv 0)) de_int) de_int) de_int) (dv 1))))))))
theorem ok_law_kept_words (T : Txt K mg a) : FnOk P w K mg base CX0 1 a.f_law_kept_words a.d_law_kept_words [] (toSp K (nf a) 0 (S_law_kept_words a)) := by
  refine T.F_law_kept_words.ok sc_law_kept_words (fun vs H Q E h => h.1) (fun cdv A outer s H vs Q E hr h => ?_)
  have hN := sc_law_kept_words.nd
  have hu := hu_of hr
  have hu6 := hr.units
  refine body_ok (td := td_law_kept_words K a) ?_ (by decide) (d_law_kept_words) h
  exact (ds_cons (ds_set (i := 0) hN rfl (by first | exact Or.inl rfl | exact Or.inr rfl) de_str)
      (ds_one (ds_ret (de_split (de_addG (dv 0) de_str) de_str))))
theorem ok_law_name (T : Txt K mg a) : FnOk P w K mg base CX0 2 a.f_law_name a.d_law_name ["_law_state_here", "_law_names_here"] (toSp K (nf a) 2 (S_law_name K a)) := by
  have G_law_draw : FnOk P w K mg base CX0 1 a.f_law_draw a.d_law_draw ["_law_state_here", "_law_many"] (toSp K (nf a) 2 (S_law_draw a)) := ok_law_draw T
  have b_law_draw := T.b_law_draw
  have G_law_kept_words : FnOk P w K mg base CX0 1 a.f_law_kept_words a.d_law_kept_words [] (toSp K (nf a) 0 (S_law_kept_words a)) := ok_law_kept_words T
  have b_law_kept_words := T.b_law_kept_words
  refine T.F_law_name.ok sc_law_name (fun vs H Q E h => h.1) (fun cdv A outer s H vs Q E hr h => ?_)
  have hN := sc_law_name.nd
  have hu := hu_of hr
  have hu6 := hr.units
  refine body_ok (td := td_law_name K a) ?_ (by decide) (d_law_name) h
  exact (ds_cons (ds_set (i := 2) hN rfl (by first | exact Or.inl rfl | exact Or.inr rfl) de_str)
      (ds_cons (ds_set (i := 3) hN rfl (by first | exact Or.inl rfl | exact Or.inr rfl) (de_ixG hu (dv 2) (de_call G_law_draw (hr.mono (by decide)) rfl T.g_law_draw T.k_law_draw b_law_draw .nil (fun _ => .nil) pass0 (dm_slot (pv 0) (dm_val de_int dm_nil)))))
      (ds_cons (ds_for PassesOwn.never rfl (di_range1 rfl T.z_range (da_cons (de_ixG hu (de_tup (da_cons de_int (da_cons de_int (da_cons de_int (da_cons de_int (da_cons de_int (da_cons de_int da_nil))))))) (de_call G_law_draw (hr.mono (by decide)) rfl T.g_law_draw T.k_law_draw b_law_draw .nil (fun _ => .nil) pass0 (dm_slot (pv 0) (dm_val de_int dm_nil)))) da_nil)) (dg_name (i := 4) hN rfl (by first | exact Or.inl rfl | exact Or.inr rfl)) (ds_one (ds_set (i := 3) hN rfl (by first | exact Or.inl rfl | exact Or.inr rfl) (de_addG (dv 3) (de_ixG hu (de_addG (dv 2) de_str) (de_call G_law_draw (hr.mono (by decide)) rfl T.g_law_draw T.k_law_draw b_law_draw .nil (fun _ => .nil) pass0 (dm_slot (pv 0) (dm_val de_int dm_nil))))))))
      (ds_cons (ds_set (i := 5) hN rfl (by first | exact Or.inl rfl | exact Or.inr rfl) (de_addG (de_lst (da_cons (dv 3) da_nil)) (de_lc rfl hN (di_range1 rfl T.z_range (da_cons de_int da_nil)) (own := [("_law_k", 4)]) (show BlkOk ["_law_state_here", "_law_names_here", "_law_letters", "_law_base", "_law_k", "_law_choices", "_law_free", "_law_name_here"] (defScope s_law_name) _ _ from ⟨rfl, by decide +kernel, by decide +kernel, by decide +kernel, by decide +kernel⟩) (fun s H C cl fp => (dg_name (i := 4) hN rfl (by first | exact Or.inl rfl | exact Or.inr rfl))) (fun s H C cl fp => dts_nil) (fun s H C cl fp => (de_addG (de_slS (dv 3) do_none (do_some de_int)) (de_ct call_str_int cd_strI rfl T.z_str (by decide +kernel) (da_cons (de_addG de_int (dv 4)) da_nil)))))))
      (ds_cons (ds_setLc (i := 6) rfl hN rfl rfl rfl (di_list (dv 5)) (own := [("_law_name_here", 7)]) (show BlkOk ["_law_state_here", "_law_names_here", "_law_letters", "_law_base", "_law_k", "_law_choices", "_law_free", "_law_name_here"] (defScope s_law_name) _ _ from ⟨rfl, by decide +kernel, by decide +kernel, by decide +kernel, by decide +kernel⟩) (fun s H C cl fp => (dg_name (i := 7) hN rfl (by first | exact Or.inl rfl | exact Or.inr rfl))) (fun s H C cl fp => (dts_one (DW.dc (dw_and (dc_notinV (dv 7) (pv 1)) (dw_and1 (dc_ninG hu (dv 7) (de_call0 G_law_kept_words (hr.mono (by decide)) rfl T.g_law_kept_words T.k_law_kept_words b_law_kept_words .nil (fun _ => .nil) pass0))))))) (fun s H C cl fp => (dv 7)))
      (ds_one (ds_ret (de_ixG hu (dv 6) de_int))))))))
theorem ok_law_names (T : Txt K mg a) : FnOk P w K mg base CX0 3 a.f_law_names a.d_law_names ["_law_state_here", "_law_many"] (toSp K (nf a) 2 (S_law_names a)) := by
  have G_law_name : FnOk P w K mg base CX0 2 a.f_law_name a.d_law_name ["_law_state_here", "_law_names_here"] (toSp K (nf a) 2 (S_law_name K a)) := ok_law_name T
  have b_law_name := T.b_law_name
  refine T.F_law_names.ok sc_law_names (fun vs H Q E h => h.1) (fun cdv A outer s H vs Q E hr h => ?_)
  have hN := sc_law_names.nd
  have hu := hu_of hr
  have hu6 := hr.units
  refine body_ok (td := td_law_names K a) ?_ (by decide) (d_law_names) h
  exact (ds_cons (ds_setL (i := 2) hN rfl (by first | exact Or.inl rfl | exact Or.inr rfl) da_nil)
      (ds_cons (ds_for PassesOwn.never rfl (di_range1 rfl T.z_range (da_cons (dv 1) da_nil)) (dg_name (i := 3) hN rfl (by first | exact Or.inl rfl | exact Or.inr rfl)) (ds_one (ds_app (pv 2) (de_call G_law_name (hr.mono (by decide)) rfl T.g_law_name T.k_law_name b_law_name .nil (fun _ => .nil) pass0 (dm_slot (pv 0) (dm_slot (pv 2) dm_nil))))))
      (ds_one (ds_ret (de_varF (pv 2))))))
theorem ok_law_value (T : Txt K mg a) : FnOk P w K mg base CX0 2 a.f_law_value a.d_law_value ["_law_state_here"] (toSp K (nf a) 1 (S_law_value a)) := by
  have G_law_draw : FnOk P w K mg base CX0 1 a.f_law_draw a.d_law_draw ["_law_state_here", "_law_many"] (toSp K (nf a) 2 (S_law_draw a)) := ok_law_draw T
  have b_law_draw := T.b_law_draw
  refine T.F_law_value.ok sc_law_value (fun vs H Q E h => h.1) (fun cdv A outer s H vs Q E hr h => ?_)
  have hN := sc_law_value.nd
  have hu := hu_of hr
  have hu6 := hr.units
  refine body_ok (td := td_law_value K a) ?_ (by decide) (d_law_value) h
  exact (ds_cons (ds_set (i := 1) hN rfl (by first | exact Or.inl rfl | exact Or.inr rfl) (de_call G_law_draw (hr.mono (by decide)) rfl T.g_law_draw T.k_law_draw b_law_draw .nil (fun _ => .nil) pass0 (dm_slot (pv 0) (dm_val de_int dm_nil))))
      (ds_cons (ds_if (dc_eqG hu6 (dv 1) de_int) (ds_one (ds_ret (de_sub (de_call G_law_draw (hr.mono (by decide)) rfl T.g_law_draw T.k_law_draw b_law_draw .nil (fun _ => .nil) pass0 (dm_slot (pv 0) (dm_val de_int dm_nil))) de_int))) ds_nil)
      (ds_cons (ds_if (dc_eqG hu6 (dv 1) de_int) (ds_one (ds_ret (de_mul (de_sub (de_mul (de_call G_law_draw (hr.mono (by decide)) rfl T.g_law_draw T.k_law_draw b_law_draw .nil (fun _ => .nil) pass0 (dm_slot (pv 0) (dm_val de_int dm_nil))) de_int) de_int) (de_addG (de_pow de_int de_int) (de_call G_law_draw (hr.mono (by decide)) rfl T.g_law_draw T.k_law_draw b_law_draw .nil (fun _ => .nil) pass0 (dm_slot (pv 0) (dm_val (de_pow de_int de_int) dm_nil))))))) ds_nil)
      (ds_cons (ds_set (i := 2) hN rfl (by first | exact Or.inl rfl | exact Or.inr rfl) de_str)
      (ds_one (ds_ret (de_join de_str (de_lc rfl hN (di_range1 rfl T.z_range (da_cons (de_call G_law_draw (hr.mono (by decide)) rfl T.g_law_draw T.k_law_draw b_law_draw .nil (fun _ => .nil) pass0 (dm_slot (pv 0) (dm_val de_int dm_nil))) da_nil)) (own := [("_law_k", 3)]) (show BlkOk ["_law_state_here", "_law_way", "_law_signs", "_law_k"] (defScope s_law_value) _ _ from ⟨rfl, by decide +kernel, by decide +kernel, by decide +kernel, by decide +kernel⟩) (fun s H C cl fp => (dg_name (i := 3) hN rfl (by first | exact Or.inl rfl | exact Or.inr rfl))) (fun s H C cl fp => dts_nil) (fun s H C cl fp => (de_ixG hu (dv 2) (de_call G_law_draw (hr.mono (by decide)) rfl T.g_law_draw T.k_law_draw b_law_draw .nil (fun _ => .nil) pass0 (dm_slot (pv 0) (dm_val de_int dm_nil)))))))))))))
theorem ok_law_changed (T : Txt K mg a) : FnOk P w K mg base CX0 3 a.f_law_changed a.d_law_changed ["_law_state_here", "_law_table", "_law_names_here", "_law_other"] (toSp K (nf a) 4 (S_law_changed a)) := by
  have G_law_draw : FnOk P w K mg base CX0 1 a.f_law_draw a.d_law_draw ["_law_state_here", "_law_many"] (toSp K (nf a) 2 (S_law_draw a)) := ok_law_draw T
  have b_law_draw := T.b_law_draw
  have G_law_value : FnOk P w K mg base CX0 2 a.f_law_value a.d_law_value ["_law_state_here"] (toSp K (nf a) 1 (S_law_value a)) := ok_law_value T
  have b_law_value := T.b_law_value
  refine T.F_law_changed.ok sc_law_changed (fun vs H Q E h => h.1) (fun cdv A outer s H vs Q E hr h => ?_)
  have hN := sc_law_changed.nd
  have hu := hu_of hr
  have hu6 := hr.units
  refine body_ok (td := td_law_changed K a) ?_ (by decide) (d_law_changed) h
  exact (ds_cons (ds_setDD (i := 4) hN rfl (by first | exact Or.inl rfl | exact Or.inr rfl) rfl T.z_dict (da_cons (dv 1) da_nil))
      (ds_cons (ds_set (i := 5) hN rfl (by first | exact Or.inl rfl | exact Or.inr rfl) (de_call G_law_draw (hr.mono (by decide)) rfl T.g_law_draw T.k_law_draw b_law_draw .nil (fun _ => .nil) pass0 (dm_slot (pv 0) (dm_val de_int dm_nil))))
      (ds_cons (ds_if (dc_neG hu6 (dv 2) (de_lst da_nil)) (ds_cons (ds_set (i := 6) hN rfl (by first | exact Or.inl rfl | exact Or.inr rfl) (de_ixG hu (dv 2) (de_call G_law_draw (hr.mono (by decide)) rfl T.g_law_draw T.k_law_draw b_law_draw .nil (fun _ => .nil) pass0 (dm_slot (pv 0) (dm_val (de_cb call_lenG cd_lenG rfl T.z_len boot_len (da_cons (dv 2) da_nil)) dm_nil)))))
      (ds_cons (ds_if (dc_eqG hu6 (dv 5) de_int) (ds_one (ds_dputV hu (pv 4) (dv 6) (de_call G_law_value (hr.mono (by decide)) rfl T.g_law_value T.k_law_value b_law_value .nil (fun _ => .nil) pass0 (dm_slot (pv 0) dm_nil)))) ds_nil)
      (ds_one (ds_if (DW.dc (dw_or (dc_eqG hu6 (dv 5) de_int) (dw_or1 (dc_eqG hu6 (dv 5) de_int)))) (ds_cons (ds_set (i := 7) hN rfl (by first | exact Or.inl rfl | exact Or.inr rfl) (de_popV (pv 4) (dv 6)))
      (ds_one (ds_if (dc_eqG hu6 (dv 5) de_int) (ds_one (ds_dputV hu (pv 4) (dv 3) (dv 7))) ds_nil))) ds_nil)))) ds_nil)
      (ds_cons (ds_if (dc_eqG hu6 (dv 5) de_int) (ds_one (ds_dputV hu (pv 4) (dv 3) (de_call G_law_value (hr.mono (by decide)) rfl T.g_law_value T.k_law_value b_law_value .nil (fun _ => .nil) pass0 (dm_slot (pv 0) dm_nil)))) ds_nil)
      (ds_one (ds_ret (de_varFD (pv 4))))))))
theorem ok_law_within (T : Txt K mg a) : FnOk P w K mg base CX0 1 a.f_law_within a.d_law_within ["_law_small", "_law_large"] (toSp K (nf a) 2 (S_law_within a)) := by
  refine T.F_law_within.ok sc_law_within (fun vs H Q E h => h.1) (fun cdv A outer s H vs Q E hr h => ?_)
  have hN := sc_law_within.nd
  have hu := hu_of hr
  have hu6 := hr.units
  refine body_ok (td := td_law_within K a) ?_ (by decide) (d_law_within) h
  exact (ds_one (ds_ret (de_eqG hu6 (de_lc rfl hN (di_keys (dv 0)) (own := [("_law_name_here", 2)]) (show BlkOk ["_law_small", "_law_large", "_law_name_here"] (defScope s_law_within) _ _ from ⟨rfl, by decide +kernel, by decide +kernel, by decide +kernel, by decide +kernel⟩) (fun s H C cl fp => (dg_name (i := 2) hN rfl (by first | exact Or.inl rfl | exact Or.inr rfl))) (fun s H C cl fp => (dts_one (DW.dc (dw_or (dc_ninG hu (dv 2) (dv 1)) (dw_or1 (dc_neG hu6 (de_ixG hu (dv 1) (dv 2)) (de_ixG hu (dv 0) (dv 2)))))))) (fun s H C cl fp => (dv 2))) (de_lst da_nil))))
theorem ok_law_pairs (T : Txt K mg a) : FnOk P w K mg base CX0 1 a.f_law_pairs a.d_law_pairs ["_law_table", "_law_names_here"] (toSp K (nf a) 2 (S_law_pairs a)) := by
  refine T.F_law_pairs.ok sc_law_pairs (fun vs H Q E h => h.1) (fun cdv A outer s H vs Q E hr h => ?_)
  have hN := sc_law_pairs.nd
  have hu := hu_of hr
  have hu6 := hr.units
  refine body_ok (td := td_law_pairs K a) ?_ (by decide) (d_law_pairs) h
  exact (ds_one (ds_ret (de_lc rfl hN (di_list (de_sortS rfl T.z_sorted (da_cons (dv 1) da_nil))) (own := [("_law_name_here", 2)]) (show BlkOk ["_law_table", "_law_names_here", "_law_name_here"] (defScope s_law_pairs) _ _ from ⟨rfl, by decide +kernel, by decide +kernel, by decide +kernel, by decide +kernel⟩) (fun s H C cl fp => (dg_name (i := 2) hN rfl (by first | exact Or.inl rfl | exact Or.inr rfl))) (fun s H C cl fp => dts_nil) (fun s H C cl fp => (de_tup (da_cons (dv 2) (da_cons (de_ixG hu (dv 0) (dv 2)) da_nil)))))))
theorem ok_law (T : Txt K mg a) : FnOk P w K mg base CX0 8 a.f_law a.d_law ["_law_script"] (toSp K (nf a) 1 (S_law a)) := by
  have G_Env_eq : FnOk P w K mg base CX0 1 a.f_Env_eq a.d_Env_eq ["self", "other"] (toSp K (nf a) 2 (S_Env_eq a)) := ok_Env_eq T
  have b_Env_eq := T.b_Env_eq
  have G_Env_init : FnOk P w K mg base CX0 5 a.f_Env_init a.d_Env_init ["self", "bindings"] (toSp K (nf a) 2 (S_Env_init K a)) := ok_Env_init T
  have b_Env_init := T.b_Env_init
  have G_Env_or : FnOk P w K mg base CX0 7 a.f_Env_or a.d_Env_or ["self", "other"] (toSp K (nf a) 2 (S_Env_or a)) := ok_Env_or T
  have b_Env_or := T.b_Env_or
  have G_Env_sub : FnOk P w K mg base CX0 7 a.f_Env_sub a.d_Env_sub ["self", "names"] (toSp K (nf a) 2 (S_Env_sub a)) := ok_Env_sub T
  have b_Env_sub := T.b_Env_sub
  have G_Env_listed : FnOk P w K mg base CX0 1 a.f_Env_listed a.d_Env_listed ["self"] (toSp K (nf a) 1 (S_Env_listed a)) := ok_Env_listed T
  have b_Env_listed := T.b_Env_listed
  have G_Env_only : FnOk P w K mg base CX0 7 a.f_Env_only a.d_Env_only ["self", "names"] (toSp K (nf a) 2 (S_Env_only a)) := ok_Env_only T
  have b_Env_only := T.b_Env_only
  have G_Env_within : FnOk P w K mg base CX0 1 a.f_Env_within a.d_Env_within ["self", "other"] (toSp K (nf a) 2 (S_Env_within a)) := ok_Env_within T
  have b_Env_within := T.b_Env_within
  have G_law_changed : FnOk P w K mg base CX0 3 a.f_law_changed a.d_law_changed ["_law_state_here", "_law_table", "_law_names_here", "_law_other"] (toSp K (nf a) 4 (S_law_changed a)) := ok_law_changed T
  have b_law_changed := T.b_law_changed
  have G_law_draw : FnOk P w K mg base CX0 1 a.f_law_draw a.d_law_draw ["_law_state_here", "_law_many"] (toSp K (nf a) 2 (S_law_draw a)) := ok_law_draw T
  have b_law_draw := T.b_law_draw
  have G_law_name : FnOk P w K mg base CX0 2 a.f_law_name a.d_law_name ["_law_state_here", "_law_names_here"] (toSp K (nf a) 2 (S_law_name K a)) := ok_law_name T
  have b_law_name := T.b_law_name
  have G_law_names : FnOk P w K mg base CX0 3 a.f_law_names a.d_law_names ["_law_state_here", "_law_many"] (toSp K (nf a) 2 (S_law_names a)) := ok_law_names T
  have b_law_names := T.b_law_names
  have G_law_pairs : FnOk P w K mg base CX0 1 a.f_law_pairs a.d_law_pairs ["_law_table", "_law_names_here"] (toSp K (nf a) 2 (S_law_pairs a)) := ok_law_pairs T
  have b_law_pairs := T.b_law_pairs
  have G_law_state : FnOk P w K mg base CX0 1 a.f_law_state a.d_law_state ["_law_script"] (toSpO K (nf a) 1 (S_law_state a)) := ok_law_state T
  have b_law_state := T.b_law_state
  have G_law_value : FnOk P w K mg base CX0 2 a.f_law_value a.d_law_value ["_law_state_here"] (toSp K (nf a) 1 (S_law_value a)) := ok_law_value T
  have b_law_value := T.b_law_value
  have G_law_within : FnOk P w K mg base CX0 1 a.f_law_within a.d_law_within ["_law_small", "_law_large"] (toSp K (nf a) 2 (S_law_within a)) := ok_law_within T
  have b_law_within := T.b_law_within
  refine T.F_law.ok sc_law (fun vs H Q E h => h.1) (fun cdv A outer s H vs Q E hr h => ?_)
  have hN := sc_law.nd
  have hu := hu_of hr
  have hu6 := hr.units
  refine body_ok (td := td_law K a) ?_ (by decide) (d_law T.i_Env) h
  exact (ds_cons (ds_callO (i := 1) hN rfl (by first | exact Or.inl rfl | exact Or.inr rfl) G_law_state (hr.mono (by decide)) rfl T.g_law_state T.k_law_state b_law_state .nil (fun _ => .nil) pass0 (dm_val (dv 0) dm_nil))
      (ds_cons (ds_set (i := 2) hN rfl (by first | exact Or.inl rfl | exact Or.inr rfl) (de_call G_law_names (hr.mono (by decide)) rfl T.g_law_names T.k_law_names b_law_names .nil (fun _ => .nil) pass0 (dm_slot (pv 1) (dm_val (de_call G_law_draw (hr.mono (by decide)) rfl T.g_law_draw T.k_law_draw b_law_draw .nil (fun _ => .nil) pass0 (dm_slot (pv 1) (dm_val de_int dm_nil))) dm_nil))))
      (ds_cons (ds_set (i := 3) hN rfl (by first | exact Or.inl rfl | exact Or.inr rfl) (de_call G_law_name (hr.mono (by decide)) rfl T.g_law_name T.k_law_name b_law_name .nil (fun _ => .nil) pass0 (dm_slot (pv 1) (dm_val (dv 2) dm_nil))))
      (ds_cons (ds_setD0 (i := 4) hN rfl (by first | exact Or.inl rfl | exact Or.inr rfl))
      (ds_cons (ds_for PassesOwn.never rfl (di_list (dv 2)) (dg_name (i := 5) hN rfl (by first | exact Or.inl rfl | exact Or.inr rfl)) (ds_one (ds_dputV hu (pv 4) (dv 5) (de_call G_law_value (hr.mono (by decide)) rfl T.g_law_value T.k_law_value b_law_value .nil (fun _ => .nil) pass0 (dm_slot (pv 1) dm_nil)))))
      (ds_cons (ds_set (i := 6) hN rfl (by first | exact Or.inl rfl | exact Or.inr rfl) (de_make T.mk_Env G_Env_init (hr.mono (by decide)) rfl T.g_Env b_Env_init .nil (fun _ => .nil) pass0 (dm_val (de_ctF call_dictD cd_dict rfl T.z_dict (by decide +kernel) (da_cons (de_varQ (pv 4)) da_nil)) dm_nil)))
      (ds_cons (ds_set (i := 7) hN rfl (by first | exact Or.inl rfl | exact Or.inr rfl) (de_lc rfl hN (di_range1 rfl T.z_range (da_cons (de_call G_law_draw (hr.mono (by decide)) rfl T.g_law_draw T.k_law_draw b_law_draw .nil (fun _ => .nil) pass0 (dm_slot (pv 1) (dm_val de_int dm_nil))) da_nil)) (own := [("_law_k", 8)]) (show BlkOk ["_law_script", "_law_state_here", "_law_names_here", "_law_other", "_law_table", "_law_name_here", "_law_env", "_law_picked", "_law_k", "_law_handed", "_law_rest", "_law_some", "_law_turned", "_law_second", "_law_same"] (defScope s_law) _ _ from ⟨rfl, by decide +kernel, by decide +kernel, by decide +kernel, by decide +kernel⟩) (fun s H C cl fp => (dg_name (i := 8) hN rfl (by first | exact Or.inl rfl | exact Or.inr rfl))) (fun s H C cl fp => dts_nil) (fun s H C cl fp => (de_ixG hu (de_addG (dv 2) (de_lst (da_cons (dv 3) da_nil))) (de_call G_law_draw (hr.mono (by decide)) rfl T.g_law_draw T.k_law_draw b_law_draw .nil (fun _ => .nil) pass0 (dm_slot (pv 1) (dm_val (de_addG (de_cb call_lenG cd_lenG rfl T.z_len boot_len (da_cons (dv 2) da_nil)) de_int) dm_nil)))))))
      (ds_cons (ds_set (i := 9) hN rfl (by first | exact Or.inl rfl | exact Or.inr rfl) (de_if (dc_eqG hu6 (de_call G_law_draw (hr.mono (by decide)) rfl T.g_law_draw T.k_law_draw b_law_draw .nil (fun _ => .nil) pass0 (dm_slot (pv 1) (dm_val de_int dm_nil))) de_int) (de_ct call_tuple_of cd_tuple rfl T.z_tuple (by decide +kernel) (da_cons (dv 7) da_nil)) (de_ctF call_list_of cd_list rfl T.z_list (by decide +kernel) (da_cons (dv 7) da_nil))))
      (ds_cons (ds_setLc (i := 10) rfl hN rfl rfl rfl (di_list (dv 2)) (own := [("_law_name_here", 5)]) (show BlkOk ["_law_script", "_law_state_here", "_law_names_here", "_law_other", "_law_table", "_law_name_here", "_law_env", "_law_picked", "_law_k", "_law_handed", "_law_rest", "_law_some", "_law_turned", "_law_second", "_law_same"] (defScope s_law) _ _ from ⟨rfl, by decide +kernel, by decide +kernel, by decide +kernel, by decide +kernel⟩) (fun s H C cl fp => (dg_name (i := 5) hN rfl (by first | exact Or.inl rfl | exact Or.inr rfl))) (fun s H C cl fp => (dts_one (dc_ninG hu (dv 5) (dv 7)))) (fun s H C cl fp => (dv 5)))
      (ds_cons (ds_setLc (i := 11) rfl hN rfl rfl rfl (di_list (dv 2)) (own := [("_law_name_here", 5)]) (show BlkOk ["_law_script", "_law_state_here", "_law_names_here", "_law_other", "_law_table", "_law_name_here", "_law_env", "_law_picked", "_law_k", "_law_handed", "_law_rest", "_law_some", "_law_turned", "_law_second", "_law_same"] (defScope s_law) _ _ from ⟨rfl, by decide +kernel, by decide +kernel, by decide +kernel, by decide +kernel⟩) (fun s H C cl fp => (dg_name (i := 5) hN rfl (by first | exact Or.inl rfl | exact Or.inr rfl))) (fun s H C cl fp => (dts_one (dc_inG hu (dv 5) (dv 7)))) (fun s H C cl fp => (dv 5)))
      (ds_cons (ds_if (DW.dc (dw_or (dc_neG hu6 (de_meth0 (de_ownS G_Env_sub (hr.mono (by decide)) b_Env_sub pass0 T.opS_Env T.opL_Env T.opP_Env (dv 6) (dv 9)) T.c_Env T.m_Env_listed G_Env_listed (hr.mono (by decide)) b_Env_listed .nil (fun _ => .nil) pass0) (de_call G_law_pairs (hr.mono (by decide)) rfl T.g_law_pairs T.k_law_pairs b_law_pairs .nil (fun _ => .nil) pass0 (dm_val (de_varQ (pv 4)) (dm_val (dv 10) dm_nil)))) (dw_or1 (dc_neG hu6 (de_meth0 (de_meth (dv 6) T.c_Env T.m_Env_only G_Env_only (hr.mono (by decide)) b_Env_only .nil (fun _ => .nil) pass0 (dm_val (dv 9) dm_nil)) T.c_Env T.m_Env_listed G_Env_listed (hr.mono (by decide)) b_Env_listed .nil (fun _ => .nil) pass0) (de_call G_law_pairs (hr.mono (by decide)) rfl T.g_law_pairs T.k_law_pairs b_law_pairs .nil (fun _ => .nil) pass0 (dm_val (de_varQ (pv 4)) (dm_val (dv 11) dm_nil))))))) (ds_one (ds_ret de_bl)) ds_nil)
      (ds_cons (ds_if (DW.dc (dw_or (dc_neG hu6 (de_ctF call_list_of cd_list rfl T.z_list (by decide +kernel) (da_cons (dv 9) da_nil)) (dv 7)) (dw_or (dc_not (dc_val (de_cb call_isi cd_isi rfl T.z_isinstance (by decide +kernel) (da_cons (de_ownS G_Env_sub (hr.mono (by decide)) b_Env_sub pass0 T.opS_Env T.opL_Env T.opP_Env (dv 6) (dv 9)) (da_cons (de_gref rfl T.g_Env) da_nil))))) (dw_or1 (dc_not (dc_val (de_cb call_isi cd_isi rfl T.z_isinstance (by decide +kernel) (da_cons (de_meth (dv 6) T.c_Env T.m_Env_only G_Env_only (hr.mono (by decide)) b_Env_only .nil (fun _ => .nil) pass0 (dm_val (dv 9) dm_nil)) (da_cons (de_gref rfl T.g_Env) da_nil))))))))) (ds_one (ds_ret de_bl)) ds_nil)
      (ds_cons (ds_set (i := 12) hN rfl (by first | exact Or.inl rfl | exact Or.inr rfl) (de_call G_law_changed (hr.mono (by decide)) rfl T.g_law_changed T.k_law_changed b_law_changed .nil (fun _ => .nil) pass0 (dm_slot (pv 1) (dm_val (de_varQ (pv 4)) (dm_val (dv 2) (dm_val (dv 3) dm_nil))))))
      (ds_cons (ds_set (i := 13) hN rfl (by first | exact Or.inl rfl | exact Or.inr rfl) (de_make T.mk_Env G_Env_init (hr.mono (by decide)) rfl T.g_Env b_Env_init .nil (fun _ => .nil) pass0 (dm_val (de_ctF call_dictD cd_dict rfl T.z_dict (by decide +kernel) (da_cons (dv 12) da_nil)) dm_nil)))
      (ds_cons (ds_set (i := 14) hN rfl (by first | exact Or.inl rfl | exact Or.inr rfl) (de_eqDG hu6 (de_varQ (pv 4)) (dv 12)))
      (ds_cons (ds_if (DW.dc (dw_or (dc_neG hu6 (de_eqOwn G_Env_eq (hr.mono (by decide)) b_Env_eq pass0 T.eq_Env (dv 6) (dv 13)) (dv 14)) (dw_or (dc_eqG hu6 (de_neOwn G_Env_eq (hr.mono (by decide)) b_Env_eq pass0 T.eq_Env (dv 6) (dv 13)) (dv 14)) (dw_or1 (dc_notB (de_eqOwn G_Env_eq (hr.mono (by decide)) b_Env_eq pass0 T.eq_Env (dv 6) (de_ctF call_dictD cd_dict rfl T.z_dict (by decide +kernel) (da_cons (de_varQ (pv 4)) da_nil))) de_bl))))) (ds_one (ds_ret de_bl)) ds_nil)
      (ds_cons (ds_if (DW.dc (dw_or (dc_neG hu6 (de_meth (dv 6) T.c_Env T.m_Env_within G_Env_within (hr.mono (by decide)) b_Env_within .nil (fun _ => .nil) pass0 (dm_val (dv 13) dm_nil)) (de_call G_law_within (hr.mono (by decide)) rfl T.g_law_within T.k_law_within b_law_within .nil (fun _ => .nil) pass0 (dm_val (de_varQ (pv 4)) (dm_val (dv 12) dm_nil)))) (dw_or1 (dc_neG hu6 (de_meth (dv 13) T.c_Env T.m_Env_within G_Env_within (hr.mono (by decide)) b_Env_within .nil (fun _ => .nil) pass0 (dm_val (dv 6) dm_nil)) (de_call G_law_within (hr.mono (by decide)) rfl T.g_law_within T.k_law_within b_law_within .nil (fun _ => .nil) pass0 (dm_val (dv 12) (dm_val (de_varQ (pv 4)) dm_nil))))))) (ds_one (ds_ret de_bl)) ds_nil)
      (ds_cons (ds_if (DW.dc (dw_or (dc_notB (de_meth (de_ownS G_Env_sub (hr.mono (by decide)) b_Env_sub pass0 T.opS_Env T.opL_Env T.opP_Env (dv 6) (dv 9)) T.c_Env T.m_Env_within G_Env_within (hr.mono (by decide)) b_Env_within .nil (fun _ => .nil) pass0 (dm_val (dv 6) dm_nil)) de_bl) (dw_or1 (dc_neOwn G_Env_eq (hr.mono (by decide)) b_Env_eq pass0 T.eq_Env (de_own G_Env_or (hr.mono (by decide)) b_Env_or pass0 (T.op_Env) (de_ownS G_Env_sub (hr.mono (by decide)) b_Env_sub pass0 T.opS_Env T.opL_Env T.opP_Env (dv 6) (dv 9)) (de_meth (dv 6) T.c_Env T.m_Env_only G_Env_only (hr.mono (by decide)) b_Env_only .nil (fun _ => .nil) pass0 (dm_val (dv 9) dm_nil))) (dv 6))))) (ds_one (ds_ret de_bl)) ds_nil)
      (ds_one (ds_ret (de_and (de_eqG hu6 (de_meth0 (dv 6) T.c_Env T.m_Env_listed G_Env_listed (hr.mono (by decide)) b_Env_listed .nil (fun _ => .nil) pass0) (de_call G_law_pairs (hr.mono (by decide)) rfl T.g_law_pairs T.k_law_pairs b_law_pairs .nil (fun _ => .nil) pass0 (dm_val (de_varQ (pv 4)) (dm_val (dv 2) dm_nil)))) (de_one (de_eqG hu6 (de_meth0 (dv 13) T.c_Env T.m_Env_listed G_Env_listed (hr.mono (by decide)) b_Env_listed .nil (fun _ => .nil) pass0) (de_call G_law_pairs (hr.mono (by decide)) rfl T.g_law_pairs T.k_law_pairs b_law_pairs .nil (fun _ => .nil) pass0 (dm_val (dv 12) (dm_val (de_ctF (call_listD rfl) cd_listD rfl T.z_list (by decide +kernel) (da_cons (dv 12) da_nil)) dm_nil))))))))))))))))))))))))))
end
end K30

namespace K30
open PySem L2 DL
theorem all_mk {l : PySem.W.OpenLaw} {w : World} {K : PySem.W.Frag} {h : Heap} {mg : Str → Option Value} {fa : Addr} (X : K.In h) (G : h.Ns mainGlobals mg) (hfa : mg "law" = some (.ref fa)) (z_loose_BEYOND : ∃ t, mg "BEYOND" = some (.int (10 ^ 1000) t))
    {C_Env : Addr}
    {f_is_word : Addr} {od_is_word an_is_word : Option Addr} {sl_is_word : Array (Option Value)} {oc_is_word kV_is_word dc_is_word pm_is_word cd_is_word ct_is_word : Value}
    {f_is_identifier : Addr} {od_is_identifier an_is_identifier : Option Addr} {sl_is_identifier : Array (Option Value)} {oc_is_identifier kV_is_identifier dc_is_identifier pm_is_identifier cd_is_identifier ct_is_identifier : Value}
    {f_is_value : Addr} {od_is_value an_is_value : Option Addr} {sl_is_value : Array (Option Value)} {oc_is_value kV_is_value dc_is_value pm_is_value cd_is_value ct_is_value : Value}
    {f_check_pair : Addr} {od_check_pair an_check_pair : Option Addr} {sl_check_pair : Array (Option Value)} {oc_check_pair kV_check_pair dc_check_pair pm_check_pair cd_check_pair ct_check_pair : Value}
    {f_ascending : Addr} {od_ascending an_ascending : Option Addr} {sl_ascending : Array (Option Value)} {oc_ascending kV_ascending dc_ascending pm_ascending cd_ascending ct_ascending : Value}
    {f_bindings_of : Addr} {od_bindings_of an_bindings_of : Option Addr} {sl_bindings_of : Array (Option Value)} {oc_bindings_of kV_bindings_of dc_bindings_of pm_bindings_of cd_bindings_of ct_bindings_of : Value}
    {f_Env_init : Addr} {od_Env_init an_Env_init : Option Addr} {sl_Env_init : Array (Option Value)} {oc_Env_init kV_Env_init dc_Env_init pm_Env_init cd_Env_init ct_Env_init : Value}
    {t_Env_init : Addr} {ot_Env_init : Value} {otd_Env_init : Option Addr} {nt_Env_init : Nat} {slt_Env_init : Array (Option Value)} {dv0_Env_init : Value}
    {f_Env_eq : Addr} {od_Env_eq an_Env_eq : Option Addr} {sl_Env_eq : Array (Option Value)} {oc_Env_eq kV_Env_eq dc_Env_eq pm_Env_eq cd_Env_eq ct_Env_eq : Value}
    {f_Env_or : Addr} {od_Env_or an_Env_or : Option Addr} {sl_Env_or : Array (Option Value)} {oc_Env_or kV_Env_or dc_Env_or pm_Env_or cd_Env_or ct_Env_or : Value}
    {f_Env_sub : Addr} {od_Env_sub an_Env_sub : Option Addr} {sl_Env_sub : Array (Option Value)} {oc_Env_sub kV_Env_sub dc_Env_sub pm_Env_sub cd_Env_sub ct_Env_sub : Value}
    {f_Env_listed : Addr} {od_Env_listed an_Env_listed : Option Addr} {sl_Env_listed : Array (Option Value)} {oc_Env_listed kV_Env_listed dc_Env_listed pm_Env_listed cd_Env_listed ct_Env_listed : Value}
    {f_Env_only : Addr} {od_Env_only an_Env_only : Option Addr} {sl_Env_only : Array (Option Value)} {oc_Env_only kV_Env_only dc_Env_only pm_Env_only cd_Env_only ct_Env_only : Value}
    {f_Env_within : Addr} {od_Env_within an_Env_within : Option Addr} {sl_Env_within : Array (Option Value)} {oc_Env_within kV_Env_within dc_Env_within pm_Env_within cd_Env_within ct_Env_within : Value}
    {f_law_state : Addr} {od_law_state an_law_state : Option Addr} {sl_law_state : Array (Option Value)} {oc_law_state kV_law_state dc_law_state pm_law_state cd_law_state ct_law_state : Value}
    {f_law_draw : Addr} {od_law_draw an_law_draw : Option Addr} {sl_law_draw : Array (Option Value)} {oc_law_draw kV_law_draw dc_law_draw pm_law_draw cd_law_draw ct_law_draw : Value}
    {f_law_kept_words : Addr} {od_law_kept_words an_law_kept_words : Option Addr} {sl_law_kept_words : Array (Option Value)} {oc_law_kept_words kV_law_kept_words dc_law_kept_words pm_law_kept_words cd_law_kept_words ct_law_kept_words : Value}
    {f_law_name : Addr} {od_law_name an_law_name : Option Addr} {sl_law_name : Array (Option Value)} {oc_law_name kV_law_name dc_law_name pm_law_name cd_law_name ct_law_name : Value}
    {f_law_names : Addr} {od_law_names an_law_names : Option Addr} {sl_law_names : Array (Option Value)} {oc_law_names kV_law_names dc_law_names pm_law_names cd_law_names ct_law_names : Value}
    {f_law_value : Addr} {od_law_value an_law_value : Option Addr} {sl_law_value : Array (Option Value)} {oc_law_value kV_law_value dc_law_value pm_law_value cd_law_value ct_law_value : Value}
    {f_law_changed : Addr} {od_law_changed an_law_changed : Option Addr} {sl_law_changed : Array (Option Value)} {oc_law_changed kV_law_changed dc_law_changed pm_law_changed cd_law_changed ct_law_changed : Value}
    {f_law_within : Addr} {od_law_within an_law_within : Option Addr} {sl_law_within : Array (Option Value)} {oc_law_within kV_law_within dc_law_within pm_law_within cd_law_within ct_law_within : Value}
    {f_law_pairs : Addr} {od_law_pairs an_law_pairs : Option Addr} {sl_law_pairs : Array (Option Value)} {oc_law_pairs kV_law_pairs dc_law_pairs pm_law_pairs cd_law_pairs ct_law_pairs : Value}
    {f_law : Addr} {od_law an_law : Option Addr} {sl_law : Array (Option Value)} {oc_law kV_law dc_law pm_law cd_law ct_law : Value}
    {fl_Env rl_Env fp_Env rp_Env : Option Value} {cd_Env : _}
    {t_LETTERS : Tok} {N_LETTERS : Str}
    {t_DIGITS : Tok} {N_DIGITS : Str}
    {t_LONGEST : Tok} {N_LONGEST : Int}
    {p_KEPT : Addr} {ot_KEPT : Option Addr} {nt_KEPT : Nat} {slt_KEPT : Array (Option Value)} {its_KEPT : Array Value}
    (aC_Env : PySem.W.nsIn K mainGlobals "Env" = some (some (.ref C_Env)))
    (a_is_word : PySem.W.nsIn K mainGlobals "is_word" = some (some (.ref f_is_word)))
    (l_is_word : K.lookup f_is_word = some ⟨oc_is_word, od_is_word, .func (PySem.W.fnOf "is_word" "is_word" (defArgs s_is_word) (defBody s_is_word) (defScope s_is_word) .none kV_is_word dc_is_word pm_is_word an_is_word cd_is_word ct_is_word), sl_is_word⟩)
    (c_is_word : PySem.W.codeIn K cd_is_word "is_word" = true)
    (k_is_word : PySem.W.keepIn K (.ref f_is_word) = true)
    (a_is_identifier : PySem.W.nsIn K mainGlobals "is_identifier" = some (some (.ref f_is_identifier)))
    (l_is_identifier : K.lookup f_is_identifier = some ⟨oc_is_identifier, od_is_identifier, .func (PySem.W.fnOf "is_identifier" "is_identifier" (defArgs s_is_identifier) (defBody s_is_identifier) (defScope s_is_identifier) .none kV_is_identifier dc_is_identifier pm_is_identifier an_is_identifier cd_is_identifier ct_is_identifier), sl_is_identifier⟩)
    (c_is_identifier : PySem.W.codeIn K cd_is_identifier "is_identifier" = true)
    (k_is_identifier : PySem.W.keepIn K (.ref f_is_identifier) = true)
    (a_is_value : PySem.W.nsIn K mainGlobals "is_value" = some (some (.ref f_is_value)))
    (l_is_value : K.lookup f_is_value = some ⟨oc_is_value, od_is_value, .func (PySem.W.fnOf "is_value" "is_value" (defArgs s_is_value) (defBody s_is_value) (defScope s_is_value) .none kV_is_value dc_is_value pm_is_value an_is_value cd_is_value ct_is_value), sl_is_value⟩)
    (c_is_value : PySem.W.codeIn K cd_is_value "is_value" = true)
    (k_is_value : PySem.W.keepIn K (.ref f_is_value) = true)
    (a_check_pair : PySem.W.nsIn K mainGlobals "check_pair" = some (some (.ref f_check_pair)))
    (l_check_pair : K.lookup f_check_pair = some ⟨oc_check_pair, od_check_pair, .func (PySem.W.fnOf "check_pair" "check_pair" (defArgs s_check_pair) (defBody s_check_pair) (defScope s_check_pair) .none kV_check_pair dc_check_pair pm_check_pair an_check_pair cd_check_pair ct_check_pair), sl_check_pair⟩)
    (c_check_pair : PySem.W.codeIn K cd_check_pair "check_pair" = true)
    (k_check_pair : PySem.W.keepIn K (.ref f_check_pair) = true)
    (a_ascending : PySem.W.nsIn K mainGlobals "ascending" = some (some (.ref f_ascending)))
    (l_ascending : K.lookup f_ascending = some ⟨oc_ascending, od_ascending, .func (PySem.W.fnOf "ascending" "ascending" (defArgs s_ascending) (defBody s_ascending) (defScope s_ascending) .none kV_ascending dc_ascending pm_ascending an_ascending cd_ascending ct_ascending), sl_ascending⟩)
    (c_ascending : PySem.W.codeIn K cd_ascending "ascending" = true)
    (k_ascending : PySem.W.keepIn K (.ref f_ascending) = true)
    (a_bindings_of : PySem.W.nsIn K mainGlobals "bindings_of" = some (some (.ref f_bindings_of)))
    (l_bindings_of : K.lookup f_bindings_of = some ⟨oc_bindings_of, od_bindings_of, .func (PySem.W.fnOf "bindings_of" "bindings_of" (defArgs s_bindings_of) (defBody s_bindings_of) (defScope s_bindings_of) .none kV_bindings_of dc_bindings_of pm_bindings_of an_bindings_of cd_bindings_of ct_bindings_of), sl_bindings_of⟩)
    (c_bindings_of : PySem.W.codeIn K cd_bindings_of "bindings_of" = true)
    (k_bindings_of : PySem.W.keepIn K (.ref f_bindings_of) = true)
    (a_Env_init : PySem.W.findIn K (.ref C_Env) "__init__" = some (some (.ref f_Env_init)))
    (i_Env_init : PySem.W.isFn K (.ref f_Env_init) = true)
    (l_Env_init : K.lookup f_Env_init = some ⟨oc_Env_init, od_Env_init, .func (PySem.W.fnOf "__init__" "Env.__init__" (defArgs s_Env_init) (defBody s_Env_init) (defScope s_Env_init) (.ref t_Env_init) kV_Env_init dc_Env_init pm_Env_init an_Env_init cd_Env_init ct_Env_init), sl_Env_init⟩)
    (c_Env_init : PySem.W.codeIn K cd_Env_init "Env.__init__" = true)
    (k_Env_init : PySem.W.keepIn K (.ref f_Env_init) = true)
    (lt_Env_init : K.lookup t_Env_init = some ⟨ot_Env_init, otd_Env_init, .seq #[dv0_Env_init] nt_Env_init, slt_Env_init⟩)
    (vt_Env_init : Vals [.non] [dv0_Env_init])
    (a_Env_eq : PySem.W.findIn K (.ref C_Env) "__eq__" = some (some (.ref f_Env_eq)))
    (i_Env_eq : PySem.W.isFn K (.ref f_Env_eq) = true)
    (l_Env_eq : K.lookup f_Env_eq = some ⟨oc_Env_eq, od_Env_eq, .func (PySem.W.fnOf "__eq__" "Env.__eq__" (defArgs s_Env_eq) (defBody s_Env_eq) (defScope s_Env_eq) .none kV_Env_eq dc_Env_eq pm_Env_eq an_Env_eq cd_Env_eq ct_Env_eq), sl_Env_eq⟩)
    (c_Env_eq : PySem.W.codeIn K cd_Env_eq "Env.__eq__" = true)
    (k_Env_eq : PySem.W.keepIn K (.ref f_Env_eq) = true)
    (a_Env_or : PySem.W.findIn K (.ref C_Env) "__or__" = some (some (.ref f_Env_or)))
    (i_Env_or : PySem.W.isFn K (.ref f_Env_or) = true)
    (l_Env_or : K.lookup f_Env_or = some ⟨oc_Env_or, od_Env_or, .func (PySem.W.fnOf "__or__" "Env.__or__" (defArgs s_Env_or) (defBody s_Env_or) (defScope s_Env_or) .none kV_Env_or dc_Env_or pm_Env_or an_Env_or cd_Env_or ct_Env_or), sl_Env_or⟩)
    (c_Env_or : PySem.W.codeIn K cd_Env_or "Env.__or__" = true)
    (k_Env_or : PySem.W.keepIn K (.ref f_Env_or) = true)
    (a_Env_sub : PySem.W.findIn K (.ref C_Env) "__sub__" = some (some (.ref f_Env_sub)))
    (i_Env_sub : PySem.W.isFn K (.ref f_Env_sub) = true)
    (l_Env_sub : K.lookup f_Env_sub = some ⟨oc_Env_sub, od_Env_sub, .func (PySem.W.fnOf "__sub__" "Env.__sub__" (defArgs s_Env_sub) (defBody s_Env_sub) (defScope s_Env_sub) .none kV_Env_sub dc_Env_sub pm_Env_sub an_Env_sub cd_Env_sub ct_Env_sub), sl_Env_sub⟩)
    (c_Env_sub : PySem.W.codeIn K cd_Env_sub "Env.__sub__" = true)
    (k_Env_sub : PySem.W.keepIn K (.ref f_Env_sub) = true)
    (a_Env_listed : PySem.W.findIn K (.ref C_Env) "listed" = some (some (.ref f_Env_listed)))
    (i_Env_listed : PySem.W.isFn K (.ref f_Env_listed) = true)
    (l_Env_listed : K.lookup f_Env_listed = some ⟨oc_Env_listed, od_Env_listed, .func (PySem.W.fnOf "listed" "Env.listed" (defArgs s_Env_listed) (defBody s_Env_listed) (defScope s_Env_listed) .none kV_Env_listed dc_Env_listed pm_Env_listed an_Env_listed cd_Env_listed ct_Env_listed), sl_Env_listed⟩)
    (c_Env_listed : PySem.W.codeIn K cd_Env_listed "Env.listed" = true)
    (k_Env_listed : PySem.W.keepIn K (.ref f_Env_listed) = true)
    (a_Env_only : PySem.W.findIn K (.ref C_Env) "only" = some (some (.ref f_Env_only)))
    (i_Env_only : PySem.W.isFn K (.ref f_Env_only) = true)
    (l_Env_only : K.lookup f_Env_only = some ⟨oc_Env_only, od_Env_only, .func (PySem.W.fnOf "only" "Env.only" (defArgs s_Env_only) (defBody s_Env_only) (defScope s_Env_only) .none kV_Env_only dc_Env_only pm_Env_only an_Env_only cd_Env_only ct_Env_only), sl_Env_only⟩)
    (c_Env_only : PySem.W.codeIn K cd_Env_only "Env.only" = true)
    (k_Env_only : PySem.W.keepIn K (.ref f_Env_only) = true)
    (a_Env_within : PySem.W.findIn K (.ref C_Env) "within" = some (some (.ref f_Env_within)))
    (i_Env_within : PySem.W.isFn K (.ref f_Env_within) = true)
    (l_Env_within : K.lookup f_Env_within = some ⟨oc_Env_within, od_Env_within, .func (PySem.W.fnOf "within" "Env.within" (defArgs s_Env_within) (defBody s_Env_within) (defScope s_Env_within) .none kV_Env_within dc_Env_within pm_Env_within an_Env_within cd_Env_within ct_Env_within), sl_Env_within⟩)
    (c_Env_within : PySem.W.codeIn K cd_Env_within "Env.within" = true)
    (k_Env_within : PySem.W.keepIn K (.ref f_Env_within) = true)
    (a_law_state : PySem.W.nsIn K mainGlobals "_law_state" = some (some (.ref f_law_state)))
    (l_law_state : K.lookup f_law_state = some ⟨oc_law_state, od_law_state, .func (PySem.W.fnOf "_law_state" "_law_state" (defArgs s_law_state) (defBody s_law_state) (defScope s_law_state) .none kV_law_state dc_law_state pm_law_state an_law_state cd_law_state ct_law_state), sl_law_state⟩)
    (c_law_state : PySem.W.codeIn K cd_law_state "_law_state" = true)
    (k_law_state : PySem.W.keepIn K (.ref f_law_state) = true)
    (a_law_draw : PySem.W.nsIn K mainGlobals "_law_draw" = some (some (.ref f_law_draw)))
    (l_law_draw : K.lookup f_law_draw = some ⟨oc_law_draw, od_law_draw, .func (PySem.W.fnOf "_law_draw" "_law_draw" (defArgs s_law_draw) (defBody s_law_draw) (defScope s_law_draw) .none kV_law_draw dc_law_draw pm_law_draw an_law_draw cd_law_draw ct_law_draw), sl_law_draw⟩)
    (c_law_draw : PySem.W.codeIn K cd_law_draw "_law_draw" = true)
    (k_law_draw : PySem.W.keepIn K (.ref f_law_draw) = true)
    (a_law_kept_words : PySem.W.nsIn K mainGlobals "_law_kept_words" = some (some (.ref f_law_kept_words)))
    (l_law_kept_words : K.lookup f_law_kept_words = some ⟨oc_law_kept_words, od_law_kept_words, .func (PySem.W.fnOf "_law_kept_words" "_law_kept_words" (defArgs s_law_kept_words) (defBody s_law_kept_words) (defScope s_law_kept_words) .none kV_law_kept_words dc_law_kept_words pm_law_kept_words an_law_kept_words cd_law_kept_words ct_law_kept_words), sl_law_kept_words⟩)
    (c_law_kept_words : PySem.W.codeIn K cd_law_kept_words "_law_kept_words" = true)
    (k_law_kept_words : PySem.W.keepIn K (.ref f_law_kept_words) = true)
    (a_law_name : PySem.W.nsIn K mainGlobals "_law_name" = some (some (.ref f_law_name)))
    (l_law_name : K.lookup f_law_name = some ⟨oc_law_name, od_law_name, .func (PySem.W.fnOf "_law_name" "_law_name" (defArgs s_law_name) (defBody s_law_name) (defScope s_law_name) .none kV_law_name dc_law_name pm_law_name an_law_name cd_law_name ct_law_name), sl_law_name⟩)
    (c_law_name : PySem.W.codeIn K cd_law_name "_law_name" = true)
    (k_law_name : PySem.W.keepIn K (.ref f_law_name) = true)
    (a_law_names : PySem.W.nsIn K mainGlobals "_law_names" = some (some (.ref f_law_names)))
    (l_law_names : K.lookup f_law_names = some ⟨oc_law_names, od_law_names, .func (PySem.W.fnOf "_law_names" "_law_names" (defArgs s_law_names) (defBody s_law_names) (defScope s_law_names) .none kV_law_names dc_law_names pm_law_names an_law_names cd_law_names ct_law_names), sl_law_names⟩)
    (c_law_names : PySem.W.codeIn K cd_law_names "_law_names" = true)
    (k_law_names : PySem.W.keepIn K (.ref f_law_names) = true)
    (a_law_value : PySem.W.nsIn K mainGlobals "_law_value" = some (some (.ref f_law_value)))
    (l_law_value : K.lookup f_law_value = some ⟨oc_law_value, od_law_value, .func (PySem.W.fnOf "_law_value" "_law_value" (defArgs s_law_value) (defBody s_law_value) (defScope s_law_value) .none kV_law_value dc_law_value pm_law_value an_law_value cd_law_value ct_law_value), sl_law_value⟩)
    (c_law_value : PySem.W.codeIn K cd_law_value "_law_value" = true)
    (k_law_value : PySem.W.keepIn K (.ref f_law_value) = true)
    (a_law_changed : PySem.W.nsIn K mainGlobals "_law_changed" = some (some (.ref f_law_changed)))
    (l_law_changed : K.lookup f_law_changed = some ⟨oc_law_changed, od_law_changed, .func (PySem.W.fnOf "_law_changed" "_law_changed" (defArgs s_law_changed) (defBody s_law_changed) (defScope s_law_changed) .none kV_law_changed dc_law_changed pm_law_changed an_law_changed cd_law_changed ct_law_changed), sl_law_changed⟩)
    (c_law_changed : PySem.W.codeIn K cd_law_changed "_law_changed" = true)
    (k_law_changed : PySem.W.keepIn K (.ref f_law_changed) = true)
    (a_law_within : PySem.W.nsIn K mainGlobals "_law_within" = some (some (.ref f_law_within)))
    (l_law_within : K.lookup f_law_within = some ⟨oc_law_within, od_law_within, .func (PySem.W.fnOf "_law_within" "_law_within" (defArgs s_law_within) (defBody s_law_within) (defScope s_law_within) .none kV_law_within dc_law_within pm_law_within an_law_within cd_law_within ct_law_within), sl_law_within⟩)
    (c_law_within : PySem.W.codeIn K cd_law_within "_law_within" = true)
    (k_law_within : PySem.W.keepIn K (.ref f_law_within) = true)
    (a_law_pairs : PySem.W.nsIn K mainGlobals "_law_pairs" = some (some (.ref f_law_pairs)))
    (l_law_pairs : K.lookup f_law_pairs = some ⟨oc_law_pairs, od_law_pairs, .func (PySem.W.fnOf "_law_pairs" "_law_pairs" (defArgs s_law_pairs) (defBody s_law_pairs) (defScope s_law_pairs) .none kV_law_pairs dc_law_pairs pm_law_pairs an_law_pairs cd_law_pairs ct_law_pairs), sl_law_pairs⟩)
    (c_law_pairs : PySem.W.codeIn K cd_law_pairs "_law_pairs" = true)
    (k_law_pairs : PySem.W.keepIn K (.ref f_law_pairs) = true)
    (a_law : PySem.W.nsIn K mainGlobals "law" = some (some (.ref f_law)))
    (l_law : K.lookup f_law = some ⟨oc_law, od_law, .func (PySem.W.fnOf "law" "law" (defArgs s_law) (defBody s_law) (defScope s_law) .none kV_law dc_law pm_law an_law cd_law ct_law), sl_law⟩)
    (c_law : PySem.W.codeIn K cd_law "law" = true)
    (k_law : PySem.W.keepIn K (.ref f_law) = true)
    (pg_Env : PySem.W.plainGet K C_Env Str.empty = true)
    (hd_Env : PySem.W.hasDictIn K C_Env = true)
    (po_Env : PySem.W.plainOver K C_Env = true)
    (sa_Env : PySem.W.findIn K (.ref C_Env) "__setattr__" = some (some (.builtin "object.__setattr__")))
    (ha_Env : PySem.W.findIn K (.ref C_Env) "__class__" = some (some (.builtin "object.__class__")))
    (hm_Env : PySem.W.mroIn K C_Env (.type "object") = some true)
    (mk_Env : PySem.W.makesIn K C_Env = true)
    (kc_Env : PySem.W.keepIn K (.ref C_Env) = true)
    (n_Env_table : PySem.W.findIn K (.ref C_Env) "table" = some none)
    (hng : PySem.W.specialIn K (.builtin "object.__class__") "__get__" = some (some (.builtin "getset_descriptor.__get__")))
    (htk : PySem.W.takesIn K (.builtin "object.__class__") = some true)
    (o_sf : PySem.W.selfFirst K C_Env = true)
    (o_hs : PySem.W.findIn K (.ref C_Env) (PySem.dunder "or") = some (some (.ref f_Env_or)))
    (o_ss : PySem.W.findIn K (.ref C_Env) (PySem.dunder "sub") = some (some (.ref f_Env_sub)))
    (o_sr : PySem.W.findIn K (.ref C_Env) (dunderR "sub") = some none)
    (o_l1 : PySem.W.findIn K (.type "list") (PySem.dunder "sub") = some fl_Env)
    (o_l2 : PySem.W.findIn K (.type "list") (dunderR "sub") = some rl_Env)
    (o_l3 : PySem.W.subIn K (.type "list") (.ref C_Env) = some false)
    (o_p1 : PySem.W.findIn K (.type "tuple") (PySem.dunder "sub") = some fp_Env)
    (o_p2 : PySem.W.findIn K (.type "tuple") (dunderR "sub") = some rp_Env)
    (o_p3 : PySem.W.subIn K (.type "tuple") (.ref C_Env) = some false)
    (o_s1 : PySem.W.subIn K (.type "dict") (.ref C_Env) = some false)
    (o_ne : PySem.W.findIn K (.ref C_Env) "__ne__" = some (some (.builtin "object.__ne__")))
    (o_kc : PySem.W.clsIn K C_Env = some cd_Env)
    (o_kt : PySem.W.typeIn K (.ref C_Env) = some (.type "type"))
    (z_len : PySem.W.nsIn K mainGlobals "len" = some none)
    (z_int : PySem.W.nsIn K mainGlobals "int" = some none)
    (z_abs : PySem.W.nsIn K mainGlobals "abs" = some none)
    (z_str : PySem.W.nsIn K mainGlobals "str" = some none)
    (z_all : PySem.W.nsIn K mainGlobals "all" = some none)
    (z_tuple : PySem.W.nsIn K mainGlobals "tuple" = some none)
    (z_dict : PySem.W.nsIn K mainGlobals "dict" = some none)
    (z_list : PySem.W.nsIn K mainGlobals "list" = some none)
    (z_sorted : PySem.W.nsIn K mainGlobals "sorted" = some none)
    (z_isinstance : PySem.W.nsIn K mainGlobals "isinstance" = some none)
    (z_range : PySem.W.nsIn K mainGlobals "range" = some none)
    (z_bool : PySem.W.nsIn K mainGlobals "bool" = some none)
    (g_LETTERS : PySem.W.nsIn K mainGlobals "LETTERS" = some (some (.str N_LETTERS t_LETTERS)))
    (e_LETTERS : N_LETTERS = "abcdefghijklmnopqrstuvwxyz")
    (g_DIGITS : PySem.W.nsIn K mainGlobals "DIGITS" = some (some (.str N_DIGITS t_DIGITS)))
    (e_DIGITS : N_DIGITS = "0123456789")
    (g_LONGEST : PySem.W.nsIn K mainGlobals "LONGEST" = some (some (.int N_LONGEST t_LONGEST)))
    (e_LONGEST : N_LONGEST = 12)
    (g_KEPT : PySem.W.nsIn K mainGlobals "KEPT" = some (some (.ref p_KEPT)))
    (l_KEPT : K.lookup p_KEPT = some ⟨.type "tuple", ot_KEPT, .seq its_KEPT nt_KEPT, slt_KEPT⟩)
    (v_KEPT : Vals keptV its_KEPT.toList)
    (s_KEPT : its_KEPT.size ≤ sizeLine)
    : ∃ (fd : FuncData) (sp : Sp), (∀ (s : Shared) (v : Value), BindsTo s fd ⟨[v], []⟩ [("_law_script", v)]) ∧ (∃ a : Ad, sp = toSp K (nf a) 1 (S_law a)) ∧ ∀ base : Heap, K.In base → base.Ns mainGlobals mg → FnOk l.prog w K mg base CX0 8 fa fd ["_law_script"] sp := by
  have e := (PySem.W.mg_of X G a_law).symm.trans hfa
  cases e
  subst e_LETTERS
  subst e_DIGITS
  subst e_LONGEST
  obtain ⟨t_BEYOND, z_BEYOND⟩ := z_loose_BEYOND
  have F_is_word := fun_mk (st := s_is_word) l_is_word c_is_word k_is_word
  have b_is_word := F_is_word.binds (ps := ["value"]) fun _ _ _ _ _ _ us hl => match us, hl with | [_], _ => rfl
  have F_is_identifier := fun_mk (st := s_is_identifier) l_is_identifier c_is_identifier k_is_identifier
  have b_is_identifier := F_is_identifier.binds (ps := ["value"]) fun _ _ _ _ _ _ us hl => match us, hl with | [_], _ => rfl
  have F_is_value := fun_mk (st := s_is_value) l_is_value c_is_value k_is_value
  have b_is_value := F_is_value.binds (ps := ["value"]) fun _ _ _ _ _ _ us hl => match us, hl with | [_], _ => rfl
  have F_check_pair := fun_mk (st := s_check_pair) l_check_pair c_check_pair k_check_pair
  have b_check_pair := F_check_pair.binds (ps := ["name", "value"]) fun _ _ _ _ _ _ us hl => match us, hl with | [_, _], _ => rfl
  have F_ascending := fun_mk (st := s_ascending) l_ascending c_ascending k_ascending
  have b_ascending := F_ascending.binds (ps := ["table"]) fun _ _ _ _ _ _ us hl => match us, hl with | [_], _ => rfl
  have F_bindings_of := fun_mk (st := s_bindings_of) l_bindings_of c_bindings_of k_bindings_of
  have b_bindings_of := F_bindings_of.binds (ps := ["given"]) fun _ _ _ _ _ _ us hl => match us, hl with | [_], _ => rfl
  have F_Env_init : FunD K "__init__" "Env.__init__" (defArgs s_Env_init) (defBody s_Env_init) (defScope s_Env_init) [.non] [] f_Env_init _ := ⟨⟨_, _, _, _, _, _, _, _, _, _, rfl, l_Env_init, c_Env_init, Or.inr ⟨by simp, _, _, _, _, rfl, lt_Env_init, rfl, vt_Env_init⟩, Or.inl rfl⟩, k_Env_init⟩
  obtain ⟨ds_Env_init, vd_Env_init, b_Env_init⟩ := F_Env_init.binds1 (ps := ["self", "bindings"]) 2 1 (by simp) rfl (fun T kV doc pm an cdv ct us its hu hi => match us, hu, its, hi with | [_, _], _, [_], _ => ⟨_, rfl, rfl⟩)
  cases vd_Env_init
  have F_Env_eq := fun_mk (st := s_Env_eq) l_Env_eq c_Env_eq k_Env_eq
  have b_Env_eq := F_Env_eq.binds (ps := ["self", "other"]) fun _ _ _ _ _ _ us hl => match us, hl with | [_, _], _ => rfl
  have F_Env_or := fun_mk (st := s_Env_or) l_Env_or c_Env_or k_Env_or
  have b_Env_or := F_Env_or.binds (ps := ["self", "other"]) fun _ _ _ _ _ _ us hl => match us, hl with | [_, _], _ => rfl
  have F_Env_sub := fun_mk (st := s_Env_sub) l_Env_sub c_Env_sub k_Env_sub
  have b_Env_sub := F_Env_sub.binds (ps := ["self", "names"]) fun _ _ _ _ _ _ us hl => match us, hl with | [_, _], _ => rfl
  have F_Env_listed := fun_mk (st := s_Env_listed) l_Env_listed c_Env_listed k_Env_listed
  have b_Env_listed := F_Env_listed.binds (ps := ["self"]) fun _ _ _ _ _ _ us hl => match us, hl with | [_], _ => rfl
  have F_Env_only := fun_mk (st := s_Env_only) l_Env_only c_Env_only k_Env_only
  have b_Env_only := F_Env_only.binds (ps := ["self", "names"]) fun _ _ _ _ _ _ us hl => match us, hl with | [_, _], _ => rfl
  have F_Env_within := fun_mk (st := s_Env_within) l_Env_within c_Env_within k_Env_within
  have b_Env_within := F_Env_within.binds (ps := ["self", "other"]) fun _ _ _ _ _ _ us hl => match us, hl with | [_, _], _ => rfl
  have F_law_state := fun_mk (st := s_law_state) l_law_state c_law_state k_law_state
  have b_law_state := F_law_state.binds (ps := ["_law_script"]) fun _ _ _ _ _ _ us hl => match us, hl with | [_], _ => rfl
  have F_law_draw := fun_mk (st := s_law_draw) l_law_draw c_law_draw k_law_draw
  have b_law_draw := F_law_draw.binds (ps := ["_law_state_here", "_law_many"]) fun _ _ _ _ _ _ us hl => match us, hl with | [_, _], _ => rfl
  have F_law_kept_words := fun_mk (st := s_law_kept_words) l_law_kept_words c_law_kept_words k_law_kept_words
  have b_law_kept_words := F_law_kept_words.binds (ps := []) fun _ _ _ _ _ _ us hl => match us, hl with | [], _ => rfl
  have F_law_name := fun_mk (st := s_law_name) l_law_name c_law_name k_law_name
  have b_law_name := F_law_name.binds (ps := ["_law_state_here", "_law_names_here"]) fun _ _ _ _ _ _ us hl => match us, hl with | [_, _], _ => rfl
  have F_law_names := fun_mk (st := s_law_names) l_law_names c_law_names k_law_names
  have b_law_names := F_law_names.binds (ps := ["_law_state_here", "_law_many"]) fun _ _ _ _ _ _ us hl => match us, hl with | [_, _], _ => rfl
  have F_law_value := fun_mk (st := s_law_value) l_law_value c_law_value k_law_value
  have b_law_value := F_law_value.binds (ps := ["_law_state_here"]) fun _ _ _ _ _ _ us hl => match us, hl with | [_], _ => rfl
  have F_law_changed := fun_mk (st := s_law_changed) l_law_changed c_law_changed k_law_changed
  have b_law_changed := F_law_changed.binds (ps := ["_law_state_here", "_law_table", "_law_names_here", "_law_other"]) fun _ _ _ _ _ _ us hl => match us, hl with | [_, _, _, _], _ => rfl
  have F_law_within := fun_mk (st := s_law_within) l_law_within c_law_within k_law_within
  have b_law_within := F_law_within.binds (ps := ["_law_small", "_law_large"]) fun _ _ _ _ _ _ us hl => match us, hl with | [_, _], _ => rfl
  have F_law_pairs := fun_mk (st := s_law_pairs) l_law_pairs c_law_pairs k_law_pairs
  have b_law_pairs := F_law_pairs.binds (ps := ["_law_table", "_law_names_here"]) fun _ _ _ _ _ _ us hl => match us, hl with | [_, _], _ => rfl
  have F_law := fun_mk (st := s_law) l_law c_law k_law
  have b_law := F_law.binds (ps := ["_law_script"]) fun _ _ _ _ _ _ us hl => match us, hl with | [_], _ => rfl
  have T : Txt K mg ({ C_Env := C_Env, f_is_word := f_is_word, d_is_word := _, f_is_identifier := f_is_identifier, d_is_identifier := _, f_is_value := f_is_value, d_is_value := _, f_check_pair := f_check_pair, d_check_pair := _, f_ascending := f_ascending, d_ascending := _, f_bindings_of := f_bindings_of, d_bindings_of := _, f_Env_init := f_Env_init, d_Env_init := _, f_Env_eq := f_Env_eq, d_Env_eq := _, f_Env_or := f_Env_or, d_Env_or := _, f_Env_sub := f_Env_sub, d_Env_sub := _, f_Env_listed := f_Env_listed, d_Env_listed := _, f_Env_only := f_Env_only, d_Env_only := _, f_Env_within := f_Env_within, d_Env_within := _, f_law_state := f_law_state, d_law_state := _, f_law_draw := f_law_draw, d_law_draw := _, f_law_kept_words := f_law_kept_words, d_law_kept_words := _, f_law_name := f_law_name, d_law_name := _, f_law_names := f_law_names, d_law_names := _, f_law_value := f_law_value, d_law_value := _, f_law_changed := f_law_changed, d_law_changed := _, f_law_within := f_law_within, d_law_within := _, f_law_pairs := f_law_pairs, d_law_pairs := _, f_law := _, d_law := _, t_BEYOND := t_BEYOND, t_LETTERS := t_LETTERS, t_DIGITS := t_DIGITS, t_LONGEST := t_LONGEST, p_KEPT := p_KEPT, fl_Env := fl_Env, rl_Env := rl_Env, fp_Env := fp_Env, rp_Env := rp_Env } : Ad) :=
    { F_is_word := F_is_word,
      b_is_word := b_is_word,
      g_is_word := PySem.W.mg_of X G a_is_word,
      k_is_word := k_is_word,
      F_is_identifier := F_is_identifier,
      b_is_identifier := b_is_identifier,
      g_is_identifier := PySem.W.mg_of X G a_is_identifier,
      k_is_identifier := k_is_identifier,
      F_is_value := F_is_value,
      b_is_value := b_is_value,
      g_is_value := PySem.W.mg_of X G a_is_value,
      k_is_value := k_is_value,
      F_check_pair := F_check_pair,
      b_check_pair := b_check_pair,
      g_check_pair := PySem.W.mg_of X G a_check_pair,
      k_check_pair := k_check_pair,
      F_ascending := F_ascending,
      b_ascending := b_ascending,
      g_ascending := PySem.W.mg_of X G a_ascending,
      k_ascending := k_ascending,
      F_bindings_of := F_bindings_of,
      b_bindings_of := b_bindings_of,
      g_bindings_of := PySem.W.mg_of X G a_bindings_of,
      k_bindings_of := k_bindings_of,
      F_Env_init := F_Env_init,
      b_Env_init := b_Env_init,
      mk_Env := ⟨mk_Env, a_Env_init, i_Env_init, kc_Env⟩,
      F_Env_eq := F_Env_eq,
      b_Env_eq := b_Env_eq,
      m_Env_eq := ⟨a_Env_eq, i_Env_eq, k_Env_eq⟩,
      F_Env_or := F_Env_or,
      b_Env_or := b_Env_or,
      m_Env_or := ⟨a_Env_or, i_Env_or, k_Env_or⟩,
      F_Env_sub := F_Env_sub,
      b_Env_sub := b_Env_sub,
      m_Env_sub := ⟨a_Env_sub, i_Env_sub, k_Env_sub⟩,
      F_Env_listed := F_Env_listed,
      b_Env_listed := b_Env_listed,
      m_Env_listed := ⟨a_Env_listed, i_Env_listed, k_Env_listed⟩,
      F_Env_only := F_Env_only,
      b_Env_only := b_Env_only,
      m_Env_only := ⟨a_Env_only, i_Env_only, k_Env_only⟩,
      F_Env_within := F_Env_within,
      b_Env_within := b_Env_within,
      m_Env_within := ⟨a_Env_within, i_Env_within, k_Env_within⟩,
      F_law_state := F_law_state,
      b_law_state := b_law_state,
      g_law_state := PySem.W.mg_of X G a_law_state,
      k_law_state := k_law_state,
      F_law_draw := F_law_draw,
      b_law_draw := b_law_draw,
      g_law_draw := PySem.W.mg_of X G a_law_draw,
      k_law_draw := k_law_draw,
      F_law_kept_words := F_law_kept_words,
      b_law_kept_words := b_law_kept_words,
      g_law_kept_words := PySem.W.mg_of X G a_law_kept_words,
      k_law_kept_words := k_law_kept_words,
      F_law_name := F_law_name,
      b_law_name := b_law_name,
      g_law_name := PySem.W.mg_of X G a_law_name,
      k_law_name := k_law_name,
      F_law_names := F_law_names,
      b_law_names := b_law_names,
      g_law_names := PySem.W.mg_of X G a_law_names,
      k_law_names := k_law_names,
      F_law_value := F_law_value,
      b_law_value := b_law_value,
      g_law_value := PySem.W.mg_of X G a_law_value,
      k_law_value := k_law_value,
      F_law_changed := F_law_changed,
      b_law_changed := b_law_changed,
      g_law_changed := PySem.W.mg_of X G a_law_changed,
      k_law_changed := k_law_changed,
      F_law_within := F_law_within,
      b_law_within := b_law_within,
      g_law_within := PySem.W.mg_of X G a_law_within,
      k_law_within := k_law_within,
      F_law_pairs := F_law_pairs,
      b_law_pairs := b_law_pairs,
      g_law_pairs := PySem.W.mg_of X G a_law_pairs,
      k_law_pairs := k_law_pairs,
      F_law := F_law,
      b_law := b_law,
      g_law := PySem.W.mg_of X G a_law,
      k_law := k_law,
      c_Env := ⟨pg_Env, hd_Env, po_Env, sa_Env⟩,
      i_Env := ⟨⟨pg_Env, hd_Env, po_Env, sa_Env⟩, ha_Env, hng, htk, hm_Env⟩,
      g_Env := PySem.W.mg_of X G aC_Env,
      n_Env_table := n_Env_table,
      op_Env := ⟨o_sf, o_hs, i_Env_or⟩,
      opS_Env := ⟨o_sf, o_ss, i_Env_sub⟩,
      opL_Env := ⟨o_sr, Or.inl rfl, o_l1, o_l2, o_l3⟩,
      opP_Env := ⟨o_sr, Or.inl rfl, o_p1, o_p2, o_p3⟩,
      eq_Env := ⟨a_Env_eq, i_Env_eq, o_ne, hm_Env, o_s1⟩,
      kit_dE := kit_of o_kc o_kt o_s1 rfl,
      z_len := PySem.W.mg_none_of X G z_len,
      z_int := PySem.W.mg_none_of X G z_int,
      z_abs := PySem.W.mg_none_of X G z_abs,
      z_str := PySem.W.mg_none_of X G z_str,
      z_all := PySem.W.mg_none_of X G z_all,
      z_tuple := PySem.W.mg_none_of X G z_tuple,
      z_dict := PySem.W.mg_none_of X G z_dict,
      z_list := PySem.W.mg_none_of X G z_list,
      z_sorted := PySem.W.mg_none_of X G z_sorted,
      z_isinstance := PySem.W.mg_none_of X G z_isinstance,
      z_range := PySem.W.mg_none_of X G z_range,
      z_bool := PySem.W.mg_none_of X G z_bool,
      g_BEYOND := z_BEYOND,
      g_LETTERS := PySem.W.mg_of X G g_LETTERS,
      g_DIGITS := PySem.W.mg_of X G g_DIGITS,
      g_LONGEST := PySem.W.mg_of X G g_LONGEST,
      g_KEPT := PySem.W.mg_of X G g_KEPT,
      r_KEPT := fun nf H => .tup (.inr ⟨_, _, _, l_KEPT, rfl, rfl, s_KEPT, v_KEPT⟩) (by unfold keptV; repeat first | exact Rels.nil | refine Rels.cons (Rel.str _) ?_) }
  exact ⟨_, _, fun s v => .of_eq rfl, ⟨_, rfl⟩, fun base _ _ => ok_law T⟩
end K30
open PySem PySem.W PyProof.Rows
set_option maxRecDepth 100000 in
set_option maxHeartbeats 0 in
theorem PySem.Challenge.cw_bindspan_k30_env_parts_holds : PySem.Challenge.rw_bindspan_k30_env_parts.Holds := by
  refine hd30 ?_
  k_fill
  refine DL.walkD (l := PySem.Challenge.rw_bindspan_k30_env_parts) (k := 8) (x := "_law_script") (S := fun w K sp => ∃ a : K30.Ad, sp = DL.toSp K (K30.nf a) 1 (K30.S_law a)) rfl (by decide) rfl ⟨rfl, by decide, by decide⟩ (fun w h Y => PySem.W.kIn_of Y) ?F ?Z
  case F =>
    intro w mg fa h KX G XX hmg
    have z_BEYOND : ∃ t, mg "BEYOND" = some (.int (10 ^ 1000) t) := by
      obtain ⟨v, e1, e2⟩ := XX.2.val _ (by first | exact List.mem_cons_self | simp)
      cases e2
      exact ⟨_, e1⟩
    refine' K30.all_mk KX G hmg z_BEYOND ?aC_Env ?a_is_word ?l_is_word ?c_is_word ?k_is_word ?a_is_identifier ?l_is_identifier ?c_is_identifier ?k_is_identifier ?a_is_value ?l_is_value ?c_is_value ?k_is_value ?a_check_pair ?l_check_pair ?c_check_pair ?k_check_pair ?a_ascending ?l_ascending ?c_ascending ?k_ascending ?a_bindings_of ?l_bindings_of ?c_bindings_of ?k_bindings_of ?a_Env_init ?i_Env_init ?l_Env_init ?c_Env_init ?k_Env_init ?lt_Env_init ?vt_Env_init ?a_Env_eq ?i_Env_eq ?l_Env_eq ?c_Env_eq ?k_Env_eq ?a_Env_or ?i_Env_or ?l_Env_or ?c_Env_or ?k_Env_or ?a_Env_sub ?i_Env_sub ?l_Env_sub ?c_Env_sub ?k_Env_sub ?a_Env_listed ?i_Env_listed ?l_Env_listed ?c_Env_listed ?k_Env_listed ?a_Env_only ?i_Env_only ?l_Env_only ?c_Env_only ?k_Env_only ?a_Env_within ?i_Env_within ?l_Env_within ?c_Env_within ?k_Env_within ?a_law_state ?l_law_state ?c_law_state ?k_law_state ?a_law_draw ?l_law_draw ?c_law_draw ?k_law_draw ?a_law_kept_words ?l_law_kept_words ?c_law_kept_words ?k_law_kept_words ?a_law_name ?l_law_name ?c_law_name ?k_law_name ?a_law_names ?l_law_names ?c_law_names ?k_law_names ?a_law_value ?l_law_value ?c_law_value ?k_law_value ?a_law_changed ?l_law_changed ?c_law_changed ?k_law_changed ?a_law_within ?l_law_within ?c_law_within ?k_law_within ?a_law_pairs ?l_law_pairs ?c_law_pairs ?k_law_pairs ?a_law ?l_law ?c_law ?k_law ?pg_Env ?hd_Env ?po_Env ?sa_Env ?ha_Env ?hm_Env ?mk_Env ?kc_Env ?n_Env_table ?hng ?htk ?o_sf ?o_hs ?o_ss ?o_sr ?o_l1 ?o_l2 ?o_l3 ?o_p1 ?o_p2 ?o_p3 ?o_s1 ?o_ne ?o_kc ?o_kt ?z_len ?z_int ?z_abs ?z_str ?z_all ?z_tuple ?z_dict ?z_list ?z_sorted ?z_isinstance ?z_range ?z_bool ?g_LETTERS ?e_LETTERS ?g_DIGITS ?e_DIGITS ?g_LONGEST ?e_LONGEST ?g_KEPT ?l_KEPT ?v_KEPT ?s_KEPT
    (case aC_Env => k_is)
    (case a_is_word => k_is)
    (case l_is_word => k_is)
    (case c_is_word => k_is)
    (case k_is_word => k_is)
    (case a_is_identifier => k_is)
    (case l_is_identifier => k_is)
    (case c_is_identifier => k_is)
    (case k_is_identifier => k_is)
    (case a_is_value => k_is)
    (case l_is_value => k_is)
    (case c_is_value => k_is)
    (case k_is_value => k_is)
    (case a_check_pair => k_is)
    (case l_check_pair => k_is)
    (case c_check_pair => k_is)
    (case k_check_pair => k_is)
    (case a_ascending => k_is)
    (case l_ascending => k_is)
    (case c_ascending => k_is)
    (case k_ascending => k_is)
    (case a_bindings_of => k_is)
    (case l_bindings_of => k_is)
    (case c_bindings_of => k_is)
    (case k_bindings_of => k_is)
    (case a_Env_init => k_is)
    (case i_Env_init => k_is)
    (case l_Env_init => k_is)
    (case c_Env_init => k_is)
    (case k_Env_init => k_is)
    (case lt_Env_init => k_is)
    (case vt_Env_init => (repeat first | exact Paired.nil | refine Paired.cons (by first | exact rfl | exact ⟨_, rfl⟩) ?_))
    (case a_Env_eq => k_is)
    (case i_Env_eq => k_is)
    (case l_Env_eq => k_is)
    (case c_Env_eq => k_is)
    (case k_Env_eq => k_is)
    (case a_Env_or => k_is)
    (case i_Env_or => k_is)
    (case l_Env_or => k_is)
    (case c_Env_or => k_is)
    (case k_Env_or => k_is)
    (case a_Env_sub => k_is)
    (case i_Env_sub => k_is)
    (case l_Env_sub => k_is)
    (case c_Env_sub => k_is)
    (case k_Env_sub => k_is)
    (case a_Env_listed => k_is)
    (case i_Env_listed => k_is)
    (case l_Env_listed => k_is)
    (case c_Env_listed => k_is)
    (case k_Env_listed => k_is)
    (case a_Env_only => k_is)
    (case i_Env_only => k_is)
    (case l_Env_only => k_is)
    (case c_Env_only => k_is)
    (case k_Env_only => k_is)
    (case a_Env_within => k_is)
    (case i_Env_within => k_is)
    (case l_Env_within => k_is)
    (case c_Env_within => k_is)
    (case k_Env_within => k_is)
    (case a_law_state => k_is)
    (case l_law_state => k_is)
    (case c_law_state => k_is)
    (case k_law_state => k_is)
    (case a_law_draw => k_is)
    (case l_law_draw => k_is)
    (case c_law_draw => k_is)
    (case k_law_draw => k_is)
    (case a_law_kept_words => k_is)
    (case l_law_kept_words => k_is)
    (case c_law_kept_words => k_is)
    (case k_law_kept_words => k_is)
    (case a_law_name => k_is)
    (case l_law_name => k_is)
    (case c_law_name => k_is)
    (case k_law_name => k_is)
    (case a_law_names => k_is)
    (case l_law_names => k_is)
    (case c_law_names => k_is)
    (case k_law_names => k_is)
    (case a_law_value => k_is)
    (case l_law_value => k_is)
    (case c_law_value => k_is)
    (case k_law_value => k_is)
    (case a_law_changed => k_is)
    (case l_law_changed => k_is)
    (case c_law_changed => k_is)
    (case k_law_changed => k_is)
    (case a_law_within => k_is)
    (case l_law_within => k_is)
    (case c_law_within => k_is)
    (case k_law_within => k_is)
    (case a_law_pairs => k_is)
    (case l_law_pairs => k_is)
    (case c_law_pairs => k_is)
    (case k_law_pairs => k_is)
    (case a_law => k_is)
    (case l_law => k_is)
    (case c_law => k_is)
    (case k_law => k_is)
    (case pg_Env => k_is)
    (case hd_Env => k_is)
    (case po_Env => k_is)
    (case sa_Env => k_is)
    (case ha_Env => k_is)
    (case hm_Env => k_is)
    (case mk_Env => k_is)
    (case kc_Env => k_is)
    (case n_Env_table => k_is)
    (case hng => k_is)
    (case htk => k_is)
    (case o_sf => k_is)
    (case o_hs => k_is)
    (case o_ss => k_is)
    (case o_sr => k_is)
    (case o_l1 => k_is)
    (case o_l2 => k_is)
    (case o_l3 => k_is)
    (case o_p1 => k_is)
    (case o_p2 => k_is)
    (case o_p3 => k_is)
    (case o_s1 => k_is)
    (case o_ne => k_is)
    (case o_kc => k_is)
    (case o_kt => k_is)
    (case z_len => k_is)
    (case z_int => k_is)
    (case z_abs => k_is)
    (case z_str => k_is)
    (case z_all => k_is)
    (case z_tuple => k_is)
    (case z_dict => k_is)
    (case z_list => k_is)
    (case z_sorted => k_is)
    (case z_isinstance => k_is)
    (case z_range => k_is)
    (case z_bool => k_is)
    (case g_LETTERS => k_is)
    (case e_LETTERS => (first | rfl | decide +kernel))
    (case g_DIGITS => k_is)
    (case e_DIGITS => (first | rfl | decide +kernel))
    (case g_LONGEST => k_is)
    (case e_LONGEST => (first | rfl | decide +kernel))
    (case g_KEPT => k_is)
    (case l_KEPT => k_is)
    (case v_KEPT => (repeat first | exact Paired.nil | refine Paired.cons (by first | exact rfl | exact ⟨_, rfl⟩) ?_))
    (case s_KEPT => (first | rfl | decide +kernel))
  case Z =>
    rintro w K sp ⟨a, rfl⟩ H b ns hl hO hS
    exact DL.toSp_start hO hS ⟨ns, rfl, hl, rfl⟩
#print axioms PySem.Challenge.cw_bindspan_k30_env_parts_holds
