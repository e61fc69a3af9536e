import PyProof.Rows.All
import Wide.All
import OpenK.AllK
import Wide.FinOn
import HandS.TupMul
import HandS.ForMost
import HandS.Deep
import HandS.IsInst
import HandS.Zip
import KE.SortData
import KE.DataMinMax
import HandS.TupAny
import HandS.TupLe
import HandS.Style
import HandS.Wide
import KE.DataEq
import PyProof.ListStr
import HandS.Conv
import HandS.DictTup
import HandS.More
import HandS.Iter
import KE.KDictSum
import PyProof.Transfer
import KE.KTupSum
import HandS.Flow
import HandS.Rev
import KE.GoesZip
import KE.GoesEnum
import PyProof.SliceStr2
import HandS.SetFor
import HandS.DictComp
import HandS.Small
import PySem.Challenge.RW_keylanes_k51_whole_turned_regions
set_option Elab.async false
set_option linter.all false
set_option maxRecDepth 100000
set_option maxHeartbeats 1000000
set_option autoImplicit false
namespace VI
open PySem PySem.Spec PyProof.Rows L2

/-! ### values -/
inductive D where
  | non | bl (b : Bool) | int (i : Int) | str (s : List Nat) | tup (ds : List D) | lst (ds : List D)
  deriving Inhabited
abbrev K1 := Sum Int (List Nat)
/-- a thing that is owned: it may be changed in its place -/
inductive Ob where
  | lst (ds : List D) | dK (kvs : List (K1 × D)) | dT (kvs : List (List K1 × D))
  deriving Inhabited
inductive Slot where
  | no | val (d : D) | own (p l : Bool) (o : Ob)
  deriving Inhabited
abbrev Fr := List Slot
inductive Rt where
  | v (d : D) | o (ob : Ob)
  deriving Inhabited
abbrev Lm : Nat := 16777216
def tS (s : List Nat) : Str := ⟨s.toArray⟩
def tK : K1 → L2.Key
  | .inl i => .inl i
  | .inr s => .inr (tS s)
theorem tS_len (s : List Nat) : (tS s).length = s.length := by simp [tS, Str.length]
theorem tS_inj {a b : List Nat} (h : tS a = tS b) : a = b := by
  have := congrArg (fun z : Str => z.cps.toList) h
  simpa [tS] using this
theorem tK_inj {a b : K1} (h : tK a = tK b) : a = b := by
  cases a <;> cases b <;> simp [tK] at h
  · rw [h]
  · rw [tS_inj h]
theorem tKs_inj : ∀ {a b : List K1}, a.map tK = b.map tK → a = b
  | [], [], _ => rfl
  | [], _ :: _, h => by simp at h
  | _ :: _, [], h => by simp at h
  | x :: xs, y :: ys, h => by
    simp only [List.map_cons, List.cons.injEq] at h
    rw [tK_inj h.1, tKs_inj h.2]

/-! ### what a value is in the heap; B: the addresses that are owned -/
abbrev AP := Addr → Prop
def TupB (B : AP) (H : Hp) (a : Addr) (vs : List V) : Prop := ¬ B a ∧ H a = some (.tup vs)
def LstB (K : PySem.W.Frag) (B : AP) (H : Hp) (a : Addr) (vs : List V) : Prop :=
  (¬ B a ∧ Rd H a (.lst vs)) ∨
    ∃ (o : Obj) (its : Array Value) (n : Nat), K.lookup a = some o ∧ o.cls = .type "list" ∧ o.dict = none ∧ o.data = .seq its n ∧ its.size ≤ sizeLine ∧ Vals vs its.toList
theorem TupB.sq {K : PySem.W.Frag} {B : AP} {H : Hp} {a : Addr} {vs : List V} (h : TupB B H a vs) : SqT K H a vs := SqT.of h.2
theorem LstB.sq {K : PySem.W.Frag} {B : AP} {H : Hp} {a : Addr} {vs : List V} (h : LstB K B H a vs) : SqL K H a vs := by
  rcases h with ⟨_, h⟩ | h
  · exact .inl h
  · exact .inr h
section
variable (K : PySem.W.Frag) (B : AP) (H : Hp)
mutual
def Rep : D → V → Prop
  | .non, v => v = .non
  | .bl b, v => v = .bl b
  | .int i, v => v = .int i
  | .str s, v => v = .str (tS s) ∧ s.length ≤ Lm
  | .tup ds, v => ∃ a vs, v = .ref a ∧ TupB B H a vs ∧ Reps ds vs
  | .lst ds, v => ∃ a vs, v = .ref a ∧ LstB K B H a vs ∧ Reps ds vs
def Reps : List D → List V → Prop
  | [], vs => vs = []
  | d :: ds, vs => ∃ v r, vs = v :: r ∧ Rep d v ∧ Reps ds r
end
def OwnAt (a : Addr) : Ob → Prop
  | .lst ds => ∃ vs, H a = some (.lst vs) ∧ Reps K B H ds vs
  | .dK kvs => ∃ kws : List (L2.Key × V), H a = some (.dK kws) ∧ kws.map (·.1) = kvs.map (fun p => tK p.1) ∧ Reps K B H (kvs.map (·.2)) (kws.map (·.2))
  | .dT kvs => ∃ kws : List (List L2.Key × V), H a = some (.dT kws) ∧ kws.map (·.1) = kvs.map (fun p => p.1.map tK) ∧ Reps K B H (kvs.map (·.2)) (kws.map (·.2))
end
section
variable {K : PySem.W.Frag} {B B' : AP} {H H' : Hp}
mutual
/-- values stay where nothing that is not owned is changed, and nothing that stood is owned anew -/
theorem Rep.mv (k : ∀ a o, ¬ B a → H a = some o → H' a = some o) (n : ∀ a, B' a → B a ∨ H a = none) : ∀ (d : D) (v : V), Rep K B H d v → Rep K B' H' d v
  | .non, _, h => h
  | .bl _, _, h => h
  | .int _, _, h => h
  | .str _, _, h => h
  | .tup ds, v, h => by
    obtain ⟨a, vs, e, ⟨nb, ha⟩, r⟩ := h
    refine ⟨a, vs, e, ⟨fun z => ?_, k a _ nb ha⟩, Reps.mv k n ds vs r⟩
    rcases n a z with z | z
    · exact nb z
    · rw [ha] at z; cases z
  | .lst ds, v, h => by
    obtain ⟨a, vs, e, hl, r⟩ := h
    refine ⟨a, vs, e, ?_, Reps.mv k n ds vs r⟩
    rcases hl with ⟨nb, ha⟩ | hl
    · refine .inl ⟨fun z => ?_, ?_⟩
      · rcases n a z with z | z
        · exact nb z
        · rcases ha with ha | ⟨o, ha⟩ <;> (rw [ha] at z; cases z)
      · rcases ha with ha | ⟨o, ha⟩
        · exact .inl (k a _ nb ha)
        · exact .inr ⟨o, k a _ nb ha⟩
    · exact .inr hl
theorem Reps.mv (k : ∀ a o, ¬ B a → H a = some o → H' a = some o) (n : ∀ a, B' a → B a ∨ H a = none) : ∀ (ds : List D) (vs : List V), Reps K B H ds vs → Reps K B' H' ds vs
  | [], _, h => h
  | d :: ds, vs, h => by
    obtain ⟨v, r, e, h1, h2⟩ := h
    exact ⟨v, r, e, Rep.mv k n d v h1, Reps.mv k n ds r h2⟩
end
theorem OwnAt.mv {a : Addr} {o : Ob} (k : ∀ a o, ¬ B a → H a = some o → H' a = some o) (n : ∀ a, B' a → B a ∨ H a = none) (ha : ∀ u, H a = some u → H' a = some u) (h : OwnAt K B H a o) : OwnAt K B' H' a o := by
  cases o with
  | lst ds => obtain ⟨vs, e, r⟩ := h; exact ⟨vs, ha _ e, Reps.mv k n _ _ r⟩
  | dK kvs => obtain ⟨vs, e, e2, r⟩ := h; exact ⟨vs, ha _ e, e2, Reps.mv k n _ _ r⟩
  | dT kvs => obtain ⟨vs, e, e2, r⟩ := h; exact ⟨vs, ha _ e, e2, Reps.mv k n _ _ r⟩
theorem OwnAt.tr {a : Addr} {o : Ob} (h : OwnAt K B H a o) : H a ≠ none := by
  cases o <;> (obtain ⟨vs, e, _⟩ := h; rw [e]; intro z; cases z)
theorem OwnAt.mut {a : Addr} {o : Ob} (h : OwnAt K B H a o) : Mut (H a) := by
  cases o <;> (obtain ⟨vs, e, _⟩ := h; rw [e]; trivial)
theorem Reps.length : ∀ {ds : List D} {vs : List V}, Reps K B H ds vs → vs.length = ds.length
  | [], vs, h => by
    rw [show vs = [] from h]
    rfl
  | d :: ds, vs, h => by
    obtain ⟨v, r, e, _, h2⟩ := h
    rw [e, List.length_cons, List.length_cons, Reps.length h2]
theorem Reps.get : ∀ {ds : List D} {vs : List V} {i : Nat} {d : D}, Reps K B H ds vs → ds[i]? = some d → ∃ v, vs[i]? = some v ∧ Rep K B H d v
  | [], _, _, _, _, e => by simp at e
  | d :: ds, vs, 0, d', h, e => by
    obtain ⟨v, r, rfl, h1, _⟩ := h
    simp at e; subst e
    exact ⟨v, rfl, h1⟩
  | d :: ds, vs, i + 1, d', h, e => by
    obtain ⟨v, r, rfl, _, h2⟩ := h
    obtain ⟨w, e1, e2⟩ := Reps.get (i := i) (d := d') h2 (by simpa using e)
    exact ⟨w, by simpa using e1, e2⟩
theorem Reps.append : ∀ {ds es : List D} {vs ws : List V}, Reps K B H ds vs → Reps K B H es ws → Reps K B H (ds ++ es) (vs ++ ws)
  | [], _, _, _, h, h' => by rw [show _ = [] from h]; exact h'
  | d :: ds, es, vs, ws, h, h' => by
    obtain ⟨v, r, rfl, h1, h2⟩ := h
    exact ⟨v, r ++ ws, rfl, h1, Reps.append h2 h'⟩
theorem Reps.rep {ds : List D} {vs : List V} (h : Reps K B H ds vs) : ∀ n : Nat, Reps K B H (List.replicate n ds).flatten (List.replicate n vs).flatten
  | 0 => by simp [Reps]
  | n + 1 => by
    rw [List.replicate_succ, List.flatten_cons, List.replicate_succ, List.flatten_cons]
    exact Reps.append h (Reps.rep h n)
theorem Reps.one {d : D} {v : V} (h : Rep K B H d v) : Reps K B H [d] [v] := ⟨v, [], rfl, h, rfl⟩
theorem Reps.take : ∀ {ds : List D} {vs : List V} (n : Nat), Reps K B H ds vs → Reps K B H (ds.take n) (vs.take n)
  | _, _, 0, _ => by simp [Reps]
  | [], _, n + 1, h => by rw [show _ = [] from h]; simp [Reps]
  | d :: ds, vs, n + 1, h => by
    obtain ⟨v, r, rfl, h1, h2⟩ := h
    exact ⟨v, r.take n, rfl, h1, Reps.take n h2⟩
theorem Reps.drop : ∀ {ds : List D} {vs : List V} (n : Nat), Reps K B H ds vs → Reps K B H (ds.drop n) (vs.drop n)
  | _, _, 0, h => by simpa using h
  | [], _, n + 1, h => by rw [show _ = [] from h]; simp [Reps]
  | d :: ds, vs, n + 1, h => by
    obtain ⟨v, r, rfl, h1, h2⟩ := h
    exact Reps.drop n h2
theorem Reps.reverse : ∀ {ds : List D} {vs : List V}, Reps K B H ds vs → Reps K B H ds.reverse vs.reverse
  | [], _, h => by rw [show _ = [] from h]; simp [Reps]
  | d :: ds, vs, h => by
    obtain ⟨v, r, rfl, h1, h2⟩ := h
    rw [List.reverse_cons, List.reverse_cons]
    exact Reps.append (Reps.reverse h2) (Reps.one h1)
theorem Reps.set {d : D} {v : V} (h0 : Rep K B H d v) : ∀ {ds : List D} {vs : List V} (n : Nat), Reps K B H ds vs → Reps K B H (ds.set n d) (vs.set n v)
  | [], _, n, h => by rw [show _ = [] from h]; simp [Reps]
  | d :: ds, vs, 0, h => by
    obtain ⟨v, r, rfl, h1, h2⟩ := h
    exact ⟨_, r, rfl, h0, h2⟩
  | d :: ds, vs, n + 1, h => by
    obtain ⟨v, r, rfl, h1, h2⟩ := h
    exact ⟨v, r.set n _, rfl, h1, Reps.set h0 n h2⟩
end

/-! ### frames -/
abbrev Om := Nat → Option Addr
def Owned (m : Om) : AP := fun a => ∃ i, m i = some a
def BB (m : Om) (T : AP) : AP := fun a => Owned m a ∨ T a
structure Sim (K : PySem.W.Frag) (T : AP) (σ : L2.St) (H : Hp) (f : Fr) (m : Om) : Prop where
  len : f.length = σ.length
  val : ∀ (i : Nat) (d : D), f[i]? = some (.val d) → ∃ v, σ[i]? = some (some v) ∧ Rep K (BB m T) H d v
  own : ∀ (i : Nat) (p l : Bool) (o : Ob), f[i]? = some (.own p l o) → ∃ a, m i = some a ∧ σ[i]? = some (some (.ref a)) ∧ OwnAt K (BB m T) H a o
  dom : ∀ (i : Nat) (a : Addr), m i = some a → ∃ p l o, f[i]? = some (.own p l o)
  inj : ∀ (i j : Nat) (a : Addr), m i = some a → m j = some a → i = j
  tmp : ∀ (i : Nat) (a : Addr), m i = some a → ¬ T a
  tr : ∀ (a : Addr), T a → H a ≠ none
  ntp : ∀ (a : Addr) (xs : List V), T a → H a ≠ some (.tup xs)
/-- from one state to a later one: what is not owned stays, what is owned anew was free -/
structure Step (m : Om) (T : AP) (H : Hp) (m' : Om) (T' : AP) (H' : Hp) : Prop where
  keep : ∀ a o, H a = some o → ¬ Owned m a → H' a = some o
  own : ∀ a, Owned m' a → Owned m a ∨ H a = none
  tmp : ∀ a, T' a → T a ∨ H a = none
  dom : ∀ a, H' a = none → H a = none
theorem Step.refl {m : Om} {T : AP} {H : Hp} : Step m T H m T H := ⟨fun _ _ h _ => h, fun _ h => .inl h, fun _ h => .inl h, fun _ h => h⟩
theorem Step.trans {m1 m2 m3 : Om} {T1 T2 T3 : AP} {H1 H2 H3 : Hp} (a : Step m1 T1 H1 m2 T2 H2) (b : Step m2 T2 H2 m3 T3 H3) : Step m1 T1 H1 m3 T3 H3 where
  keep := fun c o h n => b.keep c o (a.keep c o h n) fun z => by
    rcases a.own c z with z | z
    · exact n z
    · rw [h] at z; cases z
  own := fun c h => by
    rcases b.own c h with h | h
    · exact a.own c h
    · exact .inr (a.dom c h)
  tmp := fun c h => by
    rcases b.tmp c h with h | h
    · exact a.tmp c h
    · exact .inr (a.dom c h)
  dom := fun c h => a.dom c (b.dom c h)
section
variable {K : PySem.W.Frag} {m m' : Om} {T T' : AP} {H H' : Hp} {σ : L2.St} {f : Fr}
theorem Step.bb (s : Step m T H m' T' H') : ∀ a, BB m' T' a → BB m T a ∨ H a = none := fun a h => by
  rcases h with h | h
  · rcases s.own a h with h | h
    · exact .inl (.inl h)
    · exact .inr h
  · rcases s.tmp a h with h | h
    · exact .inl (.inr h)
    · exact .inr h
theorem Step.kb (s : Step m T H m' T' H') : ∀ a o, ¬ BB m T a → H a = some o → H' a = some o := fun a o n h => s.keep a o h fun z => n (.inl z)
theorem Rep.st {d : D} {v : V} (h : Rep K (BB m T) H d v) (s : Step m T H m' T' H') : Rep K (BB m' T') H' d v := Rep.mv s.kb s.bb d v h
theorem Reps.st {ds : List D} {vs : List V} (h : Reps K (BB m T) H ds vs) (s : Step m T H m' T' H') : Reps K (BB m' T') H' ds vs := Reps.mv s.kb s.bb ds vs h
theorem OwnAt.st {a : Addr} {o : Ob} (h : OwnAt K (BB m T) H a o) (n : ¬ Owned m a) (s : Step m T H m' T' H') : OwnAt K (BB m' T') H' a o := OwnAt.mv s.kb s.bb (fun u e => s.keep a u e n) h
theorem Sim.nt (S : Sim K T σ H f m) {a : Addr} (h : T a) : ¬ Owned m a := fun ⟨i, e⟩ => S.tmp i a e h
theorem Sim.owned (S : Sim K T σ H f m) {a : Addr} (h : Owned m a) : H a ≠ none := by
  obtain ⟨i, e⟩ := h
  obtain ⟨p, l, o, ef⟩ := S.dom i a e
  obtain ⟨b, e1, _, e3⟩ := S.own i p l o ef
  rw [e] at e1; cases e1
  exact e3.tr
/-- a new object, not owned by the frame -/
theorem Step.new {a : Addr} {o : HO} (ha : H a = none) (T' : AP) (ht : ∀ b, T' b → T b ∨ b = a) : Step m T H m T' (upd H a o) where
  keep := fun b u h _ => by rw [upd_ne (ne_of_none h ha)]; exact h
  own := fun b h => .inl h
  tmp := fun b h => (ht b h).elim .inl fun e => .inr (by rw [e]; exact ha)
  dom := fun b h => by
    by_cases e : b = a
    · rw [e]; exact ha
    · rw [upd_ne e] at h; exact h
/-- the frame is as it was, the heap has moved by a step that owns nothing anew and keeps what the frame owns -/
theorem Sim.move (S : Sim K T σ H f m) (s : Step m T H m T' H') (ho : ∀ a o, Owned m a → H a = some o → H' a = some o) (ht : ∀ a, Owned m a → ¬ T' a) (htr : ∀ a, T' a → H' a ≠ none) (htp : ∀ a xs, T' a → H' a ≠ some (.tup xs)) : Sim K T' σ H' f m where
  len := S.len
  val := fun i d e => by
    obtain ⟨v, e1, r⟩ := S.val i d e
    exact ⟨v, e1, r.st s⟩
  own := fun i p l o e => by
    obtain ⟨a, e1, e2, r⟩ := S.own i p l o e
    exact ⟨a, e1, e2, OwnAt.mv s.kb s.bb (fun u h => ho a u ⟨i, e1⟩ h) r⟩
  dom := S.dom
  inj := S.inj
  tmp := fun i a e => ht a ⟨i, e⟩
  tr := htr
  ntp := htp
theorem upd_tr {a b : Addr} {o : HO} (h : H b ≠ none) : upd H a o b ≠ none := by
  unfold upd
  split
  · intro z; cases z
  · exact h
theorem Sim.ne_new {a b : Addr} (S : Sim K T σ H f m) (ha : H a = none) (hb : T b) : b ≠ a := fun z => S.tr b hb (by rw [z]; exact ha)
theorem Sim.new {a : Addr} {o : HO} (S : Sim K T σ H f m) (ha : H a = none) : Sim K T σ (upd H a o) f m :=
  S.move (Step.new ha T fun b h => .inl h) (fun b u hb h => by rw [upd_ne (ne_of_none h ha)]; exact h) (fun b hb => let ⟨i, e⟩ := hb; S.tmp i b e) (fun b hb => upd_tr (S.tr b hb)) fun b xs hb => by
    rw [upd_ne (S.ne_new ha hb)]; exact S.ntp b xs hb
/-- .. a new temporary -/
def TT1 (T : AP) (a : Addr) : AP := fun b => T b ∨ b = a
theorem Sim.newT {a : Addr} {o : HO} (S : Sim K T σ H f m) (ha : H a = none) (ho : ∀ xs, o ≠ .tup xs := by intro xs z; cases z) : Sim K (TT1 T a) σ (upd H a o) f m :=
  S.move (Step.new ha (TT1 T a) fun b h => h) (fun b u hb h => by rw [upd_ne (ne_of_none h ha)]; exact h) (fun b hb h => by
    rcases h with h | h
    · obtain ⟨i, e⟩ := hb; exact S.tmp i b e h
    · exact S.owned hb (by rw [h]; exact ha)) (fun b hb => by
    rcases hb with hb | hb
    · exact upd_tr (S.tr b hb)
    · rw [hb, upd_same]; intro z; cases z) fun b xs hb => by
    rcases hb with hb | hb
    · rw [upd_ne (S.ne_new ha hb)]; exact S.ntp b xs hb
    · rw [hb, upd_same]; intro z; exact ho xs (Option.some.inj z)
/-- fewer temporaries -/
theorem Sim.lessT (S : Sim K T σ H f m) (h : ∀ a, T' a → T a) : Sim K T' σ H f m where
  len := S.len
  val := fun i d e => by
    obtain ⟨v, e1, r⟩ := S.val i d e
    exact ⟨v, e1, Rep.mv (fun _ _ _ e => e) (fun a z => .inl (z.elim .inl fun z => .inr (h a z))) d v r⟩
  own := fun i p l o e => by
    obtain ⟨a, e1, e2, r⟩ := S.own i p l o e
    exact ⟨a, e1, e2, OwnAt.mv (fun _ _ _ e => e) (fun a z => .inl (z.elim .inl fun z => .inr (h a z))) (fun _ e => e) r⟩
  dom := S.dom
  inj := S.inj
  tmp := fun i a e z => S.tmp i a e (h a z)
  tr := fun a z => S.tr a (h a z)
  ntp := fun a xs z => S.ntp a xs (h a z)
/-- no owned thing, no temporary is a tuple -/
theorem Sim.noTup (S : Sim K T σ H f m) {a : Addr} {xs : List V} (e : H a = some (.tup xs)) : ¬ BB m T a := fun z => by
  rcases z with ⟨i, z⟩ | z
  · obtain ⟨p, l, o, ef⟩ := S.dom i a z
    obtain ⟨b, e1, _, e3⟩ := S.own i p l o ef
    rw [z] at e1; cases e1
    cases o <;> (obtain ⟨vs, e4, _⟩ := e3; rw [e] at e4; cases e4)
  · exact S.ntp a xs z e
end
/-- a slot is taken out of the owned ones -/
def Om.out (m : Om) (i : Nat) : Om := fun j => if j = i then none else m j
def Om.put (m : Om) (i : Nat) (a : Addr) : Om := fun j => if j = i then some a else m j
theorem Om.out_own {m : Om} {i : Nat} {a : Addr} (h : Owned (m.out i) a) : Owned m a := by
  obtain ⟨j, e⟩ := h
  unfold Om.out at e
  split at e
  · cases e
  · exact ⟨j, e⟩
theorem Om.out_some {m : Om} {i j : Nat} {a : Addr} (h : m.out i j = some a) : j ≠ i ∧ m j = some a := by
  unfold Om.out at h
  split at h
  · cases h
  · exact ⟨by assumption, h⟩
theorem Om.put_some {m : Om} {i j : Nat} {a b : Addr} (h : m.put i a j = some b) : (j = i ∧ b = a) ∨ (j ≠ i ∧ m j = some b) := by
  unfold Om.put at h
  split at h
  · cases h; exact .inl ⟨by assumption, rfl⟩
  · exact .inr ⟨by assumption, h⟩
theorem Om.put_same {m : Om} {i : Nat} {a : Addr} : m.put i a i = some a := by unfold Om.put; rw [if_pos rfl]
theorem Om.put_ne {m : Om} {i j : Nat} {a : Addr} (h : j ≠ i) : m.put i a j = m j := by unfold Om.put; rw [if_neg h]
theorem Om.out_ne {m : Om} {i j : Nat} (h : j ≠ i) : m.out i j = m j := by unfold Om.out; rw [if_neg h]
end VI

set_option Elab.async false
set_option linter.all false
set_option maxRecDepth 100000
set_option maxHeartbeats 1000000
set_option autoImplicit false
namespace VI
open PySem PySem.Spec PyProof.Rows L2

inductive BO where
  | add | sub | mul | fdiv | mod | pow
  deriving DecidableEq
inductive CO where
  | lt | le | gt | ge | eq | ne | is_ | isn | in_ | nin
  deriving DecidableEq
mutual
inductive Tg where
  | nm (i : Nat) | tp (ts : Tgs)
inductive Tgs where
  | nil | cons (t : Tg) (r : Tgs)
end
mutual
inductive Ex where
  | var (i : Nat)
  | cst (x : String) (d : D)
  | lit (d : D)
  | op (o : BO) (a b : Ex)
  | neg (a : Ex)
  | nt (a : Ex)
  | cmp (o : CO) (a b : Ex)
  | ch2 (o o1 : CO) (a b c : Ex)
  | ch3 (o o1 o2 : CO) (a b c d : Ex)
  | bool (con : Bool) (es : Exs)
  | ite (c : Tx) (a b : Ex)
  | tup (es : Exs)
  | lst (es : Exs)
  | dct (t : Bool) (ks vs : Exs)
  | dsp (t : Bool) (ps : Kvs)
  | ix (a i : Ex)
  | sl (a : Ex) (lo hi : Exo)
  | rev (a : Ex)
  | sit (a : Ex)
  | lr1 (a : Ex)
  | lr2 (a b : Ex)
  | call (g : String) (es : Exs)
  | b (g : String) (es : Exs)
  | isi (a : Ex) (ts : List String)
  | m (g : String) (a : Ex) (es : Exs)
  | gt (a k d : Ex)
  | pop (i : Nat)
  | sset (a : Ex)
  | sdc (own : List Nat) (tg : Tg) (it : It) (k v : Ex)
  | sdc2 (own own1 : List Nat) (tg : Tg) (it : It) (tg1 : Tg) (it1 : It) (k v : Ex)
  | lc (own : List Nat) (tg : Tg) (it : It) (c : Txo) (e : Ex)
  | lc2 (own own1 : List Nat) (tg : Tg) (it : It) (c : Txo) (tg1 : Tg) (it1 : It) (c1 : Txo) (e : Ex)
inductive Exs where
  | nil | cons (e : Ex) (r : Exs)
inductive Kvs where
  | nil | cons (k v : Ex) (r : Kvs)
inductive Tx where
  | bool (con : Bool) (es : Txs) | nt (t : Tx) | ite (c a b : Tx) | ex (e : Ex)
inductive Txs where
  | nil | cons (e : Tx) (r : Txs)
inductive Txo where
  | no | so (e : Tx)
inductive Exo where
  | no | so (e : Ex)
inductive It where
  | ex (e : Ex) | r1 (a : Ex) | r2 (a b : Ex) | r3 (a b c : Ex) | en (a : Ex) | zp (a b : Ex) | its (a : Ex)
end
mutual
inductive Cm where
  | pass | brk | cnt | never
  | ex (e : Ex)
  | ret (e : Ex) | retn
  | asg (i : Nat) (e : Ex)
  | asgt (t : Tg) (e : Ex)
  | par (is : List Nat) (es : Exs)
  | aug (i : Nat) (o : BO) (e : Ex)
  | sset (i : Nat) (k e : Ex)
  | saug (i : Nat) (k : Ex) (o : BO) (e : Ex)
  | app (i : Nat) (e : Ex)
  | ife (c : Tx) (a b : Cms)
  | whl (c : Tx) (b : Cms)
  | fr (t : Tg) (it : It) (b : Cms)
inductive Cms where
  | nil | cons (s : Cm) (r : Cms)
end

/-! ### what operators give -/
inductive R (α : Type) where
  | ok (a : α) (f : Fr) | bad
def R.bind {α β : Type} (x : R α) (k : α → Fr → R β) : R β := match x with
  | .ok a f => k a f
  | .bad => .bad
@[simp] theorem R.bind_ok {α β : Type} (a : α) (f : Fr) (k : α → Fr → R β) : (R.ok a f).bind k = k a f := rfl
@[simp] theorem R.bind_bad {α β : Type} (k : α → Fr → R β) : (R.bad : R α).bind k = .bad := rfl
def ofO {α : Type} (f : Fr) : Option α → R α
  | some a => .ok a f
  | none => .bad
@[simp] theorem ofO_some {α : Type} (f : Fr) (a : α) : ofO f (some a) = .ok a f := rfl
@[simp] theorem ofO_none {α : Type} (f : Fr) : ofO f (none : Option α) = .bad := rfl

def fz : Rt → Option D
  | .v d => some d
  | .o (.lst ds) => some (.lst ds)
  | _ => none
def truth : Rt → Option Bool
  | .v .non => some false
  | .v (.bl b) => some b
  | .v (.int i) => some (i != 0)
  | .v (.str s) => some ((s.length : Int) != 0)
  | .v (.tup ds) => some (!ds.isEmpty)
  | .v (.lst ds) => some (!ds.isEmpty)
  | .o (.lst ds) => some (!ds.isEmpty)
  | _ => none
mutual
def toPy : D → PyData
  | .non => .none
  | .bl b => .bool b
  | .int i => .int i
  | .str s => .str (tS s)
  | .tup ds => .tuple (toPys ds)
  | .lst ds => .list (toPys ds)
def toPys : List D → List PyData
  | [] => []
  | d :: ds => toPy d :: toPys ds
end
mutual
/-- == of values -/
def eqD : D → D → Bool
  | .non, .non => true
  | .bl a, .bl b => a == b
  | .bl a, .int j => (if a then 1 else 0) == j
  | .int i, .bl b => i == (if b then 1 else 0)
  | .int i, .int j => decide (i = j)
  | .str x, .str y => decide (x = y)
  | .tup xs, .tup ys => eqDs xs ys
  | .lst xs, .lst ys => eqDs xs ys
  | _, _ => false
def eqDs : List D → List D → Bool
  | [], [] => true
  | x :: xs, y :: ys => eqD x y && eqDs xs ys
  | _, _ => false
end
mutual
def dpt : D → Nat
  | .tup ds => dpts ds + 1
  | .lst ds => dpts ds + 1
  | _ => 0
def dpts : List D → Nat
  | [] => 0
  | d :: ds => max (dpt d) (dpts ds)
end
def isScal : D → Bool
  | .tup _ => false
  | .lst _ => false
  | _ => true
def mulOk (i j : Int) : Bool := Nat.ble i.natAbs 18446744073709551615 || Nat.ble j.natAbs 18446744073709551615
def wmOk (i j : Int) : Bool := Nat.ble (i.natAbs.log2 + j.natAbs.log2) 100000
def wdOk (j : Int) : Bool := decide (0 < j) && Nat.ble j.natAbs.log2 8000
def opD : BO → Rt → Rt → Option Rt
  | .add, .v (.int i), .v (.int j) => some (.v (.int (i + j)))
  | .add, .v (.str x), .v (.str y) => if x.length + y.length ≤ Lm then some (.v (.str (x ++ y))) else none
  | .add, .v (.tup x), .v (.tup y) => if x.length + y.length ≤ Lm then some (.v (.tup (x ++ y))) else none
  | .add, .v (.lst x), .v (.lst y) => if x.length + y.length ≤ Lm then some (.o (.lst (x ++ y))) else none
  | .add, .v (.lst x), .o (.lst y) => if x.length + y.length ≤ Lm then some (.o (.lst (x ++ y))) else none
  | .add, .o (.lst x), .v (.lst y) => if x.length + y.length ≤ Lm then some (.o (.lst (x ++ y))) else none
  | .add, .o (.lst x), .o (.lst y) => if x.length + y.length ≤ Lm then some (.o (.lst (x ++ y))) else none
  | .sub, .v (.int i), .v (.int j) => some (.v (.int (i - j)))
  | .mul, .v (.int i), .v (.int j) => if mulOk i j = true ∨ wmOk i j = true then some (.v (.int (i * j))) else none
  | .mul, .o (.lst x), .v (.int k) => if Nat.ble k.natAbs 1000000 = true ∧ x.length * k.toNat ≤ Lm then some (.o (.lst (List.replicate k.toNat x).flatten)) else none
  | .mul, .v (.tup x), .v (.int k) => if x.isEmpty = false ∧ Nat.ble 2 k.toNat = true ∧ Nat.ble k.toNat 1000 = true ∧ x.length ≤ 1000 then some (.v (.tup (List.replicate k.toNat x).flatten)) else none
  | .fdiv, .v (.int i), .v (.int j) => if (j ≠ 0 ∧ j.natAbs < 1073741824) ∨ wdOk j = true then some (.v (.int (i.fdiv j))) else none
  | .mod, .v (.int i), .v (.int j) => if j ≠ 0 then some (.v (.int (i.fmod j))) else none
  | .pow, .v (.int i), .v (.int j) => if 0 ≤ j ∧ j ≤ 1000000 ∧ i.natAbs < 2 ^ 64 then some (.v (.int (i ^ j.toNat))) else none
  | _, _, _ => none
/-- a key as a value -/
def kD : K1 → D
  | .inl i => .int i
  | .inr s => .str s
def smB : K1 → Bool
  | .inl _ => true
  | .inr s => decide (s.length ≤ Lm)
/-- the keys of a dict, the entries of a dict -/
def keysR : Rt → Option (List D)
  | .o (.dK kvs) => if (kvs.all fun p => smB p.1) = true then some (kvs.map fun p => kD p.1) else none
  | .o (.dT kvs) => if (kvs.all fun p => p.1.all smB) = true then some (kvs.map fun p => .tup (p.1.map kD)) else none
  | _ => none
def entsR : Rt → Option (List (D × D))
  | .o (.dK kvs) => if (kvs.all fun p => smB p.1) = true then some (kvs.map fun p => (kD p.1, p.2)) else none
  | .o (.dT kvs) => if (kvs.all fun p => p.1.all smB) = true then some (kvs.map fun p => (.tup (p.1.map kD), p.2)) else none
  | _ => none
def prD (p : D × D) : D := .tup [p.1, p.2]
def seqR : Rt → Option (List D)
  | .v (.tup ds) => some ds
  | .v (.lst ds) => some ds
  | .o (.lst ds) => some ds
  | _ => none
def lstR : Rt → Option (List D)
  | .v (.lst ds) => some ds
  | .o (.lst ds) => some ds
  | _ => none
def intL : List D → Option (List Int)
  | [] => some []
  | .int i :: r => (intL r).map (i :: ·)
  | _ => none
def boolL : List D → Option (List Bool)
  | [] => some []
  | .bl i :: r => (boolL r).map (i :: ·)
  | _ => none
def strL : List D → Option (List (List Nat))
  | [] => some []
  | .str i :: r => (strL r).map (i :: ·)
  | _ => none
/-- a key of a dict -/
def key1 : Rt → Option K1
  | .v (.int i) => some (.inl i)
  | .v (.str s) => some (.inr s)
  | _ => none
def keys1 : List D → Option (List K1)
  | [] => some []
  | d :: r => (key1 (.v d)).bind fun k => (keys1 r).map (k :: ·)
def keyT : Rt → Option (List K1)
  | .v (.tup ds) => keys1 ds
  | _ => none
def look {κ : Type} [DecidableEq κ] (kvs : List (κ × D)) (k : κ) : Option D := (kvs.find? fun kv => decide (kv.1 = k)).map (·.2)
def put {κ : Type} [DecidableEq κ] (kvs : List (κ × D)) (k : κ) (v : D) : List (κ × D) :=
  if (kvs.any fun kv => decide (kv.1 = k)) = true then kvs.map (fun kv => if kv.1 = k then (kv.1, v) else kv) else kvs ++ [(k, v)]
/-- what a dict holds at a key -/
def dget : Ob → Rt → Option (Option D)
  | .dK kvs, r => (key1 r).map (look kvs)
  | .dT kvs, r => (keyT r).map (look kvs)
  | _, _ => none
def dput : Ob → Rt → D → Option Ob
  | .dK kvs, r, v => (key1 r).bind fun k => if kvs.length < Lm then some (.dK (put kvs k v)) else none
  | .dT kvs, r, v => (keyT r).bind fun k => if kvs.length < Lm then some (.dT (put kvs k v)) else none
  | _, _, _ => none
/-- is y of one sign in x -/
def eqR (x y : Rt) : Option Bool :=
  match x, y with
  | .v a, .v b => if min (dpt a) (dpt b) ≤ 60 then some (eqD a b) else none
  | .o (.lst xs), .v b => if min (dpts xs + 1) (dpt b) ≤ 60 then some (eqD (.lst xs) b) else none
  | .v a, .o (.lst ys) => if min (dpt a) (dpts ys + 1) ≤ 60 then some (eqD a (.lst ys)) else none
  | .o (.lst xs), .o (.lst ys) => if min (dpts xs + 1) (dpts ys + 1) ≤ 60 then some (eqDs xs ys) else none
  | _, _ => none
def lexLtI : List Int → List Int → Bool
  | [], [] => false
  | [], _ :: _ => true
  | _ :: _, [] => false
  | x :: xs, y :: ys => if x = y then lexLtI xs ys else decide (x < y)
def inSeq (x : D) (ys : List D) : Bool := ys.any fun y => eqD y x
def inD (x y : Rt) : Option Bool :=
  match x, y with
  | .v (.str [c]), .v (.str t) => some (decide (c ∈ t))
  | .v d, .v (.tup ds) => if min (dpt d) (dpts ds) ≤ 60 then some (inSeq d ds) else none
  | .v d, .v (.lst ds) => if min (dpt d) (dpts ds) ≤ 60 then some (inSeq d ds) else none
  | .v d, .o (.lst ds) => if min (dpt d) (dpts ds) ≤ 60 then some (inSeq d ds) else none
  | x, .o (.dK kvs) => (dget (.dK kvs) x).map (·.isSome)
  | x, .o (.dT kvs) => (dget (.dT kvs) x).map (·.isSome)
  | _, _ => none
def isNon : D → Bool
  | .non => true
  | _ => false
def cmpD : CO → Rt → Rt → Option Bool
  | .lt, .v (.int i), .v (.int j) => some (decide (i < j))
  | .le, .v (.int i), .v (.int j) => some (decide (i ≤ j))
  | .gt, .v (.int i), .v (.int j) => some (decide (j < i))
  | .ge, .v (.int i), .v (.int j) => some (decide (j ≤ i))
  | .lt, .v (.str x), .v (.str y) => some (decide (x < y))
  | .gt, .v (.str x), .v (.str y) => some (decide (y < x))
  | .le, .v (.str x), .v (.str y) => some (!decide (y < x))
  | .lt, .v (.tup x), .v (.tup y) => (intL x).bind fun a => (intL y).map fun b => lexLtI a b
  | .eq, x, y => eqR x y
  | .ne, x, y => (eqR x y).map (!·)
  | .is_, .v x, .v .non => some (isNon x)
  | .isn, .v x, .v .non => some (!isNon x)
  | .is_, .v (.bl a), .v (.bl b) => some (decide (a = b))
  | .isn, .v (.bl a), .v (.bl b) => some (!decide (a = b))
  | .in_, x, y => inD x y
  | .nin, x, y => (inD x y).map (!·)
  | _, _, _ => none
def ixNN (n : Nat) (i : Int) : Option Nat := if 0 ≤ i then (if i < n then some i.toNat else none) else if -(n : Int) ≤ i then some (i + n).toNat else none
def atD {α : Type} (xs : List α) (i : Int) : Option α := (ixNN xs.length i).bind fun j => xs[j]?
def ixD : Rt → Rt → Option Rt
  | .v (.tup ds), .v (.int i) => (atD ds i).map .v
  | .v (.lst ds), .v (.int i) => (atD ds i).map .v
  | .o (.lst ds), .v (.int i) => (atD ds i).map .v
  | .v (.str s), .v (.int i) => (atD s i).map fun c => .v (.str [c])
  | .o (.dK kvs), r => ((dget (.dK kvs) r).bind id).map .v
  | .o (.dT kvs), r => ((dget (.dT kvs) r).bind id).map .v
  | _, _ => none
/-- a slice's bounds -/
def sIxD (n d : Nat) : Option Int → Nat
  | none => d
  | some i => if i < 0 then (i + n).toNat else min i.toNat n
def cutD {α : Type} (xs : List α) (lo hi : Option Int) : List α := (xs.drop (sIxD xs.length 0 lo)).take (sIxD xs.length xs.length hi - sIxD xs.length 0 lo)
def slD (x : Rt) (lo hi : Option Int) : Option Rt :=
  match x with
  | .v (.str s) => some (.v (.str (cutD s lo hi)))
  | .v (.tup ds) => some (.v (.tup (cutD ds lo hi)))
  | .v (.lst ds) => some (.o (.lst (cutD ds lo hi)))
  | .o (.lst ds) => some (.o (.lst (cutD ds lo hi)))
  | _ => none
def revD : Rt → Option Rt
  | .v (.str s) => some (.v (.str s.reverse))
  | .v (.tup s) => some (.v (.tup s.reverse))
  | .v (.lst s) => some (.o (.lst s.reverse))
  | .o (.lst s) => some (.o (.lst s.reverse))
  | _ => none
/-- the order of values of one kind -/
def leD (a b : D) : Bool := PySem.W.sortLe (PyProof.Rows.listOrd PyProof.Rows.itemOrd) false (fun b => PySem.W.keyToks (toPy b)) a b
def ltD (a b : D) : Bool := PySem.W.dataLt (toPy a) (toPy b)
def insD (d : D) : List D → List D
  | [] => [d]
  | x :: r => if leD d x = true then d :: x :: r else x :: insD d r
def srtD (ds : List D) : List D := ds.foldr insD []
def alkD (ds : List D) : Bool := ds.all fun a => ds.all fun b => PySem.W.alike (toPy a) (toPy b)
def srtK (ds : List D) : Bool := (ds.all fun d => match d with | .tup (_ :: _) => true | _ => false) || (ds.all fun d => match d with | .non => false | .tup _ => false | _ => true)
def minDD (d : D) (ds : List D) : D := ds.foldl (fun a y => if ltD y a = true then y else a) d
def maxDD (d : D) (ds : List D) : D := ds.foldl (fun a y => if ltD a y = true then y else a) d
def nonN (ds : List D) : Bool := ds.all fun d => !isNon d
def maxI : Int → List Int → Int
  | a, [] => a
  | a, b :: r => maxI (if b > a then b else a) r
def minI : Int → List Int → Int
  | a, [] => a
  | a, b :: r => minI (if b < a then b else a) r
/-- least or greatest: of ints, of values of one kind -/
def bestD (fi : Int → List Int → Int) (fd : D → List D → D) (ds : List D) : Option Rt := match intL ds with
  | some [] => none
  | some (i :: is) => some (.v (.int (fi i is)))
  | none => match ds with
    | [] => none
    | d :: r => if (alkD (d :: r) && nonN (d :: r) && decide (dpts (d :: r) ≤ 60)) = true then some (.v (fd d r)) else none
def bD : String → List Rt → Option Rt
  | "len", [.v (.str s)] => some (.v (.int s.length))
  | "len", [.v (.tup s)] => some (.v (.int s.length))
  | "len", [.v (.lst s)] => some (.v (.int s.length))
  | "len", [.o (.lst s)] => some (.v (.int s.length))
  | "len", [.o (.dK s)] => some (.v (.int s.length))
  | "int", [.v (.int i)] => some (.v (.int i))
  | "abs", [.v (.int i)] => some (.v (.int (if i < 0 then -i else i)))
  | "min", [.v (.int i), .v (.int j)] => some (.v (.int (if j < i then j else i)))
  | "max", [.v (.int i), .v (.int j)] => some (.v (.int (if j > i then j else i)))
  | "max", [.v (.int i), .v (.int j), .v (.int k)] => none
  | "sum", [r] => (seqR r).bind fun ds => (intL ds).map fun is => .v (.int is.sum)
  | "max", [r] => (seqR r).bind fun ds => bestD maxI maxDD ds
  | "min", [r] => (seqR r).bind fun ds => bestD minI minDD ds
  | "sorted", [r] => ((lstR r).or (keysR r)).bind fun ds => if (alkD ds && srtK ds && decide (dpts ds ≤ 60)) = true then some (.o (.lst (srtD ds))) else none
  | "all", [r] => (lstR r).bind fun ds => (boolL ds).map fun is => .v (.bl (is.all id))
  | "any", [r] => (lstR r).bind fun ds => (boolL ds).map fun is => .v (.bl (is.any id))
  | "tuple", [r] => (seqR r).map fun ds => .v (.tup ds)
  | "list", [.v (.str s)] => some (.o (.lst (s.map fun c => .str [c])))
  | "list", [r] => ((seqR r).or (keysR r)).map fun ds => .o (.lst ds)
  | _, _ => none
/-- sorted(d.items()) -/
def sitD (r : Rt) : Option Rt := (entsR r).bind fun qs => if (alkD (qs.map prD) && srtK (qs.map prD) && decide (dpts (qs.map prD) ≤ 60)) = true then some (.o (.lst (srtD (qs.map prD)))) else none
/-- the texts with a text between them -/
def joinD (sep : List Nat) : List (List Nat) → List Nat
  | [] => []
  | [x] => x
  | x :: y :: r => x ++ (sep ++ joinD sep (y :: r))
/-- a result as data -/
def pyR : Rt → Option D
  | .v d => some d
  | .o (.lst ds) => some (.lst ds)
  | _ => none
/-- the first place of an equal one -/
def idxD (d : D) : List D → Option Nat
  | [] => none
  | x :: r => if eqD x d = true then some 0 else (idxD d r).map (· + 1)
def getD2 : Rt → Rt → D → Option Rt
  | .o ob, k, d => (dget ob k).map fun o => .v (o.getD d)
  | _, _, _ => none
def mD : String → Rt → List Rt → Option Rt
  | "join", .v (.str sep), [r] => (seqR r).bind fun ds => (strL ds).bind fun xs => if (xs.map (·.length)).sum + xs.length * sep.length ≤ Lm then some (.v (.str (joinD sep xs))) else none
  | "get", .o ob, [k] => (dget ob k).map fun o => .v (o.getD .non)
  | "index", r, [x] => (lstR r).bind fun ds => (pyR x).bind fun d => if (SeqAt.shaped (.list (toPys ds)) && SeqAt.shaped (toPy d)) = true then (idxD d ds).map fun (j : Nat) => .v (.int (j : Int)) else none
  | "count", r, [.v (.int k)] => (lstR r).bind fun ds => (intL ds).map fun ns => .v (.int (ns.count k : Nat))
  | _, _, _ => none
/-- the receivers of a method -/
def recOk : String → Rt → Bool
  | "join", .v (.str _) => true
  | "get", .o (.dK _) => true
  | "get", .o (.dT _) => true
  | "index", .v (.lst _) => true
  | "index", .o (.lst _) => true
  | "count", .v (.lst _) => true
  | "count", .o (.lst _) => true
  | _, _ => false
def tyOf : D → String
  | .non => "NoneType" | .bl _ => "bool" | .int _ => "int" | .str _ => "str" | .tup _ => "tuple" | .lst _ => "list"
def isiD (t : String) : Rt → Option Bool
  | .v (.bl _) => some (t == "bool" || t == "int")
  | .v d => some (t == tyOf d)
  | .o (.lst _) => some (t == "list")
  | _ => none
def isiAny (r : Rt) : List String → Option Bool
  | [] => some false
  | t :: ts => (isiD t r).bind fun b => (isiAny r ts).map (b || ·)

/-! ### slots, operands, arguments -/
inductive Opd where
  | look (i : Nat) | rt (r : Rt)
inductive Arg where
  | bor (i : Nat) | val (d : D) | tmp (o : Ob)
def rd (f : Fr) : Opd → Option Rt
  | .look i => match f[i]? with
    | some (.val d) => some (.v d)
    | some (.own _ _ o) => some (.o o)
    | _ => none
  | .rt r => some r
def rds (f : Fr) : List Opd → Option (List Rt)
  | [] => some []
  | o :: r => (rd f o).bind fun x => (rds f r).map (x :: ·)
/-- a name read: an owned list is let go of -/
def evVar (i : Nat) (f : Fr) : R Rt := match f[i]? with
  | some (.val d) => .ok (.v d) f
  | some (.own false false (.lst ds)) => .ok (.v (.lst ds)) (f.set i (.val (.lst ds)))
  | _ => .bad
def opd (e : Ex) (d : Fr → R Rt) (f : Fr) : R Opd := match e with
  | .var i => match f[i]? with
    | some (.val _) => .ok (.look i) f
    | some (.own _ _ _) => .ok (.look i) f
    | _ => .bad
  | _ => (d f).bind fun r f1 => .ok (.rt r) f1
def arg (e : Ex) (d : Fr → R Rt) (f : Fr) : R Arg := match e with
  | .var i => match f[i]? with
    | some (.val d) => .ok (.val d) f
    | some (.own _ false _) => .ok (.bor i) f
    | _ => .bad
  | _ => (d f).bind fun r f1 => match r with
    | .v d => .ok (.val d) f1
    | .o ob => .ok (.tmp ob) f1
/-- the arguments' slots at the callee's entry -/
def slotsOf (f : Fr) : List Arg → Option (List Slot)
  | [] => some []
  | .val d :: r => (slotsOf f r).map (.val d :: ·)
  | .tmp o :: r => (slotsOf f r).map (.own true false o :: ·)
  | .bor i :: r => match f[i]? with
    | some (.own _ false o) => (slotsOf f r).map (.own true false o :: ·)
    | _ => none
def bors : List Arg → List Nat
  | [] => []
  | .bor i :: r => i :: bors r
  | _ :: r => bors r
/-- behind the call: what was lent comes back -/
def back : Fr → List Arg → List Slot → Option Fr
  | f, [], [] => some f
  | f, .bor i :: r, s :: ss => match f[i]?, s with
    | some (.own p _ _), .own _ _ o => back (f.set i (.own p false o)) r ss
    | _, _ => none
  | f, _ :: r, _ :: ss => back f r ss
  | _, _, _ => none
inductive CR where
  | ok (r : Rt) (outs : List Slot) | bad
structure Ctx where
  call : String → List Slot → CR
def doCall (c : Ctx) (g : String) (as : List Arg) (f : Fr) : R Rt :=
  match slotsOf f as with
  | none => .bad
  | some sl => if (bors as).Nodup then (match c.call g sl with
    | .bad => .bad
    | .ok r outs => match back f as outs with
      | some f' => .ok r f'
      | none => .bad) else .bad
/-- a slot is stored: not one that is lent or walked -/
def sto (i : Nat) (r : Rt) (f : Fr) : Option Fr := match f[i]? with
  | some (.own true _ _) => none
  | some (.own _ true _) => none
  | some _ => some (f.set i (match r with | .v d => .val d | .o ob => .own false false ob))
  | none => none
mutual
def setT : Tg → D → Fr → Option Fr
  | .nm i, d, f => sto i (.v d) f
  | .tp ts, .tup ds, f => setTs ts ds f
  | .tp _, _, _ => none
def setTs : Tgs → List D → Fr → Option Fr
  | .nil, [], f => some f
  | .cons t r, d :: ds, f => (setT t d f).bind fun f1 => setTs r ds f1
  | _, _, _ => none
end
def wipeF (f : Fr) : List Nat → Fr
  | [] => f
  | v :: vs => (wipeF f vs).set v .no
/-- the comprehension's own slots come back -/
def unwipe (f0 f : Fr) : List Nat → Fr
  | [] => f
  | v :: vs => match f0[v]? with
    | some s => (unwipe f0 f vs).set v s
    | none => unwipe f0 f vs
def noOwn (f : Fr) (vs : List Nat) : Bool := vs.all fun v => match f[v]? with
  | some (.own _ _ _) => false
  | _ => true
def bnd (j : Int) : Bool := Nat.ble j.natAbs 4611686018427387903
theorem bnd_of {j : Int} (h : bnd j = true) : -(2 ^ 62) ≤ j ∧ j < 2 ^ 62 := by
  have h := Nat.le_of_ble_eq_true h
  constructor <;> omega
def rng (i j : Int) : List D := (List.range (j - i).toNat).map fun (k : Nat) => D.int (i + k)
def rngD (i j : Int) : List D := (List.range (i - j).toNat).map fun (k : Nat) => D.int (i - k)
/-- list(range(i, j)) -/
def lrF (i j : Int) (f : Fr) : R Rt := if (bnd i && bnd j && Nat.ble (j - i).toNat 1000000) = true then .ok (.o (.lst (rng i j))) f else .bad
def dputs (ob : Ob) : List (D × D) → Option Ob
  | [] => some ob
  | p :: r => (dput ob (.v p.1) p.2).bind fun ob1 => dputs ob1 r
def enumD : Nat → List D → List D
  | _, [] => []
  | n, d :: r => .tup [.int n, d] :: enumD (n + 1) r
def zipD : List D → List D → List D
  | a :: r, b :: s => .tup [a, b] :: zipD r s
  | _, _ => []
/-- what is walked: a list, a tuple, a text -/
def walkR : Rt → Option (List D)
  | .v (.str s) => some (s.map fun c => .str [c])
  | r => seqR r
/-- what is walked where it may be an owned list: that is locked meanwhile -/
def evW (e : Ex) (d : Fr → R Rt) (f : Fr) : R (List D × List Nat) := match e with
  | .var i => match f[i]? with
    | some (.val d) => ofO f ((walkR (.v d)).map fun ds => (ds, []))
    | some (.own p false (.lst ds)) => .ok (ds, [i]) (f.set i (.own p true (.lst ds)))
    | some (.own _ true (.lst ds)) => .ok (ds, []) f
    | _ => .bad
  | _ => (d f).bind fun x f1 => ofO f1 ((walkR x).map fun ds => (ds, []))
def unlk (f : Fr) : List Nat → Fr
  | [] => f
  | i :: r => match (unlk f r)[i]? with
    | some (.own p true o) => (unlk f r).set i (.own p false o)
    | _ => unlk f r
/-- the turns of a list comprehension -/
def lcGo (turn : D → Fr → R (Option D)) : List D → List D → Fr → R (List D)
  | [], acc, f => .ok acc f
  | d :: ds, acc, f => (turn d f).bind fun o f1 => match o with
    | none => lcGo turn ds acc f1
    | some y => if acc.length < Lm then lcGo turn ds (acc ++ [y]) f1 else .bad
/-- .. of two clauses -/
def lcGo2 (turn : D → List D → Fr → R (List D)) : List D → List D → Fr → R (List D)
  | [], acc, f => .ok acc f
  | d :: ds, acc, f => (turn d acc f).bind fun acc1 f1 => lcGo2 turn ds acc1 f1
mutual
def ev (c : Ctx) : Ex → Fr → R Rt
  | .var i, f => evVar i f
  | .cst _ d, f => .ok (.v d) f
  | .lit d, f => .ok (.v d) f
  | .op o a b, f => (opd a (ev c a) f).bind fun x f1 => (opd b (ev c b) f1).bind fun y f2 =>
      ofO f2 ((rd f2 x).bind fun u => (rd f2 y).bind fun v => opD o u v)
  | .neg a, f => (opd a (ev c a) f).bind fun x f1 => match rd f1 x with
      | some (.v (.int i)) => .ok (.v (.int (-i))) f1
      | _ => .bad
  | .nt a, f => (opd a (ev c a) f).bind fun x f1 => ofO f1 (((rd f1 x).bind truth).map fun k => .v (.bl (!k)))
  | .cmp o a b, f => (opd a (ev c a) f).bind fun x f1 => (opd b (ev c b) f1).bind fun y f2 =>
      ofO f2 ((rd f2 x).bind fun u => (rd f2 y).bind fun v => (cmpD o u v).map fun k => .v (.bl k))
  | .ch2 o o1 a b d, f => (opd a (ev c a) f).bind fun x f1 => (opd b (ev c b) f1).bind fun y f2 =>
      (ofO f2 ((rd f2 x).bind fun u => (rd f2 y).bind fun v => cmpD o u v)).bind fun k f3 =>
      if k then (opd d (ev c d) f3).bind fun z f4 => ofO f4 ((rd f4 y).bind fun u => (rd f4 z).bind fun v => (cmpD o1 u v).map fun k => .v (.bl k))
      else .ok (.v (.bl false)) f3
  | .ch3 o o1 o2 a b d e, f => (opd a (ev c a) f).bind fun x f1 => (opd b (ev c b) f1).bind fun y f2 =>
      (ofO f2 ((rd f2 x).bind fun u => (rd f2 y).bind fun v => cmpD o u v)).bind fun k f3 =>
      if k then (opd d (ev c d) f3).bind fun z f4 =>
        (ofO f4 ((rd f4 y).bind fun u => (rd f4 z).bind fun v => cmpD o1 u v)).bind fun k1 f5 =>
        if k1 then (opd e (ev c e) f5).bind fun w f6 => ofO f6 ((rd f6 z).bind fun u => (rd f6 w).bind fun v => (cmpD o2 u v).map fun k => .v (.bl k))
        else .ok (.v (.bl false)) f5
      else .ok (.v (.bl false)) f3
  | .bool con es, f => evB c con es f
  | .ite t a b, f => (evT c t f).bind fun k f1 => if k then ev c a f1 else ev c b f1
  | .tup es, f => (evs c es f).bind fun ds f1 => if ds.length ≤ 1000 then .ok (.v (.tup ds)) f1 else .bad
  | .lst es, f => (evs c es f).bind fun ds f1 => if ds.length ≤ 1000 then .ok (.o (.lst ds)) f1 else .bad
  | .dct t .nil .nil, f => .ok (.o (if t then .dT [] else .dK [])) f
  | .dct _ _ _, f => .bad
  | .dsp t ps, f => (evKV c ps f).bind fun ps f1 => if ps.length ≤ 15 then ofO f1 ((dputs (if t then .dT [] else .dK []) ps).map .o) else .bad
  | .ix a i, f => (opd a (ev c a) f).bind fun x f1 => (opd i (ev c i) f1).bind fun y f2 =>
      ofO f2 ((rd f2 x).bind fun u => (rd f2 y).bind fun v => ixD u v)
  | .sl a lo hi, f => (opd a (ev c a) f).bind fun x f1 => (evP c lo f1).bind fun l f2 => (evP c hi f2).bind fun h f3 =>
      ofO f3 ((rd f3 x).bind fun u => slD u l h)
  | .rev a, f => (opd a (ev c a) f).bind fun x f1 => ofO f1 ((rd f1 x).bind revD)
  | .sit a, f => (opd a (ev c a) f).bind fun x f1 => ofO f1 ((rd f1 x).bind sitD)
  | .lr1 a, f => (opd a (ev c a) f).bind fun x f1 => match rd f1 x with
      | some (.v (.int j)) => lrF 0 j f1
      | _ => .bad
  | .lr2 a b, f => (opd a (ev c a) f).bind fun x f1 => (opd b (ev c b) f1).bind fun y f2 => match rd f2 x, rd f2 y with
      | some (.v (.int i)), some (.v (.int j)) => lrF i j f2
      | _, _ => .bad
  | .call g es, f => (args c es f).bind fun as f1 => doCall c g as f1
  | .b g es, f => (opds c es f).bind fun xs f1 => ofO f1 ((rds f1 xs).bind fun us => bD g us)
  | .isi a ts, f => (opd a (ev c a) f).bind fun x f1 => ofO f1 ((rd f1 x).bind fun u => (isiAny u ts).map fun k => .v (.bl k))
  | .m g a es, f => (opd a (ev c a) f).bind fun x f1 => if ((rd f1 x).any (recOk g)) = true then (opds c es f1).bind fun xs f2 =>
      ofO f2 ((rd f2 x).bind fun u => (rds f2 xs).bind fun us => mD g u us) else .bad
  | .gt a k d, f => (opd a (ev c a) f).bind fun x f1 => if ((rd f1 x).any (recOk "get")) = true then (opd k (ev c k) f1).bind fun y f2 => (ev c d f2).bind fun z f3 => match fz z with
      | none => .bad
      | some d => ofO f3 ((rd f3 x).bind fun u => (rd f3 y).bind fun v => getD2 u v d) else .bad
  | .pop i, f => match f[i]? with
      | some (.own p false (.lst ds)) => (match ds.getLast? with
        | some d => .ok (.v d) (f.set i (.own p false (.lst ds.dropLast)))
        | none => .bad)
      | _ => .bad
  | .sset _, _ => .bad
  | .sdc _ _ _ _ _, _ => .bad
  | .sdc2 _ _ _ _ _ _ _ _, _ => .bad
  | .lc own tg it co e, f => (evI c it f).bind fun dl f1 => if noOwn f1 own then
      (lcGo (fun d f => match setT tg d (wipeF f own) with
        | none => .bad
        | some f2 => (evC c co f2).bind fun k f3 => if k then (ev c e f3).bind fun r f4 => (match fz r with | some y => .ok (some y) (wipeF f4 own) | none => .bad) else .ok none (wipeF f3 own)) dl.1 [] (wipeF f1 own)).bind
        fun acc f5 => .ok (.o (.lst acc)) (unlk (unwipe f1 f5 own) dl.2)
      else .bad
  | .lc2 own own1 tg it co tg1 it1 co1 e, f => (evI c it f).bind fun dl f1 => if noOwn f1 own then
      (lcGo2 (fun d acc f => match setT tg d (wipeF f own) with
        | none => .bad
        | some f2 => (evC c co f2).bind fun k f3 => if k then (evI c it1 f3).bind fun el f4 =>
            (lcGo (fun d f => match setT tg1 d (wipeF f own1) with
              | none => .bad
              | some f5 => (evC c co1 f5).bind fun k f6 => if k then (ev c e f6).bind fun r f7 => (match fz r with | some y => .ok (some y) (wipeF f7 own1) | none => .bad) else .ok none (wipeF f6 own1)) el.1 acc (wipeF f4 own1)).bind
              fun acc1 f8 => .ok acc1 (wipeF (unlk f8 el.2) own)
          else .ok acc (wipeF f3 own)) dl.1 [] (wipeF f1 own)).bind
        fun acc f5 => .ok (.o (.lst acc)) (unlk (unwipe f1 f5 own) dl.2)
      else .bad
def evT (c : Ctx) : Tx → Fr → R Bool
  | .bool con es, f => evBT c con es f
  | .nt a, f => (evT c a f).bind fun b f1 => .ok (!b) f1
  | .ite t a b, f => (evT c t f).bind fun k f1 => if k then evT c a f1 else evT c b f1
  | .ex e, f => (opd e (ev c e) f).bind fun x f1 => ofO f1 ((rd f1 x).bind truth)
/-- and, or as values -/
def evB (c : Ctx) (con : Bool) : Exs → Fr → R Rt
  | .nil, _ => .bad
  | .cons e .nil, f => ev c e f
  | .cons e r, f => (ev c e f).bind fun x f1 => match x with
      | .v d => (match truth (.v d) with
        | some k => if k = con then evB c con r f1 else .ok (.v d) f1
        | none => .bad)
      | _ => .bad
def evBT (c : Ctx) (con : Bool) : Txs → Fr → R Bool
  | .nil, _ => .bad
  | .cons e .nil, f => evT c e f
  | .cons e r, f => (evT c e f).bind fun k f1 => if k = con then evBT c con r f1 else .ok k f1
def evs (c : Ctx) : Exs → Fr → R (List D)
  | .nil, f => .ok [] f
  | .cons e r, f => (ev c e f).bind fun x f1 => match fz x with
      | none => .bad
      | some d => (evs c r f1).bind fun ds f2 => .ok (d :: ds) f2
/-- the pairs of a display -/
def evKV (c : Ctx) : Kvs → Fr → R (List (D × D))
  | .nil, f => .ok [] f
  | .cons k v r, f => (ev c k f).bind fun x f1 => match fz x with
      | none => .bad
      | some d => (ev c v f1).bind fun y f2 => match fz y with
        | none => .bad
        | some e => (evKV c r f2).bind fun ps f3 => .ok ((d, e) :: ps) f3
def opds (c : Ctx) : Exs → Fr → R (List Opd)
  | .nil, f => .ok [] f
  | .cons e r, f => (opd e (ev c e) f).bind fun x f1 => (opds c r f1).bind fun xs f2 => .ok (x :: xs) f2
def args (c : Ctx) : Exs → Fr → R (List Arg)
  | .nil, f => .ok [] f
  | .cons e r, f => (arg e (ev c e) f).bind fun x f1 => (args c r f1).bind fun xs f2 => .ok (x :: xs) f2
def evP (c : Ctx) : Exo → Fr → R (Option Int)
  | .no, f => .ok none f
  | .so e, f => (opd e (ev c e) f).bind fun x f1 => match rd f1 x with
      | some (.v (.int i)) => .ok (some i) f1
      | _ => .bad
/-- a comprehension's test -/
def evC (c : Ctx) : Txo → Fr → R Bool
  | .no, f => .ok true f
  | .so e, f => evT c e f
/-- what a loop or a comprehension walks -/
def evI (c : Ctx) : It → Fr → R (List D × List Nat)
  | .ex e, f => evW e (ev c e) f
  | .r1 a, f => (opd a (ev c a) f).bind fun x f1 => match rd f1 x with
      | some (.v (.int j)) => if bnd j = true then .ok (rng 0 j, []) f1 else .bad
      | _ => .bad
  | .r2 a b, f => (opd a (ev c a) f).bind fun x f1 => (opd b (ev c b) f1).bind fun y f2 => match rd f2 x, rd f2 y with
      | some (.v (.int i)), some (.v (.int j)) => if (bnd i && bnd j) = true then .ok (rng i j, []) f2 else .bad
      | _, _ => .bad
  | .r3 a b d, f => (opd a (ev c a) f).bind fun x f1 => (opd b (ev c b) f1).bind fun y f2 => (opd d (ev c d) f2).bind fun z f3 => match rd f3 x, rd f3 y, rd f3 z with
      | some (.v (.int i)), some (.v (.int j)), some (.v (.int k)) => if (decide (k = -1) && bnd i && bnd j) = true then .ok (rngD i j, []) f3 else .bad
      | _, _, _ => .bad
  | .en a, f => (evW a (ev c a) f).bind fun x f1 => .ok (enumD 0 x.1, x.2) f1
  | .zp a b, f => (evW a (ev c a) f).bind fun x f1 => (evW b (ev c b) f1).bind fun y f2 => .ok (zipD x.1 y.1, x.2 ++ y.2) f2
  | .its _, _ => .bad
end

/-! ### statements -/
inductive S where
  | nxt (f : Fr) | brk (f : Fr) | cnt (f : Fr) | ret (r : Rt) (f : Fr) | bad
def whGo (t : Fr → R Bool) (b : Fr → S) : Nat → Fr → Option S
  | 0, _ => none
  | n + 1, f => match t f with
    | .bad => some .bad
    | .ok true f1 => (match b f1 with
      | .nxt f2 => whGo t b n f2
      | .cnt f2 => whGo t b n f2
      | .brk f2 => some (.nxt f2)
      | .ret r f2 => some (.ret r f2)
      | .bad => some .bad)
    | .ok false f1 => some (.nxt f1)
open Classical in
/-- a while: what it comes to, where it ends -/
noncomputable def whl (t : Fr → R Bool) (b : Fr → S) (f : Fr) : S := if h : ∃ n s, whGo t b n f = some s then Classical.choose (Classical.choose_spec h) else .bad
def frGo (t : Tg) (b : Fr → S) : List D → Fr → S
  | [], f => .nxt f
  | d :: ds, f => match setT t d f with
    | none => .bad
    | some f1 => match b f1 with
      | .nxt f2 => frGo t b ds f2
      | .cnt f2 => frGo t b ds f2
      | .brk f2 => .nxt f2
      | .ret r f2 => .ret r f2
      | .bad => .bad
def S.unl (ls : List Nat) : S → S
  | .nxt f => .nxt (unlk f ls)
  | s => s
def argV (d : Fr → R Rt) (f : Fr) : R Arg := (d f).bind fun r f1 => match r with
  | .v d => .ok (.val d) f1
  | .o ob => .ok (.tmp ob) f1
/-- name = value: an owned thing moves -/
def mvR (e : Ex) (d : Fr → R Rt) (f : Fr) : R Rt := match e with
  | .var i => match f[i]? with
    | some (.val d) => .ok (.v d) f
    | some (.own false false o) => .ok (.o o) (f.set i .no)
    | _ => .bad
  | _ => d f
def stoS (i : Nat) (r : Rt) (f : Fr) : S := match sto i r f with
  | some f1 => .nxt f1
  | none => .bad
def stosS : List Nat → List Arg → Fr → Option Fr
  | [], [], f => some f
  | i :: r, .val d :: xs, f => (sto i (.v d) f).bind fun f1 => stosS r xs f1
  | i :: r, .tmp o :: xs, f => (sto i (.o o) f).bind fun f1 => stosS r xs f1
  | _, _, _ => none
def ssetO (ob : Ob) (u : Rt) (d : D) : Option Ob := match ob, u with
  | .lst ds, .v (.int j) => (ixNN ds.length j).map fun n => .lst (ds.set n d)
  | .lst _, _ => none
  | ob, u => dput ob u d
def augI : BO → Int → Int → Option Int
  | .add, a, b => some (a + b)
  | .sub, a, b => some (a - b)
  | _, _, _ => none
/-- the values of a parallel assignment -/
def exR (c : Ctx) : Exs → Fr → R (List Arg)
  | .nil, f => .ok [] f
  | .cons e r, f => (argV (ev c e) f).bind fun x f1 => (exR c r f1).bind fun xs f2 => .ok (x :: xs) f2
mutual
noncomputable def exC (c : Ctx) : Cm → Fr → S
  | .pass, f => .nxt f
  | .brk, f => .brk f
  | .cnt, f => .cnt f
  | .never, _ => .bad
  | .ex e, f => match ev c e f with
      | .ok _ f1 => .nxt f1
      | .bad => .bad
  | .ret e, f => match mvR e (ev c e) f with
      | .ok r f1 => .ret r f1
      | .bad => .bad
  | .retn, f => .ret (.v .non) f
  | .asg i e, f => match mvR e (ev c e) f with
      | .ok r f1 => stoS i r f1
      | .bad => .bad
  | .asgt t e, f => match (opd e (ev c e) f).bind fun x f1 => ofO f1 (rd f1 x) with
      | .ok (.v d) f1 => (match setT t d f1 with
        | some f2 => .nxt f2
        | none => .bad)
      | _ => .bad
  | .par is es, f => match exR c es f with
      | .ok rs f1 => (match stosS is rs f1 with
        | some f2 => if is.length ≤ 1000 then .nxt f2 else .bad
        | none => .bad)
      | .bad => .bad
  | .aug i o e, f => match f[i]? with
      | some (.val (.int a)) => (match (opd e (ev c e) f).bind fun x f1 => ofO f1 (rd f1 x) with
        | .ok (.v (.int b)) f1 => (match augI o a b with
          | some r => stoS i (.v (.int r)) f1
          | none => .bad)
        | _ => .bad)
      | _ => .bad
  | .sset i k e, f => match ev c e f with
      | .ok r f1 => (match f1[i]? with
        | some (.own _ _ _) => (match fz r, opd k (ev c k) f1 with
          | some d, .ok x f2 => (match rd f2 x, f2[i]? with
            | some u, some (.own p false ob) => (match ssetO ob u d with
                | some ob2 => .nxt (f2.set i (.own p false ob2))
                | none => .bad)
            | _, _ => .bad)
          | _, _ => .bad)
        | _ => .bad)
      | .bad => .bad
  | .saug i k o e, f => match f[i]? with
      | some (.own _ _ _) => (match opd k (ev c k) f with
        | .ok x f2 => (match rd f2 x, f2[i]? with
          | some (.v kd), some (.own _ _ ob) => (match ixD (.o ob) (.v kd) with
            | some (.v (.int a)) => (match (opd e (ev c e) f2).bind fun y f3 => ofO f3 (rd f3 y) with
              | .ok (.v (.int b)) f3 => (match augI o a b, f3[i]? with
                | some r, some (.own p false ob3) => (match ssetO ob3 (.v kd) (.int r) with
                  | some ob4 => .nxt (f3.set i (.own p false ob4))
                  | none => .bad)
                | _, _ => .bad)
              | _ => .bad)
            | _ => .bad)
          | _, _ => .bad)
        | .bad => .bad)
      | _ => .bad
  | .app i e, f => match f[i]? with
      | some (.own _ _ (.lst _)) => (match ev c e f with
        | .ok r f1 => (match fz r, f1[i]? with
          | some d, some (.own p false (.lst ds)) => if ds.length < Lm then .nxt (f1.set i (.own p false (.lst (ds ++ [d])))) else .bad
          | _, _ => .bad)
        | .bad => .bad)
      | _ => .bad
  | .ife t a b, f => match evT c t f with
      | .ok k f1 => if k then exCs c a f1 else exCs c b f1
      | .bad => .bad
  | .whl t b, f => whl (evT c t) (exCs c b) f
  | .fr t it b, f => match evI c it f with
      | .ok dl f1 => (frGo t (exCs c b) dl.1 f1).unl dl.2
      | .bad => .bad
noncomputable def exCs (c : Ctx) : Cms → Fr → S
  | .nil, f => .nxt f
  | .cons s r, f => match exC c s f with
      | .nxt f1 => exCs c r f1
      | x => x
end

/-! ### defs -/
structure FD where
  nm : String
  ps : List String
  N : List String
  body : Cms
abbrev Tb := String → Option FD
noncomputable def callK (tb : Tb) : Nat → String → List Slot → CR
  | 0, _, _ => .bad
  | k + 1, g, sl => match tb g with
    | none => .bad
    | some fd => if sl.length = fd.ps.length then
        (match exCs ⟨callK tb k⟩ fd.body (sl ++ List.replicate (fd.N.length - sl.length) .no) with
        | .nxt f => if sl.length ≤ f.length then .ok (.v .non) (f.take sl.length) else .bad
        | .ret r f => if sl.length ≤ f.length then .ok r (f.take sl.length) else .bad
        | _ => .bad)
      else .bad

theorem whGo_mono {t : Fr → R Bool} {b : Fr → S} : ∀ {n m : Nat} {f : Fr} {s : S}, n ≤ m → whGo t b n f = some s → whGo t b m f = some s
  | 0, _, _, _, _, h => by simp [whGo] at h
  | n + 1, 0, _, _, h, _ => by omega
  | n + 1, m + 1, f, s, h, e => by
    simp only [whGo] at e ⊢
    split at e <;> try exact e
    split at e <;> try exact e
    · exact whGo_mono (by omega) e
    · exact whGo_mono (by omega) e
theorem whl_of {t : Fr → R Bool} {b : Fr → S} {n : Nat} {f : Fr} {s : S} (h : whGo t b n f = some s) : whl t b f = s := by
  have hx : ∃ n s, whGo t b n f = some s := ⟨n, s, h⟩
  have e := Classical.choose_spec (Classical.choose_spec hx)
  unfold whl
  rw [dif_pos hx]
  have a := whGo_mono (Nat.le_max_left n (Classical.choose hx)) h
  have a2 := whGo_mono (Nat.le_max_right n (Classical.choose hx)) e
  rw [a] at a2
  exact (Option.some.inj a2).symm
theorem whl_ok {t : Fr → R Bool} {b : Fr → S} {f : Fr} (h : whl t b f ≠ .bad) : ∃ n, whGo t b n f = some (whl t b f) := by
  by_cases hx : ∃ n s, whGo t b n f = some s
  · obtain ⟨n, s, e⟩ := hx
    exact ⟨n, by rw [whl_of e]; exact e⟩
  · exfalso
    apply h
    unfold whl
    rw [dif_neg hx]
/-- one turn -/
theorem whl_eq (t : Fr → R Bool) (b : Fr → S) (f : Fr) : whl t b f = match t f with
    | .bad => .bad
    | .ok true f1 => (match b f1 with
      | .nxt f2 => whl t b f2
      | .cnt f2 => whl t b f2
      | .brk f2 => .nxt f2
      | .ret r f2 => .ret r f2
      | .bad => .bad)
    | .ok false f1 => .nxt f1 := by
  have next : ∀ f1 f2, t f = .ok true f1 → (b f1 = .nxt f2 ∨ b f1 = .cnt f2) → whl t b f = whl t b f2 := fun f1 f2 e1 e2 => by
    by_cases hx : ∃ n s, whGo t b n f2 = some s
    · obtain ⟨n, s, e⟩ := hx
      rw [whl_of e]
      refine whl_of (n := n + 1) ?_
      rcases e2 with e2 | e2 <;> simp only [whGo, e1, e2, e]
    · unfold whl
      rw [dif_neg hx]
      refine dif_neg fun ⟨n, s, h⟩ => ?_
      cases n with
      | zero => simp [whGo] at h
      | succ n => exact hx ⟨n, s, by rcases e2 with e2 | e2 <;> simpa only [whGo, e1, e2] using h⟩
  cases e : t f with
  | bad => exact whl_of (n := 1) (by simp only [whGo, e])
  | ok k f1 =>
    cases k with
    | false => exact whl_of (n := 1) (by simp only [whGo, e])
    | true =>
      cases e2 : b f1 with
      | nxt f2 => exact (next f1 f2 e (.inl e2)).trans (by simp only [e2])
      | cnt f2 => exact (next f1 f2 e (.inr e2)).trans (by simp only [e2])
      | brk f2 => exact whl_of (n := 1) (by simp only [whGo, e, e2])
      | ret r f2 => exact whl_of (n := 1) (by simp only [whGo, e, e2])
      | bad => exact whl_of (n := 1) (by simp only [whGo, e, e2])
end VI

set_option Elab.async false
set_option linter.all false
set_option maxRecDepth 100000
set_option maxHeartbeats 1000000
set_option autoImplicit false
namespace VI
open PySem PySem.Spec PyProof.Rows L2

theorem lm_eq : sizeLine = Lm := sizeLine_eq

/-! ### judgements are weakened -/
section
variable {X : Cx}
theorem pe_weak {e : Expr} {t t' : TE} (h : PE X e t) (w : ∀ σ H Q, t' σ H Q → t σ H Q) : PE X e t' := ⟨fun pins s σ H Q I hq => h.run pins s σ H Q I (w σ H Q hq)⟩
theorem pt_weak {e : Expr} {t t' : TT} (h : PT X e t) (w : ∀ σ H Q, t' σ H Q → t σ H Q) : PT X e t' := ⟨fun pins s σ H Q I hq => h.run pins s σ H Q I (w σ H Q hq)⟩
theorem pw_weak {e : Expr} {t t' : TT} (h : PW X e t) (w : ∀ σ H Q, t' σ H Q → t σ H Q) : PW X e t' := ⟨fun wh pins s σ H Q I hq => h.run wh pins s σ H Q I (w σ H Q hq)⟩
theorem pa_weak {es : List Expr} {t t' : TA} (h : PA X es t) (w : ∀ σ H Q, t' σ H Q → t σ H Q) : PA X es t' := ⟨fun p pins s σ H Q I hq => h.run p pins s σ H Q I (w σ H Q hq)⟩
theorem po_weak {e : Option Expr} {t t' : TO} (h : PO X e t) (w : ∀ σ H Q, t' σ H Q → t σ H Q) : PO X e t' := ⟨fun pins s σ H Q I hq => h.run pins s σ H Q I (w σ H Q hq)⟩
theorem ps_weak {s : Stmt} {t t' : TS} (h : PS X s t) (w : ∀ D σ H, t' D σ H → t D σ H) : PS X s t' := ⟨fun pins s σ H D I hq => h.run pins s σ H D I (w D σ H hq)⟩
theorem pss_weak {s : List Stmt} {t t' : TS} (h : PSs X s t) (w : ∀ D σ H, t' D σ H → t D σ H) : PSs X s t' := ⟨fun pins s σ H D I hq => h.run pins s σ H D I (w D σ H hq)⟩
theorem pg_weak {e : Expr} {t t' : TG} (h : PG X e t) (w : ∀ v σ H Q, t' v σ H Q → t v σ H Q) : PG X e t' := ⟨fun pins s σ H v u Q I r hq => h.run pins s σ H v u Q I r (w v σ H Q hq)⟩
theorem pgs_weak {e : List Expr} {t t' : TGs} (h : PGs X e t) (w : ∀ v σ H Q, t' v σ H Q → t v σ H Q) : PGs X e t' := ⟨fun pins s σ H v u Q I r hq => h.run pins s σ H v u Q I r (w v σ H Q hq)⟩
theorem pi_weak {tg e : Expr} {t t' : TI} (h : PI X tg e t) (w : ∀ σ H R, t' σ H R → t σ H R) : PI X tg e t' := ⟨fun pins s σ H R I hq => h.run pins s σ H R I (w σ H R hq)⟩
theorem opr_weak {f : Value → Value → Sem Value} {r r' : R2} (h : OpR X f r) (w : ∀ x y H Q, r' x y H Q → r x y H Q) : OpR X f r' := fun pins s σ H x y v u Q I rx ry hq => h pins s σ H x y v u Q I rx ry (w x y H Q hq)
theorem ixr_weak {r r' : R2} (h : IxR X r) (w : ∀ x y H Q, r' x y H Q → r x y H Q) : IxR X r' := fun a b pins s σ H x y v u Q I rx ry hq => h a b pins s σ H x y v u Q I rx ry (w x y H Q hq)
theorem unr_weak {f : Value → Sem Value} {r r' : V → Hp → VK → Prop} (h : UnR X f r) (w : ∀ x H Q, r' x H Q → r x H Q) : UnR X f r' := fun pins s σ H x v Q I rx hq => h pins s σ H x v Q I rx (w x H Q hq)
theorem callr_weak {f : Value} {r r' : List V → Hp → VK → Prop} (h : CallR X f r) (w : ∀ x H Q, r' x H Q → r x H Q) : CallR X f r' := fun pins s σ H x v Q I rx hq => h pins s σ H x v Q I rx (w x H Q hq)
theorem mtr_weak {id : String} {r r' : V → List V → Hp → VK → Prop} (h : MtR X id r) (w : ∀ x y H Q, r' x y H Q → r x y H Q) : MtR X id r' := fun pins s σ H x xs v us Q I rx rxs hq => h pins s σ H x xs v us Q I rx rxs (w x xs H Q hq)
end

/-! ### results -/
def RtAt (K : PySem.W.Frag) (B : AP) (H : Hp) : Rt → V → Prop
  | .v d, x => Rep K B H d x
  | .o ob, x => ∃ a, x = .ref a ∧ OwnAt K B H a ob
/-- a result as an operation leaves it -/
inductive NewR (K : PySem.W.Frag) (B : AP) (H : Hp) : Rt → V → Hp → Prop
  | old {d : D} {z : V} : Rep K B H d z → NewR K B H (.v d) z H
  | tup {ds : List D} {vs : List V} {p : Addr} : H p = none → Reps K B H ds vs → NewR K B H (.v (.tup ds)) (.ref p) (upd H p (.tup vs))
  | lst {ds : List D} {vs : List V} {p : Addr} : H p = none → Reps K B H ds vs → NewR K B H (.o (.lst ds)) (.ref p) (upd H p (.lst vs))
  | dK {p : Addr} : H p = none → NewR K B H (.o (.dK [])) (.ref p) (upd H p (.dK []))
  | dT {p : Addr} : H p = none → NewR K B H (.o (.dT [])) (.ref p) (upd H p (.dT []))
  | ext {ob : Ob} {p : Addr} {H' : Hp} : H p = none → (∀ b o, H b = some o → H' b = some o) → OwnAt K (fun a => B a ∨ a = p) H' p ob → NewR K B H (.o ob) (.ref p) H'
def Res (K : PySem.W.Frag) (B : AP) (H : Hp) (w : Rt) (Q : VK) : Prop := ∀ z H', NewR K B H w z H' → Q z H'
section
variable {K : PySem.W.Frag} {B : AP} {H : Hp} {Q : VK}
theorem Res.v {d : D} {z : V} (h : Res K B H (.v d) Q) (r : Rep K B H d z) : Q z H := h _ _ (.old r)
theorem Res.int {i : Int} (h : Res K B H (.v (.int i)) Q) : Q (.int i) H := h.v rfl
theorem Res.bl {i : Bool} (h : Res K B H (.v (.bl i)) Q) : Q (.bl i) H := h.v rfl
theorem Res.non (h : Res K B H (.v .non) Q) : Q .non H := h.v rfl
theorem Res.str {s : List Nat} (h : Res K B H (.v (.str s)) Q) (hl : s.length ≤ Lm) : Q (.str (tS s)) H := h.v ⟨rfl, hl⟩
end

/-! ### a state behind an expression -/
/-- what is lent stays lent, what is walked stays as it is -/
structure Kp (f : Fr) (σ : L2.St) (f' : Fr) (σ' : L2.St) : Prop where
  pn : ∀ (i : Nat) (l : Bool) (o : Ob), f[i]? = some (.own true l o) → σ'[i]? = σ[i]? ∧ ∃ l' o', f'[i]? = some (.own true l' o')
  lk : ∀ (i : Nat) (p : Bool) (o : Ob), f[i]? = some (.own p true o) → σ'[i]? = σ[i]? ∧ f'[i]? = some (.own p true o)
theorem Kp.refl {f : Fr} {σ : L2.St} : Kp f σ f σ := ⟨fun _ l o h => ⟨rfl, l, o, h⟩, fun _ _ _ h => ⟨rfl, h⟩⟩
theorem Kp.trans {f f1 f2 : Fr} {σ σ1 σ2 : L2.St} (a : Kp f σ f1 σ1) (b : Kp f1 σ1 f2 σ2) : Kp f σ f2 σ2 :=
  ⟨fun i l o h => by
    obtain ⟨e1, l1, o1, h1⟩ := a.pn i l o h
    obtain ⟨e2, h2⟩ := b.pn i l1 o1 h1
    exact ⟨e2.trans e1, h2⟩, fun i p o h => by
    obtain ⟨e1, h1⟩ := a.lk i p o h
    obtain ⟨e2, h2⟩ := b.lk i p o h1
    exact ⟨e2.trans e1, h2⟩⟩
/-- one slot that is neither lent nor walked is changed -/
theorem Kp.set {f : Fr} {σ : L2.St} {i : Nat} {s : Slot} (h : ∀ p l o, f[i]? = some (.own p l o) → l = false ∧ (p = true → ∃ o', s = .own true false o')) : Kp f σ (f.set i s) σ where
  pn := fun j l o e => by
    refine ⟨rfl, ?_⟩
    by_cases q : j = i
    · subst q
      obtain ⟨_, h2⟩ := h true l o e
      obtain ⟨o', h3⟩ := h2 rfl
      have hj := (List.getElem?_eq_some_iff.mp e).1
      exact ⟨false, o', by rw [List.getElem?_set_self hj, h3]⟩
    · exact ⟨l, o, by rw [List.getElem?_set_ne (Ne.symm q)]; exact e⟩
  lk := fun j p o e => by
    refine ⟨rfl, ?_⟩
    by_cases q : j = i
    · subst q
      obtain ⟨h1, _⟩ := h p true o e
      cases h1
    · rw [List.getElem?_set_ne (Ne.symm q)]; exact e
structure PostX (K : PySem.W.Frag) (T : AP) (σ : L2.St) (H : Hp) (f : Fr) (m : Om) (f' : Fr) (H' : Hp) (m' : Om) (T' : AP) : Prop where
  sim : Sim K T' σ H' f' m'
  step : Step m T H m' T' H'
  ml : ∀ i a, m' i = some a → m i = some a
  tl : ∀ a, T a → T' a
  kp : Kp f σ f' σ
theorem PostX.refl {K : PySem.W.Frag} {T : AP} {σ : L2.St} {H : Hp} {m : Om} {f : Fr} (S : Sim K T σ H f m) : PostX K T σ H f m f H m T := ⟨S, Step.refl, fun _ _ h => h, fun _ h => h, Kp.refl⟩
theorem PostX.trans {K : PySem.W.Frag} {T T1 T2 : AP} {σ : L2.St} {H H1 H2 : Hp} {m m1 m2 : Om} {f f1 f2 : Fr} (a : PostX K T σ H f m f1 H1 m1 T1) (b : PostX K T1 σ H1 f1 m1 f2 H2 m2 T2) : PostX K T σ H f m f2 H2 m2 T2 :=
  ⟨b.sim, a.step.trans b.step, fun i c h => a.ml i c (b.ml i c h), fun c h => b.tl c (a.tl c h), a.kp.trans b.kp⟩
/-- the temporaries that are left over are dropped -/
theorem PostX.drop {K : PySem.W.Frag} {T T1 : AP} {σ : L2.St} {H H1 : Hp} {m m1 : Om} {f f1 : Fr} (a : PostX K T σ H f m f1 H1 m1 T1) : PostX K T σ H f m f1 H1 m1 T :=
  ⟨a.sim.lessT a.tl, ⟨a.step.keep, a.step.own, fun _ h => .inl h, a.step.dom⟩, a.ml, fun _ h => h, a.kp⟩
def RtP (K : PySem.W.Frag) (T : AP) (H : Hp) (H' : Hp) (m' : Om) (T' : AP) (v : V) : Rt → Prop
  | .v d => T' = T ∧ Rep K (BB m' T') H' d v
  | .o ob => ∃ a, v = .ref a ∧ H a = none ∧ T' = TT1 T a ∧ OwnAt K (BB m' T') H' a ob
/-- an expression's wish: den is what the evaluator gives -/
def tD (K : PySem.W.Frag) (den : Fr → R Rt) : TE := fun σ H Q => ∃ T f m r f', Sim K T σ H f m ∧ den f = .ok r f' ∧
  ∀ v H' m' T', PostX K T σ H f m f' H' m' T' → RtP K T H H' m' T' v r → Q v H'
/-- an operand: an owned thing is looked at -/
def OpdAt (K : PySem.W.Frag) (T : AP) (σ : L2.St) (H : Hp) (m : Om) (v : V) : Opd → Prop
  | .look i => σ[i]? = some (some v)
  | .rt (.v d) => Rep K (BB m T) H d v
  | .rt (.o ob) => ∃ a, v = .ref a ∧ T a ∧ OwnAt K (BB m T) H a ob
def tO (K : PySem.W.Frag) (den : Fr → R Opd) : TE := fun σ H Q => ∃ T f m o f', Sim K T σ H f m ∧ den f = .ok o f' ∧
  ∀ v H' m' T', PostX K T σ H f m f' H' m' T' → OpdAt K T' σ H' m' v o → Q v H'
def tTD (K : PySem.W.Frag) (den : Fr → R Bool) : TT := fun σ H Q => ∃ T f m k f', Sim K T σ H f m ∧ den f = .ok k f' ∧
  ∀ H' m', PostX K T σ H f m f' H' m' T → Q k H'
section
variable {K : PySem.W.Frag} {T T' : AP} {σ : L2.St} {H H' : Hp} {m m' : Om} {f f' : Fr}
/-- .. stands behind a later step -/
theorem OpdAt.st {v : V} {o : Opd} (h : OpdAt K T σ H m v o) (S : Sim K T σ H f m) (p : PostX K T σ H f m f' H' m' T') : OpdAt K T' σ H' m' v o := by
  cases o with
  | look i => exact h
  | rt r =>
    cases r with
    | v d => exact Rep.st h p.step
    | o ob =>
      obtain ⟨a, e, ht, ho⟩ := h
      exact ⟨a, e, p.tl a ht, ho.st (S.nt ht) p.step⟩
/-- what is read -/
theorem OpdAt.rd {v : V} {o : Opd} {u : Rt} (h : OpdAt K T σ H m v o) (S : Sim K T σ H f m) (e : rd f o = some u) : RtAt K (BB m T) H u v := by
  cases o with
  | look i =>
    have h : σ[i]? = some (some v) := h
    simp only [VI.rd] at e
    split at e
    · rename_i d hd
      cases e
      obtain ⟨w, e1, r⟩ := S.val i d hd
      rw [h] at e1; cases e1
      exact r
    · rename_i p l ob hd
      cases e
      obtain ⟨a, e0, e1, r⟩ := S.own i p l ob hd
      rw [h] at e1; cases e1
      exact ⟨a, rfl, r⟩
    · cases e
  | rt r =>
    have e : r = u := Option.some.inj e
    subst e
    cases r with
    | v d => exact h
    | o ob =>
      obtain ⟨a, e, ht, ho⟩ := h
      exact ⟨a, e, ho⟩
/-- a new thing is made at the end of an expression -/
theorem fin_new {σ : L2.St} {w : Rt} {Q : VK} (p : PostX K T σ H f m f' H' m' T')
    (hQ : ∀ v H2 m2 T2, PostX K T σ H f m f' H2 m2 T2 → RtP K T H H2 m2 T2 v w → Q v H2) : Res K (BB m' T') H' w Q := by
  intro z H2 h
  have weak : ∀ a, BB m' T a → BB m' T' a ∨ H' a = none := fun a z => .inl (z.elim .inl fun z => .inr (p.tl a z))
  have new : ∀ {q : Addr} {o : HO}, H' q = none → PostX K T σ H f m f' (upd H' q o) m' T := fun {q o} hq =>
    (p.drop.trans ⟨p.drop.sim.new hq, Step.new hq T fun _ h => .inl h, fun _ _ h => h, fun _ h => h, Kp.refl⟩)
  have newT : ∀ {q : Addr} {o : HO}, H' q = none → (∀ xs, o ≠ .tup xs) → PostX K T σ H f m f' (upd H' q o) m' (TT1 T q) := fun {q o} hq ho =>
    (p.drop.trans ⟨p.drop.sim.newT hq ho, Step.new hq (TT1 T q) fun _ h => h, fun _ _ h => h, fun _ h => .inl h, Kp.refl⟩)
  have k : ∀ {q : Addr} {o u : HO} (a : Addr), H' q = none → H' a = some u → (upd H' q o) a = some u := fun a hq e => by
    rw [upd_ne (ne_of_none e hq)]; exact e
  cases h with
  | old r => exact hQ _ _ _ _ p.drop ⟨rfl, Rep.mv (fun _ _ _ e => e) weak _ _ r⟩
  | tup hq r =>
    rename_i ds vs q
    refine hQ _ _ _ _ (new hq) ⟨rfl, q, vs, rfl, ⟨fun z => ?_, upd_same⟩, Reps.mv (fun a o _ e => k a hq e) weak _ _ r⟩
    rcases z with z | z
    · exact p.sim.owned z hq
    · exact p.sim.tr q (p.tl q z) hq
  | lst hq r =>
    rename_i ds vs q
    refine hQ _ _ _ _ (newT hq (by intro xs z; cases z)) ⟨q, rfl, p.step.dom q hq, rfl, vs, upd_same, Reps.mv (fun a o _ e => k a hq e) (fun a z => ?_) _ _ r⟩
    rcases z with z | z | z
    · exact .inl (.inl z)
    · exact .inl (.inr (p.tl a z))
    · exact .inr (by rw [z]; exact hq)
  | dK hq =>
    rename_i q
    exact hQ _ _ _ _ (newT hq (by intro xs z; cases z)) ⟨q, rfl, p.step.dom q hq, rfl, [], upd_same, rfl, rfl⟩
  | dT hq =>
    rename_i q
    exact hQ _ _ _ _ (newT hq (by intro xs z; cases z)) ⟨q, rfl, p.step.dom q hq, rfl, [], upd_same, rfl, rfl⟩
  | ext hq hk ho =>
    rename_i ob q
    have hm : Mut (H2 q) := ho.mut
    have st : Step m' T H' m' (TT1 T q) H2 := ⟨fun a o h _ => hk a o h, fun a h => .inl h, fun a h => h.elim .inl fun z => .inr (by rw [z]; exact hq), fun a h => by
      cases e : H' a with
      | none => rfl
      | some o => rw [hk a o e] at h; cases h⟩
    have S := p.drop.sim
    have S2 : Sim K (TT1 T q) σ H2 f' m' := S.move st (fun a o _ h => hk a o h) (fun a ha z => by
      rcases z with z | z
      · exact S.nt z ha
      · exact S.owned ha (by rw [z]; exact hq)) (fun a z => by
      rcases z with z | z
      · cases e : H' a with
        | none => exact absurd e (S.tr a z)
        | some o => rw [hk a o e]; intro z; cases z
      · rw [z]; intro e; rw [e] at hm; exact hm) fun a xs z => by
      rcases z with z | z
      · cases e : H' a with
        | none => exact absurd e (S.tr a z)
        | some o => rw [hk a o e]; intro z2; exact S.ntp a xs z (by rw [e, Option.some.inj z2])
      · rw [z]; intro e; rw [e] at hm; exact hm
    refine hQ _ _ _ _ (p.drop.trans ⟨S2, st, fun _ _ h => h, fun a h => .inl h, Kp.refl⟩) ⟨q, rfl, p.step.dom q hq, rfl, OwnAt.mv (fun _ _ _ e => e) (fun a z => ?_) (fun _ e => e) ho⟩
    rcases z with z | z | z
    · exact .inl (.inl (.inl z))
    · exact .inl (.inl (.inr (p.tl a z)))
    · exact .inl (.inr z)
end
end VI

set_option Elab.async false
set_option linter.all false
set_option maxRecDepth 100000
set_option maxHeartbeats 2000000
set_option autoImplicit false
namespace VI
open PySem PySem.Spec PyProof.Rows L2

def opOf : BO → Operator
  | .add => .Add | .sub => .Sub | .mul => .Mult | .fdiv => .FloorDiv | .mod => .Mod | .pow => .Pow
def cmOf : CO → CmpOp
  | .lt => .Lt | .le => .LtE | .gt => .Gt | .ge => .GtE | .eq => .Eq | .ne => .NotEq | .is_ => .Is | .isn => .IsNot | .in_ => .In | .nin => .NotIn

section
variable {K : PySem.W.Frag} {B : AP} {H : Hp}
theorem Rep.str_inv {s : List Nat} {x : V} (h : Rep K B H (.str s) x) : x = .str (tS s) ∧ s.length ≤ Lm := h
theorem tS_app (a b : List Nat) : tS a ++ tS b = tS (a ++ b) := by
  apply TL.ext_tl
  rw [TL.tl_append]
  rfl
theorem RtAt.tup {ds : List D} {x : V} (h : RtAt K B H (.v (.tup ds)) x) : ∃ a vs, x = .ref a ∧ TupB B H a vs ∧ Reps K B H ds vs := h
theorem RtAt.seq {r : Rt} {ds : List D} {x : V} (h : RtAt K B H r x) (e : seqR r = some ds) : ∃ a vs, x = .ref a ∧ (SqL K H a vs ∨ SqT K H a vs) ∧ Reps K B H ds vs := by
  unfold seqR at e
  split at e <;> cases e
  · obtain ⟨a, vs, e, ht, r⟩ := h; exact ⟨a, vs, e, .inr ht.sq, r⟩
  · obtain ⟨a, vs, e, ht, r⟩ := h; exact ⟨a, vs, e, .inl ht.sq, r⟩
  · obtain ⟨a, e, vs, ht, r⟩ := h; exact ⟨a, vs, e, .inl (SqL.of ht), r⟩
end

/-! ### binary operators -/
def rBin (K : PySem.W.Frag) (o : BO) : R2 := fun x y H Q => ∃ B u v w, RtAt K B H u x ∧ RtAt K B H v y ∧ opD o u v = some w ∧ Res K B H w Q
section
variable {X : Cx}
/-- list + list, whatever they are -/
theorem op_catL : OpR X (binaryOp .Add) (fun x y H Q => ∃ a b xs zs, x = .ref a ∧ y = .ref b ∧ SqL X.K H a xs ∧ SqL X.K H b zs ∧ xs.length + zs.length ≤ sizeLine ∧ ∀ p, H p = none → Q (.ref p) (upd H p (.lst (xs ++ zs)))) := by
  intro pins s σ H x y v u Q I rx ry h
  obtain ⟨a, b, xs, zs, rfl, rfl, hH, hB, hz, q⟩ := h
  cases rx
  cases ry
  obtain ⟨its, r, ⟨o, n, e, hc, hd, hs⟩, z⟩ := I.list hH
  obtain ⟨its2, r2, ⟨o2, n2, e2, hc2, hd2, hs2⟩, z2⟩ := I.list hB
  obtain ⟨cls, dd, data, sl⟩ := o
  obtain ⟨cls2, dd2, data2, sl2⟩ := o2
  simp only at hc hd hs hc2 hd2 hs2
  subst hc hs hc2 hs2
  have l1 := r.length
  have l2 := r2.length
  refine concat_meets ⟨_, e, rfl⟩ ⟨_, e2, rfl⟩ noFill_list_add seq_list_add PySem.F.slot_list_add PySem.F.entry_list_add (PySem.F.args_list_add_2 _ _) (list_addW a b its.toArray its2.toArray n n2 dd dd2 sl sl2 (by simp; omega)) ⟨e, e2, ?_⟩
  have ea : its.toArray ++ its2.toArray = (its ++ its2).toArray := by simp
  rw [ea]
  exact ⟨.ref _, _, I.lnew (t' := s.toks) (r.append r2) (by rw [List.length_append]; omega), rfl, q _ I.fresh⟩
theorem op_bin (o : BO) : OpR X (binaryOp (opOf o)) (rBin X.K o) := by
  intro pins s σ H x y v u Q I rx ry h
  obtain ⟨B, a, b, w, ha, hb, e, q⟩ := h
  unfold opD at e
  split at e
  · cases e
    exact op_add pins s σ H x y v u Q I rx ry ⟨_, _, ha, hb, q.int⟩
  · split at e
    · rename_i hl
      cases e
      refine op_add_str pins s σ H x y v u Q I rx ry ⟨_, _, ha.1, hb.1, ?_, ?_⟩
      · rw [tS_len, tS_len, lm_eq]; exact hl
      · rw [tS_app]; exact q.str (by rw [List.length_append]; exact hl)
    · cases e
  · split at e
    · rename_i ds es hl
      cases e
      obtain ⟨a1, vs, rfl, h1, r1⟩ := ha
      obtain ⟨b1, ws, rfl, h2, r2⟩ := hb
      have l1 := r1.length
      have l2 := r2.length
      refine op_catA pins s σ H _ _ v u Q I rx ry ⟨a1, b1, vs, ws, rfl, rfl, h1.sq, h2.sq, ?_, fun z => ?_, fun z z2 => ?_, fun z z2 p hp => q _ _ (.tup hp (r1.append r2))⟩
      · rw [lm_eq, l1, l2]; exact hl
      · subst z
        have e0 : ds = [] := List.length_eq_zero_iff.mp (by rw [← l1]; rfl)
        subst e0
        exact q _ _ (.old ⟨b1, ws, rfl, h2, r2⟩)
      · subst z2
        have e0 : es = [] := List.length_eq_zero_iff.mp (by rw [← l2]; rfl)
        subst e0
        rw [List.append_nil] at q
        exact q _ _ (.old ⟨a1, vs, rfl, h1, r1⟩)
    · cases e
  · split at e
    · rename_i ds es hl
      cases e
      obtain ⟨a1, vs, rfl, h1, r1⟩ := ha
      obtain ⟨b1, ws, rfl, h2, r2⟩ := hb
      refine op_catL pins s σ H _ _ v u Q I rx ry ⟨a1, b1, vs, ws, rfl, rfl, h1.sq, h2.sq, ?_, fun p hp => q _ _ (.lst hp (r1.append r2))⟩
      rw [lm_eq, r1.length, r2.length]; exact hl
    · cases e
  · split at e
    · rename_i ds es hl
      cases e
      obtain ⟨a1, vs, rfl, h1, r1⟩ := ha
      obtain ⟨b1, rfl, ws, h2, r2⟩ := hb
      refine op_catL pins s σ H _ _ v u Q I rx ry ⟨a1, b1, vs, ws, rfl, rfl, h1.sq, SqL.of h2, ?_, fun p hp => q _ _ (.lst hp (r1.append r2))⟩
      rw [lm_eq, r1.length, r2.length]; exact hl
    · cases e
  · split at e
    · rename_i ds es hl
      cases e
      obtain ⟨a1, rfl, vs, h1, r1⟩ := ha
      obtain ⟨b1, ws, rfl, h2, r2⟩ := hb
      refine op_catL pins s σ H _ _ v u Q I rx ry ⟨a1, b1, vs, ws, rfl, rfl, SqL.of h1, h2.sq, ?_, fun p hp => q _ _ (.lst hp (r1.append r2))⟩
      rw [lm_eq, r1.length, r2.length]; exact hl
    · cases e
  · split at e
    · rename_i ds es hl
      cases e
      obtain ⟨a1, rfl, vs, h1, r1⟩ := ha
      obtain ⟨b1, rfl, ws, h2, r2⟩ := hb
      refine op_cat pins s σ H _ _ v u Q I rx ry ⟨a1, b1, vs, ws, rfl, rfl, h1, h2, ?_, fun p hp => q _ _ (.lst hp (r1.append r2))⟩
      rw [lm_eq, r1.length, r2.length]; exact hl
    · cases e
  · cases e
    exact op_sub pins s σ H x y v u Q I rx ry ⟨_, _, ha, hb, q.int⟩
  · split at e
    · rename_i i j hm
      cases e
      rcases hm with hm | hm
      rotate_left
      · refine op_mulW pins s σ H x y v u Q I rx ry ⟨_, _, ha, hb, ?_, q.int⟩
        have := Nat.le_of_ble_eq_true hm
        unfold CMulW
        omega
      refine op_mul pins s σ H x y v u Q I rx ry ⟨_, _, ha, hb, ?_, q.int⟩
      unfold mulOk at hm
      rw [Bool.or_eq_true] at hm
      rcases hm with hm | hm
      · have hm := Nat.le_of_ble_eq_true hm
        exact .inl (by constructor <;> omega)
      · have hm := Nat.le_of_ble_eq_true hm
        exact .inr (by constructor <;> omega)
    · cases e
  · split at e
    · rename_i ds k hl
      cases e
      obtain ⟨a1, rfl, vs, h1, r1⟩ := ha
      refine op_rep pins s σ H _ _ v u Q I rx ry ⟨a1, k, vs, rfl, hb, h1, by have := Nat.le_of_ble_eq_true hl.1; omega, by have := Nat.le_of_ble_eq_true hl.1; omega, ?_, fun p hp => q _ _ (.lst hp (r1.rep k.toNat))⟩
      rw [lm_eq, r1.length]; exact hl.2
    · cases e
  · split at e
    · rename_i ds k hl
      cases e
      obtain ⟨a1, vs, rfl, h1, r1⟩ := ha
      refine op_repT pins s σ H _ _ v u Q I rx ry ⟨a1, k, vs, rfl, hb, h1.sq, fun z => ?_, by have := Nat.le_of_ble_eq_true hl.2.1; omega, by have := Nat.le_of_ble_eq_true hl.2.2.1; omega, by rw [r1.length]; exact hl.2.2.2, fun p hp => q _ _ (.tup hp (r1.rep k.toNat))⟩
      subst z
      have e0 : ds = [] := List.length_eq_zero_iff.mp (by rw [← r1.length]; rfl)
      rw [e0] at hl
      exact absurd hl.1 (by decide)
    · cases e
  · split at e
    · rename_i i j hm
      cases e
      rcases hm with hm | hm
      · exact op_fdivN pins s σ H x y v u Q I rx ry ⟨_, _, ha, hb, hm, q.int⟩
      · unfold wdOk at hm
        rw [Bool.and_eq_true, decide_eq_true_eq] at hm
        have h2 := Nat.le_of_ble_eq_true hm.2
        refine op_fdivW pins s σ H x y v u Q I rx ry ⟨_, _, ha, hb, ⟨hm.1, by omega⟩, ?_⟩
        have q := q.int
        rw [Int.fdiv_eq_ediv_of_nonneg i (Int.le_of_lt hm.1)] at q
        exact q
    · cases e
  · split at e
    · rename_i i j hm
      cases e
      exact op_modN pins s σ H x y v u Q I rx ry ⟨_, _, ha, hb, hm, q.int⟩
    · cases e
  · split at e
    · rename_i i j hm
      cases e
      exact op_pow pins s σ H x y v u Q I rx ry ⟨_, _, ha, hb, hm, q.int⟩
    · cases e
  · cases e
end

/-! ### equality -/
section
variable {K : PySem.W.Frag} {B : AP} {H : Hp}
mutual
theorem eqD_py : ∀ a b : D, PyData.eqv (toPy a) (toPy b) = eqD a b
  | .non, b => by cases b <;> simp [toPy, PyData.eqv, eqD]
  | .bl x, b => by cases b <;> simp [toPy, PyData.eqv, eqD]
  | .int x, b => by
    cases b <;> simp [toPy, PyData.eqv, eqD]
    rename_i j
    by_cases h : x = j <;> simp [h]
  | .str x, b => by
    cases b <;> simp [toPy, PyData.eqv, eqD]
    rename_i j
    by_cases h : x = j
    · simp [h]
    · have : tS x ≠ tS j := fun z => h (tS_inj z)
      simp [h, this]
  | .tup x, b => by
    cases b <;> simp [toPy, PyData.eqv, eqD]
    exact eqDs_py _ _
  | .lst x, b => by
    cases b <;> simp [toPy, PyData.eqv, eqD]
    exact eqDs_py _ _
theorem eqDs_py : ∀ a b : List D, PyData.eqvAll (toPys a) (toPys b) = eqDs a b
  | [], [] => by simp [toPys, PyData.eqvAll, eqDs]
  | [], y :: ys => by simp [toPys, PyData.eqvAll, eqDs]
  | x :: xs, [] => by simp [toPys, PyData.eqvAll, eqDs]
  | x :: xs, y :: ys => by simp [toPys, PyData.eqvAll, eqDs, eqD_py x y, eqDs_py xs ys]
end
mutual
theorem py_plain : ∀ a : D, (toPy a).plain = true
  | .non => by simp [toPy, PyData.plain]
  | .bl _ => by simp [toPy, PyData.plain]
  | .int _ => by simp [toPy, PyData.plain]
  | .str _ => by simp [toPy, PyData.plain]
  | .tup x => by simp [toPy, PyData.plain]; exact pys_plain x
  | .lst x => by simp [toPy, PyData.plain]; exact pys_plain x
theorem pys_plain : ∀ a : List D, PyData.plainAll (toPys a) = true
  | [] => by simp [toPys, PyData.plainAll]
  | x :: xs => by simp [toPys, PyData.plainAll]; exact ⟨py_plain x, pys_plain xs⟩
end
mutual
theorem py_depth : ∀ a : D, (toPy a).depth = dpt a
  | .non => by simp [toPy, PyData.depth, dpt]
  | .bl _ => by simp [toPy, PyData.depth, dpt]
  | .int _ => by simp [toPy, PyData.depth, dpt]
  | .str _ => by simp [toPy, PyData.depth, dpt]
  | .tup x => by simp [toPy, PyData.depth, dpt]; exact pys_depth x
  | .lst x => by simp [toPy, PyData.depth, dpt]; exact pys_depth x
theorem pys_depth : ∀ a : List D, PyData.depthAll (toPys a) = dpts a
  | [] => by simp [toPys, PyData.depthAll, dpts]
  | x :: xs => by simp [toPys, PyData.depthAll, dpts, py_depth x, pys_depth xs]
end
mutual
theorem Rep.dp : ∀ (d : D) (x : V), Rep K B H d x → Dp K H x (toPy d)
  | .non, x, h => by rw [show x = _ from h]; exact .non
  | .bl b, x, h => by rw [show x = _ from h]; exact .bl b
  | .int b, x, h => by rw [show x = _ from h]; exact .int b
  | .str b, x, h => by rw [h.1]; exact .str _
  | .tup ds, x, h => by
    obtain ⟨a, vs, rfl, ht, r⟩ := h
    exact .tup ht.sq (Reps.dp ds vs r)
  | .lst ds, x, h => by
    obtain ⟨a, vs, rfl, ht, r⟩ := h
    exact .lst ht.sq (Reps.dp ds vs r)
theorem Reps.dp : ∀ (ds : List D) (xs : List V), Reps K B H ds xs → DpAll K H xs (toPys ds)
  | [], xs, h => by rw [show xs = [] from h]; exact .nil
  | d :: ds, xs, h => by
    obtain ⟨v, r, rfl, h1, h2⟩ := h
    exact .cons (Rep.dp d v h1) (Reps.dp ds r h2)
end
theorem RtAt.dp {r : Rt} {d : D} {x : V} (h : RtAt K B H r x) (e : pyR r = some d) : Dp K H x (toPy d) := by
  unfold pyR at e
  split at e <;> cases e
  · exact Rep.dp _ _ h
  · obtain ⟨a, rfl, vs, h1, r⟩ := h
    exact .lst (SqL.of h1) (Reps.dp _ _ r)
theorem eqR_py {a b : Rt} {k : Bool} (e : eqR a b = some k) : ∃ d d', pyR a = some d ∧ pyR b = some d' ∧ min (dpt d) (dpt d') ≤ 60 ∧ eqD d d' = k := by
  unfold eqR at e
  split at e
  · split at e
    · cases e; exact ⟨_, _, rfl, rfl, by assumption, rfl⟩
    · cases e
  · split at e
    · cases e; exact ⟨_, _, rfl, rfl, by simpa only [dpt] using ‹_›, rfl⟩
    · cases e
  · split at e
    · cases e; exact ⟨_, _, rfl, rfl, by simpa only [dpt] using ‹_›, rfl⟩
    · cases e
  · split at e
    · cases e; exact ⟨_, _, rfl, rfl, by simpa only [dpt] using ‹_›, by simp only [eqD]⟩
    · cases e
  · cases e
end
section
variable {X : Cx}
theorem eq_ok (hu : X.A.units + 64 < cLine) {pins : List (Addr × Obj)} {s : Shared} {σ : L2.St} {H : Hp} {x y : V} {v u : Value} {Q : VK} {B : AP} {a b : Rt} {k : Bool} (I : Inv X pins σ H s) (rx : RelV x v) (ry : RelV y u)
    (ha : RtAt X.K B H a x) (hb : RtAt X.K B H b y) (e : eqR a b = some k) (q : Q (.bl k) H) : wpAny (model X.prog X.w) X.A (compareOp .Eq v u) (EP X pins σ Q) X.xe s := by
  obtain ⟨d, d', e1, e2, hm, rfl⟩ := eqR_py e
  obtain ⟨as, r1⟩ := Dp.reads I _ x v (ha.dp e1) rx
  obtain ⟨bs, r2⟩ := Dp.reads I _ y u (hb.dp e2) ry
  refine PySem.SeqAt.eq_plain r1 r2 (py_plain d) (py_plain d') ?_ ?_
  · rw [py_depth, py_depth]; omega
  · rw [eqD_py]; exact ⟨.bl _, H, I, rfl, q⟩
theorem ne_ok (hu : X.A.units + 64 < cLine) {pins : List (Addr × Obj)} {s : Shared} {σ : L2.St} {H : Hp} {x y : V} {v u : Value} {Q : VK} {B : AP} {a b : Rt} {k : Bool} (I : Inv X pins σ H s) (rx : RelV x v) (ry : RelV y u)
    (ha : RtAt X.K B H a x) (hb : RtAt X.K B H b y) (e : eqR a b = some k) (q : Q (.bl (!k)) H) : wpAny (model X.prog X.w) X.A (compareOp .NotEq v u) (EP X pins σ Q) X.xe s := by
  obtain ⟨d, d', e1, e2, hm, rfl⟩ := eqR_py e
  obtain ⟨as, r1⟩ := Dp.reads I _ x v (ha.dp e1) rx
  obtain ⟨bs, r2⟩ := Dp.reads I _ y u (hb.dp e2) ry
  refine PySem.SeqAt.ne_plain r1 r2 (py_plain d) (py_plain d') ?_ ?_
  · rw [py_depth, py_depth]; omega
  · rw [eqD_py]; exact ⟨.bl _, H, I, rfl, q⟩
end

/-! ### comparisons -/
section
variable {K : PySem.W.Frag} {B : AP} {H : Hp}
theorem intL_reps : ∀ {ds : List D} {ns : List Int} {vs : List V}, intL ds = some ns → Reps K B H ds vs → vs = ns.map V.int ∧ ds = ns.map D.int
  | [], ns, vs, e, r => by
    simp only [intL, Option.some.injEq] at e
    subst e
    exact ⟨r, rfl⟩
  | d :: ds, ns, vs, e, r => by
    obtain ⟨v, w, rfl, h1, h2⟩ := r
    cases d with
    | int i =>
      simp only [intL, Option.map_eq_some_iff] at e
      obtain ⟨r, e1, rfl⟩ := e
      obtain ⟨z1, z2⟩ := intL_reps e1 h2
      rw [show v = _ from h1, z1, z2]
      exact ⟨rfl, rfl⟩
    | _ => simp [intL] at e
theorem boolL_reps : ∀ {ds : List D} {ns : List Bool} {vs : List V}, boolL ds = some ns → Reps K B H ds vs → vs = ns.map V.bl
  | [], ns, vs, e, r => by
    simp only [boolL, Option.some.injEq] at e
    subst e
    exact r
  | d :: ds, ns, vs, e, r => by
    obtain ⟨v, w, rfl, h1, h2⟩ := r
    cases d with
    | bl i =>
      simp only [boolL, Option.map_eq_some_iff] at e
      obtain ⟨r, e1, rfl⟩ := e
      rw [show v = _ from h1, boolL_reps e1 h2]
      rfl
    | _ => simp [boolL] at e
theorem strL_reps : ∀ {ds : List D} {ns : List (List Nat)} {vs : List V}, strL ds = some ns → Reps K B H ds vs → vs = (ns.map tS).map V.str ∧ ∀ x ∈ ns, x.length ≤ Lm
  | [], ns, vs, e, r => by
    simp only [strL, Option.some.injEq] at e
    subst e
    exact ⟨r, fun _ h => nomatch h⟩
  | d :: ds, ns, vs, e, r => by
    obtain ⟨v, w, rfl, h1, h2⟩ := r
    cases d with
    | str i =>
      simp only [strL, Option.map_eq_some_iff] at e
      obtain ⟨r, e1, rfl⟩ := e
      obtain ⟨z1, z2⟩ := strL_reps e1 h2
      rw [h1.1, z1]
      refine ⟨rfl, fun x hx => ?_⟩
      rcases List.mem_cons.mp hx with rfl | hx
      · exact h1.2
      · exact z2 x hx
    | _ => simp [strL] at e
theorem lexLtI_eq : ∀ a b : List Int, lexLtI a b = HT.lexLt a b
  | [], [] => rfl
  | [], _ :: _ => rfl
  | _ :: _, [] => rfl
  | x :: xs, y :: ys => by simp only [lexLtI, HT.lexLt, lexLtI_eq xs ys]
theorem keys1_reps : ∀ {ds : List D} {ks : List K1} {vs : List V}, keys1 ds = some ks → Reps K B H ds vs → vs = (ks.map tK).map kV
  | [], ks, vs, e, r => by
    simp only [keys1, Option.some.injEq] at e
    subst e
    exact r
  | d :: ds, ks, vs, e, r => by
    obtain ⟨v, w, rfl, h1, h2⟩ := r
    simp only [keys1] at e
    cases d with
    | int i =>
      simp only [key1, Option.bind_some, Option.map_eq_some_iff] at e
      obtain ⟨r, e1, rfl⟩ := e
      rw [show v = _ from h1, keys1_reps e1 h2]
      rfl
    | str i =>
      simp only [key1, Option.bind_some, Option.map_eq_some_iff] at e
      obtain ⟨r, e1, rfl⟩ := e
      rw [h1.1, keys1_reps e1 h2]
      rfl
    | _ => simp [key1] at e
theorem look_val {κ κ' : Type} [DecidableEq κ] [DecidableEq κ'] {g : κ → κ'} (hg : ∀ a b, g a = g b → a = b) (k : κ) : ∀ {kvs : List (κ × D)} {kws : List (κ' × V)}, kws.map (·.1) = kvs.map (fun p => g p.1) → Reps K B H (kvs.map (·.2)) (kws.map (·.2)) →
    (look kvs k = none ∧ valV kws (g k) = none) ∨ ∃ d v, look kvs k = some d ∧ valV kws (g k) = some v ∧ Rep K B H d v
  | [], [], _, _ => .inl ⟨rfl, rfl⟩
  | [], q :: _, e, _ => by simp at e
  | p :: _, [], e, _ => by simp at e
  | p :: ps, q :: qs, e, r => by
    simp only [List.map_cons, List.cons.injEq] at e
    obtain ⟨v, w, e2, h1, h2⟩ := r
    simp only [List.map_cons, List.cons.injEq] at e2
    obtain ⟨rfl, rfl⟩ := e2
    by_cases hk : p.1 = k
    · refine .inr ⟨p.2, q.2, ?_, valV_pos (by rw [e.1, hk]), h1⟩
      simp [look, List.find?_cons, hk]
    · have e3 : look (p :: ps) k = look ps k := by simp [look, List.find?_cons, hk]
      rw [e3, valV_neg (fun z => hk (hg _ _ (by rw [← e.1, z])))]
      exact look_val hg k e.2 h2
theorem dget_ok {a : Addr} {ob : Ob} {r : Rt} {y : V} {o : Option D} (h : OwnAt K B H a ob) (hy : RtAt K B H r y) (e : dget ob r = some o) :
    ∃ ov, DGet H a y ov ∧ ((o = none ∧ ov = none) ∨ ∃ d v, o = some d ∧ ov = some v ∧ Rep K B H d v) := by
  cases ob with
  | lst _ => simp [dget] at e
  | dK kvs =>
    obtain ⟨kws, h1, h2, h3⟩ := h
    simp only [dget, Option.map_eq_some_iff] at e
    obtain ⟨k, e1, rfl⟩ := e
    have ey : y = kV (tK k) := by
      unfold key1 at e1
      split at e1 <;> cases e1
      · exact hy
      · exact hy.1
    subst ey
    refine ⟨_, DGet.k h1, ?_⟩
    rcases look_val (g := tK) (fun _ _ => tK_inj) k h2 h3 with ⟨q1, q2⟩ | ⟨d, v, q1, q2, q3⟩
    · exact .inl ⟨q1, q2⟩
    · exact .inr ⟨d, v, q1, q2, q3⟩
  | dT kvs =>
    obtain ⟨kws, h1, h2, h3⟩ := h
    simp only [dget, Option.map_eq_some_iff] at e
    obtain ⟨k, e1, rfl⟩ := e
    unfold keyT at e1
    split at e1
    · obtain ⟨b, vs, rfl, ht, r⟩ := hy
      have ev := keys1_reps e1 r
      subst ev
      refine ⟨_, DGet.t h1 ht.2, ?_⟩
      rcases look_val (g := List.map tK) (fun _ _ => tKs_inj) k h2 h3 with ⟨q1, q2⟩ | ⟨d, v, q1, q2, q3⟩
      · exact .inl ⟨q1, q2⟩
      · exact .inr ⟨d, v, q1, q2, q3⟩
    · cases e1
end
def rCm (K : PySem.W.Frag) (o : CO) : R2 := fun x y H Q => ∃ B u v k, RtAt K B H u x ∧ RtAt K B H v y ∧ cmpD o u v = some k ∧ Q (.bl k) H
section
variable {X : Cx}
theorem any_eqv (d : D) : ∀ ds : List D, ((toPys ds).any fun y => PyData.eqv y (toPy d)) = inSeq d ds
  | [] => rfl
  | x :: xs => by simp only [toPys, List.any_cons, eqD_py, any_eqv d xs, inSeq]
theorem dec_mem (c : Nat) (t : List Nat) {i : Decidable (c ∈ (tS t).cps.toList)} : decide (c ∈ (tS t).cps.toList) = decide (c ∈ t) := decide_eq_decide.mpr (by simp [tS])
/-- x in y, x not in y -/
theorem in_ok (hu : X.A.units + 65 < cLine) (neg : Bool) {pins : List (Addr × Obj)} {s : Shared} {σ : L2.St} {H : Hp} {x y : V} {v u : Value} {Q : VK} {B : AP} {a b : Rt} {k : Bool} (I : Inv X pins σ H s) (rx : RelV x v) (ry : RelV y u)
    (ha : RtAt X.K B H a x) (hb : RtAt X.K B H b y) (e : inD a b = some k) (q : Q (.bl (if neg then !k else k)) H) : wpAny (model X.prog X.w) X.A (compareOp (if neg then .NotIn else .In) v u) (EP X pins σ Q) X.xe s := by
  have dict : ∀ (ad : Addr) (ob : Ob) (o : Option D), y = .ref ad → OwnAt X.K B H ad ob → dget ob a = some o → k = o.isSome → wpAny (model X.prog X.w) X.A (compareOp (if neg then .NotIn else .In) v u) (EP X pins σ Q) X.xe s := by
    intro ad ob o ey ho hg ek
    subst ey
    cases ry
    obtain ⟨ov, g, hov⟩ := dget_ok ho ha hg
    have es : o.isSome = ov.isSome := by
      rcases hov with ⟨h1, h2⟩ | ⟨d, v, h1, h2, _⟩ <;> rw [h1, h2] <;> rfl
    cases neg with
    | true => exact d_notIn (by omega) I g rx fun s' I' => ⟨.bl _, H, I', rfl, by rw [← es, ← ek]; exact q⟩
    | false => exact d_in (by omega) I g rx fun s' I' => ⟨.bl _, H, I', rfl, by rw [← es, ← ek]; exact q⟩
  unfold inD at e
  split at e
  · rename_i c t
    cases e
    obtain ⟨rfl, _⟩ := ha
    obtain ⟨rfl, _⟩ := hb
    cases neg with
    | true => exact op_notIn_sign pins s σ H _ _ v u Q I rx ry ⟨c, tS t, rfl, rfl, by rw [dec_mem]; exact q⟩
    | false => exact op_in_sign pins s σ H _ _ v u Q I rx ry ⟨c, tS t, rfl, rfl, by rw [dec_mem]; exact q⟩
  · rename_i d ds
    split at e <;> cases e
    obtain ⟨as, r1⟩ := Dp.reads I _ x v (Rep.dp _ _ ha) rx
    obtain ⟨bs, r2⟩ := Dp.reads I _ y u (Rep.dp _ _ hb) ry
    rw [toPy] at r2
    have hr : X.A.units + 1 + min (PyData.depthAll (toPys ds)) (toPy d).depth < cLine := by rw [pys_depth, py_depth]; omega
    cases neg with
    | true => exact SeqAt.notIn_tuple_data r2 r1 (pys_plain _) (py_plain _) hr (by rw [any_eqv]; exact ⟨.bl _, H, I, rfl, q⟩)
    | false => exact SeqAt.in_tuple_data r2 r1 (pys_plain _) (py_plain _) hr (by rw [any_eqv]; exact ⟨.bl _, H, I, rfl, q⟩)
  · rename_i d ds
    split at e <;> cases e
    obtain ⟨as, r1⟩ := Dp.reads I _ x v (Rep.dp _ _ ha) rx
    obtain ⟨bs, r2⟩ := Dp.reads I _ y u (Rep.dp _ _ hb) ry
    rw [toPy] at r2
    have hr : X.A.units + 1 + min (PyData.depthAll (toPys ds)) (toPy d).depth < cLine := by rw [pys_depth, py_depth]; omega
    cases neg with
    | true => exact SeqAt.notIn_list_data r2 r1 (pys_plain _) (py_plain _) hr (by rw [any_eqv]; exact ⟨.bl _, H, I, rfl, q⟩)
    | false => exact SeqAt.in_list_data r2 r1 (pys_plain _) (py_plain _) hr (by rw [any_eqv]; exact ⟨.bl _, H, I, rfl, q⟩)
  · rename_i d ds
    split at e <;> cases e
    obtain ⟨as, r1⟩ := Dp.reads I _ x v (Rep.dp _ _ ha) rx
    obtain ⟨bs, r2⟩ := Dp.reads I _ y u (RtAt.dp hb rfl) ry
    rw [toPy] at r2
    have hr : X.A.units + 1 + min (PyData.depthAll (toPys ds)) (toPy d).depth < cLine := by rw [pys_depth, py_depth]; omega
    cases neg with
    | true => exact SeqAt.notIn_list_data r2 r1 (pys_plain _) (py_plain _) hr (by rw [any_eqv]; exact ⟨.bl _, H, I, rfl, q⟩)
    | false => exact SeqAt.in_list_data r2 r1 (pys_plain _) (py_plain _) hr (by rw [any_eqv]; exact ⟨.bl _, H, I, rfl, q⟩)
  · rw [Option.map_eq_some_iff] at e
    obtain ⟨o, e1, e2⟩ := e
    obtain ⟨ad, ey, ho⟩ := hb
    exact dict ad _ o ey ho e1 e2.symm
  · rw [Option.map_eq_some_iff] at e
    obtain ⟨o, e1, e2⟩ := e
    obtain ⟨ad, ey, ho⟩ := hb
    exact dict ad _ o ey ho e1 e2.symm
  · cases e
theorem str_lt (x y : List Nat) : decide ((tS x).cps.toList < (tS y).cps.toList) = decide (x < y) := decide_eq_decide.mpr (by simp [tS])
theorem isNon_eq {K : PySem.W.Frag} {B : AP} {H : Hp} {d : D} {x : V} (ha : Rep K B H d x) : decide (x = V.non) = isNon d := by
  cases d with
  | non => rw [show x = _ from ha]; rfl
  | bl _ => rw [show x = _ from ha]; rfl
  | int _ => rw [show x = _ from ha]; rfl
  | str _ => rw [ha.1]; rfl
  | tup _ => obtain ⟨_, _, rfl, _⟩ := ha; rfl
  | lst _ => obtain ⟨_, _, rfl, _⟩ := ha; rfl
theorem op_cm (hu : X.A.units + 65 < cLine) (o : CO) : OpR X (compareOp (cmOf o)) (rCm X.K o) := by
  intro pins s σ H x y v u Q I rx ry h
  obtain ⟨B, a, b, k, ha, hb, e, q⟩ := h
  unfold cmpD at e
  split at e
  · cases e; exact op_lt pins s σ H x y v u Q I rx ry ⟨_, _, ha, hb, q⟩
  · cases e; exact op_le pins s σ H x y v u Q I rx ry ⟨_, _, ha, hb, q⟩
  · cases e; exact op_gt pins s σ H x y v u Q I rx ry ⟨_, _, ha, hb, q⟩
  · cases e; exact op_ge pins s σ H x y v u Q I rx ry ⟨_, _, ha, hb, q⟩
  · cases e; exact op_lt_str pins s σ H x y v u Q I rx ry ⟨_, _, ha.1, hb.1, by rw [str_lt]; exact q⟩
  · cases e; exact op_gt_str pins s σ H x y v u Q I rx ry ⟨_, _, ha.1, hb.1, by rw [str_lt]; exact q⟩
  · cases e; exact op_le_str pins s σ H x y v u Q I rx ry ⟨_, _, ha.1, hb.1, by rw [str_lt]; exact q⟩
  · simp only [Option.bind_eq_some_iff, Option.map_eq_some_iff] at e
    obtain ⟨ns, e1, ms, e2, rfl⟩ := e
    obtain ⟨a1, vs, rfl, h1, r1⟩ := ha
    obtain ⟨b1, ws, rfl, h2, r2⟩ := hb
    obtain ⟨rfl, _⟩ := intL_reps e1 r1
    obtain ⟨rfl, _⟩ := intL_reps e2 r2
    exact op_ltT (by omega) pins s σ H _ _ v u Q I rx ry ⟨a1, b1, ns, ms, rfl, rfl, h1.sq, h2.sq, by rw [← lexLtI_eq]; exact q⟩
  · exact eq_ok (by omega) I rx ry ha hb e q
  · rw [Option.map_eq_some_iff] at e
    obtain ⟨k0, e1, rfl⟩ := e
    exact ne_ok (by omega) I rx ry ha hb e1 q
  · cases e
    refine op_isN pins s σ H x y v u Q I rx ry ⟨hb, ?_⟩
    rw [isNon_eq ha]; exact q
  · cases e
    refine op_notN pins s σ H x y v u Q I rx ry ⟨hb, ?_⟩
    rw [isNon_eq ha]; exact q
  · cases e
    exact op_is_bl pins s σ H x y v u Q I rx ry ⟨_, _, ha, hb, q⟩
  · cases e
    exact op_isnot_bl pins s σ H x y v u Q I rx ry ⟨_, _, ha, hb, q⟩
  · exact in_ok hu false I rx ry ha hb e q
  · rw [Option.map_eq_some_iff] at e
    obtain ⟨k0, e1, rfl⟩ := e
    exact in_ok hu true I rx ry ha hb e1 q
  · cases e
end
end VI

set_option Elab.async false
set_option linter.all false
set_option maxRecDepth 100000
set_option maxHeartbeats 2000000
set_option autoImplicit false
namespace VI
open PySem PySem.Spec PyProof.Rows L2

mutual
theorem toPy_inj : ∀ {a b : D}, toPy a = toPy b → a = b
  | .non, b, h => by cases b <;> simp [toPy] at h; rfl
  | .bl x, b, h => by cases b <;> simp [toPy] at h; rw [h]
  | .int x, b, h => by cases b <;> simp [toPy] at h; rw [h]
  | .str x, b, h => by cases b <;> simp [toPy] at h; rw [tS_inj h]
  | .tup x, b, h => by cases b <;> simp [toPy] at h; rw [toPys_inj h]
  | .lst x, b, h => by cases b <;> simp [toPy] at h; rw [toPys_inj h]
theorem toPys_inj : ∀ {a b : List D}, toPys a = toPys b → a = b
  | [], b, h => by cases b <;> simp [toPys] at h; rfl
  | x :: xs, b, h => by
    cases b with
    | nil => simp [toPys] at h
    | cons y ys => simp [toPys] at h; rw [toPy_inj h.1, toPys_inj h.2]
end
theorem toPys_map : ∀ ds : List D, toPys ds = ds.map toPy
  | [] => rfl
  | d :: ds => by rw [toPys, toPys_map ds]; rfl
theorem dpts_of_mem : ∀ {ds : List D} {d : D}, d ∈ ds → dpt d ≤ dpts ds
  | e :: ds, d, h => by
    rw [dpts]
    rcases List.mem_cons.mp h with rfl | h
    · exact Nat.le_max_left _ _
    · exact Nat.le_trans (dpts_of_mem h) (Nat.le_max_right _ _)
theorem leD_total : PySem.W.TotalLe leD := PySem.W.sortLe_total (PyProof.Rows.listOrd PyProof.Rows.itemOrd) false fun b => PySem.W.keyToks (toPy b)
theorem leD_trans {a b c : D} (h : leD a b = true) (h' : leD b c = true) : leD a c = true := leD_total.trans a b c h h'
theorem insD_perm (d : D) : ∀ l : List D, (insD d l).Perm (d :: l)
  | [] => .refl _
  | x :: l => by
    rw [insD]
    split
    · exact .refl _
    · exact ((insD_perm d l).cons x).trans (.swap ..)
theorem insD_sorted (d : D) : ∀ l : List D, l.Pairwise (fun a b => leD a b = true) → (insD d l).Pairwise (fun a b => leD a b = true)
  | [], _ => .cons (fun _ h => nomatch h) .nil
  | x :: l, h => by
    rw [insD]
    cases h with
    | cons h1 h2 =>
      split
      · rename_i hd
        refine .cons (fun y hy => ?_) (.cons h1 h2)
        rcases List.mem_cons.mp hy with rfl | hy
        · exact hd
        · exact leD_trans hd (h1 y hy)
      · rename_i hd
        have hx : leD x d = true := by
          rcases leD_total.total x d with q | q
          · exact q
          · exact absurd q hd
        refine .cons (fun y hy => ?_) (insD_sorted d l h2)
        rcases List.mem_cons.mp ((insD_perm d l).mem_iff.mp hy) with rfl | hy
        · exact hx
        · exact h1 y hy
theorem srtD_perm : ∀ l : List D, (srtD l).Perm l
  | [] => .refl _
  | d :: l => (insD_perm d (srtD l)).trans ((srtD_perm l).cons d)
theorem srtD_sorted : ∀ l : List D, (srtD l).Pairwise (fun a b => leD a b = true)
  | [] => .nil
  | d :: l => insD_sorted d _ (srtD_sorted l)
theorem insD_filter (c d : D) : ∀ l : List D, l.Pairwise (fun a b => leD a b = true) → (insD d l).filter (PySem.W.sameRank leD c) = (d :: l).filter (PySem.W.sameRank leD c)
  | [], _ => rfl
  | x :: l, h => by
    rw [insD]
    cases h with
    | cons h1 h2 =>
      split
      · rfl
      · rename_i hd
        have ih := insD_filter c d l h2
        rw [List.filter_cons, ih, List.filter_cons, List.filter_cons, List.filter_cons]
        by_cases hc : PySem.W.sameRank leD c d = true
        · by_cases hx : PySem.W.sameRank leD c x = true
          · exfalso
            apply hd
            unfold PySem.W.sameRank at hc hx
            rw [Bool.and_eq_true] at hc hx
            exact leD_trans hc.2 hx.1
          · simp only [hc, hx, if_true]
            simp
        · simp only [hc]
          simp
theorem srtD_filter (c : D) : ∀ l : List D, (srtD l).filter (PySem.W.sameRank leD c) = l.filter (PySem.W.sameRank leD c)
  | [] => rfl
  | d :: l => by
    show (insD d (srtD l)).filter _ = _
    rw [insD_filter c d _ (srtD_sorted l), List.filter_cons, List.filter_cons, srtD_filter c l]
theorem srtD_eq (l : List D) : srtD l = l.mergeSort leD := PySem.W.sort_unique leD_total (srtD_sorted l) fun c => srtD_filter c l
section
variable {X : Cx}
theorem each_zip {K : PySem.W.Frag} {B : AP} {H : Hp} : ∀ {ds : List D} {vs : List V} {us : List Value}, Reps K B H ds vs → Vals vs us → PySem.W.EachIs (fun (u : Value) (b : D × V) => RelV b.2 u) us (ds.zip vs)
  | [], vs, us, r, v => by rw [show vs = [] from r] at v; cases v; exact .nil
  | d :: ds, vs, us, r, v => by
    obtain ⟨w, ws, rfl, h1, h2⟩ := r
    cases v with
    | cons a b => exact .cons a (each_zip h2 b)
theorem reps_zip {K : PySem.W.Frag} {B : AP} {H : Hp} : ∀ {ds : List D} {vs : List V}, Reps K B H ds vs → ∀ p ∈ ds.zip vs, Rep K B H p.1 p.2
  | [], vs, r, p, hp => by simp at hp
  | d :: ds, vs, r, p, hp => by
    obtain ⟨w, ws, rfl, h1, h2⟩ := r
    rw [List.zip_cons_cons] at hp
    rcases List.mem_cons.mp hp with rfl | hp
    · exact h1
    · exact reps_zip h2 p hp
theorem reps_of_zip {K : PySem.W.Frag} {B : AP} {H : Hp} : ∀ {l : List (D × V)}, (∀ p ∈ l, Rep K B H p.1 p.2) → Reps K B H (l.map Prod.fst) (l.map Prod.snd)
  | [], _ => rfl
  | p :: l, h => ⟨p.2, l.map Prod.snd, rfl, h p (List.mem_cons_self ..), reps_of_zip fun q hq => h q (List.mem_cons_of_mem _ hq)⟩
theorem each_vals : ∀ {us : List Value} {l : List (D × V)}, PySem.W.EachIs (fun (u : Value) (b : D × V) => RelV b.2 u) us l → Vals (l.map Prod.snd) us
  | _, _, .nil => .nil
  | _, _, .cons a b => .cons a (each_vals b)
theorem zip_fst {α β : Type} : ∀ {a : List α} {b : List β}, b.length = a.length → (a.zip b).map Prod.fst = a
  | [], _, _ => by simp
  | x :: a, [], h => by simp at h
  | x :: a, y :: b, h => by simp [zip_fst (a := a) (b := b) (by simpa using h)]
theorem dps_reads {pins : List (Addr × Obj)} {σ : L2.St} {H : Hp} {s : Shared} (I : Inv X pins σ H s) {B : AP} : ∀ {ds : List D} {vs : List V} {us : List Value}, Reps X.K B H ds vs → Vals vs us → PySem.W.EachIs (fun (u : Value) (b : D × V) => ∃ as, Reads s.heap u (toPy b.1) as) us (ds.zip vs)
  | [], vs, us, r, v => by rw [show vs = [] from r] at v; cases v; exact .nil
  | d :: ds, vs, us, r, v => by
    obtain ⟨w, ws, rfl, h1, h2⟩ := r
    cases v with
    | cons a b => exact .cons (Dp.reads I (toPy d) w _ (Rep.dp d w h1) a) (dps_reads I h2 b)
theorem alk_of {ds : List D} (h : alkD ds = true) : ∀ a ∈ ds, ∀ b ∈ ds, PySem.W.alike (toPy a) (toPy b) = true := by
  unfold alkD at h
  rw [List.all_eq_true] at h
  intro a ha b hb
  have := h a ha
  rw [List.all_eq_true] at this
  exact this b hb
theorem srt_of {ds : List D} (h : srtK ds = true) : PySem.W.Sortable (ds.map toPy) := by
  unfold srtK at h
  rw [Bool.or_eq_true, List.all_eq_true, List.all_eq_true] at h
  rcases h with h | h
  · refine .inl fun d hd => ?_
    obtain ⟨e, he, rfl⟩ := List.mem_map.mp hd
    have := h e he
    split at this
    · exact ⟨_, _, rfl⟩
    · cases this
  · refine .inr fun d hd => ?_
    obtain ⟨e, he, rfl⟩ := List.mem_map.mp hd
    have := h e he
    split at this
    · cases this
    · cases this
    · constructor
      · intro z; cases e <;> simp [toPy] at z <;> simp at *
      · intro xs z; cases e <;> simp [toPy] at z <;> simp at *
theorem cr_sortedD (hu : X.A.units + 65 < cLine) : CallR X (.builtin "sorted") (fun xs H Q => ∃ (B : AP) (a : Addr) (vs : List V) (ds : List D), xs = [.ref a] ∧ SqL X.K H a vs ∧ Reps X.K B H ds vs ∧ alkD ds = true ∧ srtK ds = true ∧ dpts ds ≤ 60 ∧
    ∀ (vs' : List V) (p : Addr), Reps X.K B H (srtD ds) vs' → H p = none → Q (.ref p) (upd H p (.lst vs'))) := by
  intro pins s σ H xs us Q I r h
  obtain ⟨B, a, vs, ds, rfl, hs, hr, h1, h2, h3, q⟩ := h
  obtain ⟨its, rv, hl, hz⟩ := I.list hs
  rw [Vals.ref1 r]
  have hlen := hr.length
  have e1 := each_zip hr rv
  have e2 := dps_reads I hr rv
  have hmap : (ds.zip vs).map (fun b : D × V => toPy b.1) = ds.map toPy := by
    rw [show (fun b : D × V => toPy b.1) = toPy ∘ Prod.fst from rfl, ← List.map_map, zip_fst hlen]
  have hmem : ∀ b ∈ ds.zip vs, b.1 ∈ ds := fun b hb => (List.of_mem_zip hb).1
  have hzl : (ds.zip vs).length ≤ sizeLine := by rw [List.length_zip, hlen]; simp; omega
  refine PySem.W.sorted_data (R := fun (u : Value) (b : D × V) => RelV b.2 u) (enc := fun b : D × V => toPy b.1) (bs := ds.zip vs) hl.isList e1 e2 ?_ ?_ hzl (fun b hb => ?_) fun out ho eo => ?_
  · rw [hmap]
    intro d hd d' hd'
    obtain ⟨x, hx, rfl⟩ := List.mem_map.mp hd
    obtain ⟨y, hy, rfl⟩ := List.mem_map.mp hd'
    exact alk_of h1 x hx y hy
  · rw [hmap]; exact srt_of h2
  · have := dpts_of_mem (hmem b hb)
    rw [py_depth]
    omega
  · have hm : ((ds.zip vs).mergeSort (PySem.W.dataLe false fun b : D × V => toPy b.1)).map Prod.fst = srtD ds := by
      have hsm := PySem.W.sort_maps (r := PySem.W.dataLe false fun b : D × V => toPy b.1) (s := leD) (f := Prod.fst) (l := ds.zip vs) (fun _ _ _ _ => rfl)
      rw [srtD_eq, hsm, zip_fst hlen]
    obtain ⟨c, hc⟩ := PyProof.Rows.sortedAll_at s.heap its out.toArray
    have hperm := List.mergeSort_perm (ds.zip vs) (PySem.W.dataLe false fun b : D × V => toPy b.1)
    have hreps := reps_of_zip (K := X.K) (B := B) (H := H) (l := (ds.zip vs).mergeSort (PySem.W.dataLe false fun b : D × V => toPy b.1)) fun p hp => reps_zip hr p (hperm.mem_iff.mp hp)
    rw [hm] at hreps
    have hv := each_vals eo
    refine ⟨.ref (s.heap.objs.size + 1), _, I.laid (t' := s.toks) (o := .lst (((ds.zip vs).mergeSort (PySem.W.dataLe false fun b : D × V => toPy b.1)).map Prod.snd)) (fun b u e => PyProof.Rows.sortedAll_old e) (Nat.le_succ _) ⟨?_, out, c, hv, hc⟩, rfl, q _ _ hreps (I.hok.fresh (Nat.le_succ _))⟩
    rw [hv.length, ho]; exact hzl
theorem minDD_py (d : D) : ∀ l : List D, toPy (minDD d l) = PySem.W.minD (toPy d) (l.map toPy) := by
  intro l
  unfold minDD PySem.W.minD
  induction l generalizing d with
  | nil => rfl
  | cons x l ih =>
    rw [List.foldl_cons, List.map_cons, List.foldl_cons, ih]
    unfold ltD
    by_cases h : PySem.W.dataLt (toPy x) (toPy d) = true
    · rw [if_pos h, if_pos h]
    · rw [if_neg h, if_neg h]
theorem maxDD_py (d : D) : ∀ l : List D, toPy (maxDD d l) = PySem.W.maxD (toPy d) (l.map toPy) := by
  intro l
  unfold maxDD PySem.W.maxD
  induction l generalizing d with
  | nil => rfl
  | cons x l ih =>
    rw [List.foldl_cons, List.map_cons, List.foldl_cons, ih]
    unfold ltD
    by_cases h : PySem.W.dataLt (toPy d) (toPy x) = true
    · rw [if_pos h, if_pos h]
    · rw [if_neg h, if_neg h]
theorem fold_mem {f : D → D → D} (hf : ∀ a b, f a b = a ∨ f a b = b) : ∀ (l : List D) (d : D), l.foldl f d ∈ d :: l
  | [], d => by simp
  | x :: l, d => by
    rw [List.foldl_cons]
    have := fold_mem hf l (f d x)
    rcases List.mem_cons.mp this with h | h
    · rw [h]
      rcases hf d x with q | q <;> rw [q] <;> simp
    · exact List.mem_cons_of_mem _ (List.mem_cons_of_mem _ h)
theorem minDD_mem (d : D) (l : List D) : minDD d l ∈ d :: l := fold_mem (fun a b => by by_cases h : ltD b a = true <;> simp [h]) l d
theorem maxDD_mem (d : D) (l : List D) : maxDD d l ∈ d :: l := fold_mem (fun a b => by by_cases h : ltD a b = true <;> simp [h]) l d
theorem non_of {ds : List D} (h : nonN ds = true) : ∀ x ∈ ds.map toPy, x ≠ .none := by
  unfold nonN at h
  rw [List.all_eq_true] at h
  intro x hx
  obtain ⟨d, hd, rfl⟩ := List.mem_map.mp hx
  have := h d hd
  intro z
  cases d <;> simp [toPy] at z
  simp [isNon] at this
theorem alkAll {ds : List D} (h : alkD ds = true) (h2 : nonN ds = true) : PySem.W.AlikeAll (ds.map toPy) := by
  refine ⟨fun x hx y hy => ?_, non_of h2⟩
  obtain ⟨a, ha, rfl⟩ := List.mem_map.mp hx
  obtain ⟨b, hb, rfl⟩ := List.mem_map.mp hy
  exact alk_of h a ha b hb
theorem pys_depth' (ds : List D) : PyData.depthAll (ds.map toPy) = dpts ds := by rw [← toPys_map, pys_depth]
/-- the value that is met: it stands for the one that is told -/
theorem pick_best {pins : List (Addr × Obj)} {σ : L2.St} {H : Hp} {s : Shared} (I : Inv X pins σ H s) {B : AP} {ds : List D} {vs : List V} {its : List Value} (hr : Reps X.K B H ds vs) (rv : Vals vs its) {m : D} (hm : m ∈ ds) (ha : alkD ds = true) {i : Nat} {v : Value} (hv : its[i]? = some v)
    {h' : Heap} {bs : List Addr} (rd : Reads h' v (toPy m) bs) (hk : ∀ b o, s.heap.get? b = some o → h'.get? b = some o) : ∃ z, RelV z v ∧ Rep X.K B H m z := by
  have hl1 := hr.length
  have hl2 := rv.length
  have hi := (List.getElem?_eq_some_iff.mp hv).1
  obtain ⟨d, hd⟩ : ∃ d, ds[i]? = some d := ⟨ds[i]'(by omega), List.getElem?_eq_getElem _⟩
  obtain ⟨z, hz, rz⟩ := hr.get hd
  obtain ⟨u, hu, ru⟩ := Vals.get rv hz
  rw [hv] at hu
  cases hu
  obtain ⟨as, r2⟩ := Dp.reads I (toPy d) z v (Rep.dp d z rz) ru
  have r3 := PySem.W.reads_keeps hk r2
  have e := PySem.W.alike_unique _ _ _ _ _ (alk_of ha d (List.mem_of_getElem? hd) m hm) r3 rd
  have e := toPy_inj e
  subst e
  exact ⟨z, ru, rz⟩
theorem cr_bestD (hc : X.calm = true) (hu : X.A.units + 65 < cLine) (mx : Bool) : CallR X (.builtin (if mx then "max" else "min")) (fun xs H Q => ∃ (B : AP) (a : Addr) (vs : List V) (d : D) (ds : List D), xs = [.ref a] ∧ (SqL X.K H a vs ∨ SqT X.K H a vs) ∧ Reps X.K B H (d :: ds) vs ∧ alkD (d :: ds) = true ∧ nonN (d :: ds) = true ∧ dpts (d :: ds) ≤ 60 ∧
    ∀ z, Rep X.K B H (if mx then maxDD d ds else minDD d ds) z → Q z H) := by
  intro pins s σ H xs us Q I r h
  obtain ⟨B, a, vs, d, ds, rfl, hs, hr, h1, h2, h3, q⟩ := h
  rw [Vals.ref1 r]
  have hdep : PyData.depthAll (toPy d :: ds.map toPy) = dpts (d :: ds) := pys_depth' (d :: ds)
  have hal : PySem.W.AlikeAll (toPy d :: ds.map toPy) := alkAll h1 h2
  have hbound : X.A.units + 1 + PyData.depthAll (toPy d :: ds.map toPy) < cLine := by rw [hdep]; omega
  have fin : ∀ {its : List Value}, Vals vs its → ∀ (i : Nat) (v : Value) (h' : Heap) (tk : Nat) (bs : List Addr), its.toArray[i]? = some v → Reads h' v (toPy (if mx then maxDD d ds else minDD d ds)) bs → (∀ b o, s.heap.get? b = some o → h'.get? b = some o) → EP X pins σ Q v { s with heap := h', toks := tk } := by
    intro its rv i v h' tk bs hv rd hk
    obtain ⟨z, rz, rep⟩ := pick_best I hr rv (m := if mx then maxDD d ds else minDD d ds) (by split <;> first | exact maxDD_mem d ds | exact minDD_mem d ds) h1 (i := i) (by simpa using hv) rd hk
    exact ⟨z, H, I.kept hk, rz, q z rep⟩
  rcases hs with hs | hs
  · obtain ⟨its, rv, hl, hz⟩ := I.list hs
    obtain ⟨as, hra⟩ := Dp.readsAll I (toPys (d :: ds)) vs its (Reps.dp _ _ hr) rv
    rw [toPys_map] at hra
    cases mx with
    | true => exact PySem.W.max_list_data (I.ok.hd hc) hl.isList (by simpa using hra) hal hbound fun i v h' tk bs hv rd hk => fin rv i v h' tk bs hv (by rw [if_pos rfl, maxDD_py]; exact rd) hk
    | false => exact PySem.W.min_list_data (I.ok.hd hc) hl.isList (by simpa using hra) hal hbound fun i v h' tk bs hv rd hk => fin rv i v h' tk bs hv (by rw [if_neg Bool.false_ne_true, minDD_py]; exact rd) hk
  · obtain ⟨its, rv, hl, hz⟩ := I.tuple hs
    obtain ⟨as, hra⟩ := Dp.readsAll I (toPys (d :: ds)) vs its (Reps.dp _ _ hr) rv
    rw [toPys_map] at hra
    have hl' : s.heap.IsTuple a its.toArray := hl
    cases mx with
    | true => exact PySem.W.max_tuple_data (I.ok.hd hc) hl' (by simpa using hra) hal hbound fun i v h' tk bs hv rd hk => fin rv i v h' tk bs hv (by rw [if_pos rfl, maxDD_py]; exact rd) hk
    | false => exact PySem.W.min_tuple_data (I.ok.hd hc) hl' (by simpa using hra) hal hbound fun i v h' tk bs hv rd hk => fin rv i v h' tk bs hv (by rw [if_neg Bool.false_ne_true, minDD_py]; exact rd) hk
/-- list of a text -/
theorem cr_listS (hc : X.calm = true) : CallR X (.type "list") (fun xs H Q => ∃ s : List Nat, xs = [.str (tS s)] ∧ s.length ≤ Lm ∧ ∀ l, H l = none → Q (.ref l) (upd H l (.lst (s.map fun c => V.str (tS [c]))))) := by
  intro pins s σ H xs us Q I r h
  obtain ⟨x, rfl, hl, q⟩ := h
  obtain ⟨u, rfl, ru⟩ := vals1 r
  obtain ⟨t, rfl⟩ := ru
  refine PySem.call_list_str (I.ok.hd hc) (tS x) t (fun h' tk acc' c' hk hS hacc => ?_) (by simp [tS, lm_eq]; exact hl)
  refine ⟨.ref s.heap.objs.size, _, I.laid hk (Nat.le_refl _) (o := .lst (x.map fun c => V.str (tS [c]))) ⟨?_, acc'.toList, c', ?_, ?_⟩, rfl, q _ (I.hok.fresh (Nat.le_refl _))⟩
  · rw [List.length_map, lm_eq]; exact hl
  · have el : acc'.toList.length = acc'.size := by simp
    have e2 : (tS x).cps.size = x.length := by simp [tS]
    refine vals_of_at (by rw [List.length_map, el, hacc.1, e2]) fun j z w h1 h2 => ?_
    obtain ⟨c, u, hc, rfl⟩ := hacc.2 j w (by rw [← Array.getElem?_toList]; exact h2)
    have hc' : x[j]? = some c := by simpa [tS] using hc
    rw [List.getElem?_map, hc'] at h1
    cases h1
    exact ⟨u, rfl⟩
  · rw [Array.toArray_toList]; exact hS
end
end VI

set_option Elab.async false
set_option linter.all false
set_option maxRecDepth 100000
set_option maxHeartbeats 1000000
set_option autoImplicit false
namespace VI
open PySem PySem.Spec PyProof.Rows L2

/-! ### keys as values -/
theorem kD_inj {a b : K1} (h : kD a = kD b) : a = b := by
  cases a <;> cases b <;> simp [kD] at h <;> rw [h]
section
variable {K : PySem.W.Frag} {B : AP} {H : Hp}
theorem kD_rep {k : K1} (h : smB k = true) : Rep K B H (kD k) (kV (tK k)) := by
  cases k with
  | inl i => rfl
  | inr s => exact ⟨rfl, of_decide_eq_true h⟩
theorem kDs_rep : ∀ {ks : List K1}, (∀ k ∈ ks, smB k = true) → Reps K B H (ks.map kD) ((ks.map tK).map kV)
  | [], _ => rfl
  | k :: ks, h => ⟨_, _, rfl, kD_rep (h k (List.mem_cons_self ..)), kDs_rep fun j hj => h j (List.mem_cons_of_mem _ hj)⟩
end
/-! ### the end of sorted: the new list is sorted where it stands -/
section
variable {X : Cx} {pins : List (Addr × Obj)} {σ : L2.St} {H : Hp} {s : Shared}
theorem sort_tail {A : Around} {E : Value → Shared → Prop} {Q : VK} {B : AP} {ds : List D} {vs : List V} {us : List Value} (I : Inv X pins σ H s) (hv : Vals vs us) (hr : Reps X.K B H ds vs) (h1 : alkD ds = true) (h2 : srtK ds = true) (hL : ds.length ≤ sizeLine) (hd : dpts ds ≤ 60) (hu : A.units + 63 < cLine)
    (q : ∀ vs', Reps X.K B H (srtD ds) vs' → Q (.ref s.heap.objs.size) (upd H s.heap.objs.size (.lst vs'))) :
    wpAny (model X.prog X.w) A (call (.builtin "list.sort") [.ref s.heap.objs.size]) (fun _ s' => EP X pins σ Q (.ref s.heap.objs.size) s') E { s with heap := s.heap.push (seqObj "list" us.toArray 0) } := by
  have hlen := hr.length
  have e1 := each_zip hr hv
  have e2 := dps_reads I hr hv
  have hob : (s.heap.push (seqObj "list" us.toArray 0)).get? s.heap.objs.size = some (seqObj "list" us.toArray 0) := Heap.get?_push_size _ rfl
  have hkeep : ∀ b o, s.heap.get? b = some o → (s.heap.push (seqObj "list" us.toArray 0)).get? b = some o := fun b o e => Heap.get?_push_of_some _ e
  have e3 : PySem.W.EachIs (fun (u : Value) (b : D × V) => ∃ as, Reads (s.heap.push (seqObj "list" us.toArray 0)) u (toPy b.1) as ∧ s.heap.objs.size ∉ as) us (ds.zip vs) := e2.mono fun v b ⟨as, r⟩ => by
    refine ⟨as, PySem.W.reads_keeps hkeep r, fun z => ?_⟩
    obtain ⟨o, ho⟩ := PyProof.On.reads_mem_get r _ z
    exact absurd (Heap.lt_size ho) (Nat.lt_irrefl _)
  have hmap : (ds.zip vs).map (fun b : D × V => toPy b.1) = ds.map toPy := by
    rw [show (fun b : D × V => toPy b.1) = toPy ∘ Prod.fst from rfl, ← List.map_map, zip_fst hlen]
  have hmem : ∀ b ∈ ds.zip vs, b.1 ∈ ds := fun b hb => (List.of_mem_zip hb).1
  have hzl : (ds.zip vs).length ≤ sizeLine := by rw [List.length_zip, hlen]; simp; omega
  refine PySem.W.list_sort_data (s := { s with heap := s.heap.push (seqObj "list" us.toArray 0) }) (R := fun (u : Value) (b : D × V) => RelV b.2 u) (enc := fun b : D × V => toPy b.1) (bs := ds.zip vs) (n := 0) hob e1 e3 ?_ ?_ hzl (fun b hb => ?_) fun out ho eo => ?_
  · rw [hmap]
    intro d hd d' hd'
    obtain ⟨x, hx, rfl⟩ := List.mem_map.mp hd
    obtain ⟨y, hy, rfl⟩ := List.mem_map.mp hd'
    exact alk_of h1 x hx y hy
  · rw [hmap]; exact srt_of h2
  · have := dpts_of_mem (hmem b hb)
    rw [py_depth]
    omega
  · have hm : ((ds.zip vs).mergeSort (PySem.W.dataLe false fun b : D × V => toPy b.1)).map Prod.fst = srtD ds := by
      have hsm := PySem.W.sort_maps (r := PySem.W.dataLe false fun b : D × V => toPy b.1) (s := leD) (f := Prod.fst) (l := ds.zip vs) (fun _ _ _ _ => rfl)
      rw [srtD_eq, hsm, zip_fst hlen]
    obtain ⟨c, hc⟩ := sortedHeap_at (vs := us) (out := out.toArray) hob
    have hperm := List.mergeSort_perm (ds.zip vs) (PySem.W.dataLe false fun b : D × V => toPy b.1)
    have hreps := reps_of_zip (K := X.K) (B := B) (H := H) (l := (ds.zip vs).mergeSort (PySem.W.dataLe false fun b : D × V => toPy b.1)) fun p hp => reps_zip hr p (hperm.mem_iff.mp hp)
    rw [hm] at hreps
    have hvv := each_vals eo
    refine ⟨.ref s.heap.objs.size, _, I.laid (t' := s.toks) (o := .lst (((ds.zip vs).mergeSort (PySem.W.dataLe false fun b : D × V => toPy b.1)).map Prod.snd)) (fun b u e => ?_) (Nat.le_refl _) ⟨?_, out, c, hvv, hc⟩, rfl, q _ hreps⟩
    · have hlt := Heap.lt_size e
      rw [sortedHeap_old (Nat.ne_of_lt hlt) (by rw [size_push']; exact Nat.lt_succ_of_lt hlt)]
      exact hkeep b u e
    · rw [hvv.length, ho]; exact hzl
end
/-! ### the entries of a dict, whatever its keys -/
/-- what stands in the dict at a: key values, values -/
def EntV (H : Hp) (a : Addr) (ps : List (V × V)) : Prop :=
  (∃ kws : List (L2.Key × V), Rd H a (.dK kws) ∧ ps = kws.map fun p => (kV p.1, p.2)) ∨
    ∃ (kws : List (List L2.Key × V)) (bs : List Addr), Rd H a (.dT kws) ∧ IsKeys H kws bs ∧ ps = (bs.zip kws).map fun p => (V.ref p.1, p.2.2)
theorem pairs_raw {P : Program} {w : World} : ∀ {es : List DictEntry} {kvs : List (L2.Key × Value)} {kws : List (L2.Key × V)}, Pairs (mixKind P w) es kvs → KV kws kvs → PySem.W.EachIs (fun (e : DictEntry) (p : V × V) => RelV p.1 e.key ∧ RelV p.2 e.val) es (kws.map fun p => (kV p.1, p.2))
  | [], _, kws, h, r => by
    cases h
    cases r
    exact .nil
  | e :: es, _, kws, h, r => by
    cases h with
    | cons h1 h2 h3 =>
      cases r with
      | cons a b =>
        refine .cons ⟨?_, ?_⟩ (pairs_raw h3 b)
        · show RelV (kV _) e.key
          rw [a.1]; exact keyIs_rel h1
        · rw [h2]; exact a.2
theorem trip_raw {P : Program} {w : World} {H : Hp} : ∀ {kws : List (List L2.Key × V)} {xs : List (List L2.Key × Addr × Value)}, KT H kws xs → PySem.W.EachIs (fun (e : DictEntry) (p : V × V) => RelV p.1 e.key ∧ RelV p.2 e.val) (xs.map (entryOfKey (tupleKind (mixKind P w)))) (((xs.map fun x => x.2.1).zip kws).map fun p => (V.ref p.1, p.2.2))
  | [], _, h => by cases h; exact .nil
  | p :: kws, _, h => by
    cases h with
    | cons a b => exact .cons ⟨rfl, a.2.2⟩ (trip_raw b)
section
variable {X : Cx} {pins : List (Addr × Obj)} {σ : L2.St} {H : Hp} {s : Shared}
theorem ent_raw (I : Inv X pins σ H s) {a : Addr} (h : IsD H a) : (a == sysModules) = false ∧ ∃ ps, EntV H a ps ∧ ps.length ≤ sizeLine ∧ ∃ es ep, DT.Raw s.heap a es ep ∧ PySem.W.EachIs (fun (e : DictEntry) (p : V × V) => RelV p.1 e.key ∧ RelV p.2 e.val) es.toList ps := by
  rcases h with ⟨kws, hd⟩ | ⟨kws, hd⟩
  · obtain ⟨z, lo, vs, rel, o, es, ep, ho, hx, hdt, _, hp, _⟩ := dk_rd I.hok hd
    exact ⟨lo, _, .inl ⟨kws, hd, rfl⟩, by rw [List.length_map]; exact z, es, ep, ⟨o, ho, hx, hdt⟩, pairs_raw hp rel⟩
  · obtain ⟨z, hs, ks, pr, o, es, ep, ho, hx, hdt, he, hn⟩ := (show ObjOk X.prog X.w H s.heap a (.dT kws) from hd.ok I.hok)
    have l2 : kws.length = ks.length := Paired.length pr
    refine ⟨hs, _, .inr ⟨kws, _, hd, isKeys_of pr, rfl⟩, ?_, es, ep, ⟨o, ho, hx, hdt⟩, ?_⟩
    · rw [List.length_map, List.length_zip, List.length_map]; omega
    · rw [he]; exact trip_raw pr
end
theorem each_get {α β : Type} {R : α → β → Prop} : ∀ {as : List α} {bs : List β} {i : Nat} {a : α}, PySem.W.EachIs R as bs → as[i]? = some a → ∃ b, bs[i]? = some b ∧ R a b
  | _, _, _, _, .nil, h => by simp at h
  | _, _, 0, _, .cons r t, h => by simp at h; subst h; exact ⟨_, rfl, r⟩
  | _, _, i + 1, _, .cons r t, h => by
    obtain ⟨b, h1, h2⟩ := each_get t (by simpa using h)
    exact ⟨b, by simpa using h1, h2⟩
theorem each_len {α β : Type} {R : α → β → Prop} : ∀ {as : List α} {bs : List β}, PySem.W.EachIs R as bs → as.length = bs.length
  | _, _, .nil => rfl
  | _, _, .cons _ t => by simp [each_len t]
/-! ### sorted(d), list(d) -/
section
variable {X : Cx}
def rKeys (X : Cx) (B : AP) (a : Addr) (H : Hp) (ds : List D) : Prop := IsD H a ∧ ∀ ps, EntV H a ps → Reps X.K B H ds (ps.map (·.1))
theorem keys_vals {es : Array DictEntry} {ps : List (V × V)} (er : PySem.W.EachIs (fun (e : DictEntry) (p : V × V) => RelV p.1 e.key ∧ RelV p.2 e.val) es.toList ps) {acc : Array Value} (it : ItemsOf (fun i v => ∃ en : DictEntry, es[i]? = some en ∧ v = en.key) acc es.size) : Vals (ps.map (·.1)) acc.toList := by
  have l1 := each_len er
  have l2 : acc.toList.length = ps.length := by rw [Array.length_toList, it.1, ← l1, Array.length_toList]
  refine vals_of_at (by rw [List.length_map, l2]) fun j z w h1 h2 => ?_
  obtain ⟨en, he, rfl⟩ := it.2 j w (by rw [← Array.getElem?_toList]; exact h2)
  obtain ⟨y, hy, r1, _⟩ := each_get er (by rw [Array.getElem?_toList]; exact he)
  rw [List.getElem?_map, hy] at h1
  cases h1
  exact r1
theorem cr_sortedKeys (hc : X.calm = true) (hu : X.A.units + 65 < cLine) : CallR X (.builtin "sorted") (fun xs H Q => ∃ (B : AP) (a : Addr) (ds : List D), xs = [.ref a] ∧ rKeys X B a H ds ∧ alkD ds = true ∧ srtK ds = true ∧ dpts ds ≤ 60 ∧
    ∀ (vs' : List V) (p : Addr), Reps X.K B H (srtD ds) vs' → H p = none → Q (.ref p) (upd H p (.lst vs'))) := by
  intro pins s σ H xs us Q I r h
  obtain ⟨B, a, ds, rfl, ⟨hd, hr⟩, h1, h2, h3, q⟩ := h
  obtain rfl := Vals.ref1 r
  have hh := I.ok.hd hc
  obtain ⟨hs, ps, ev, hz, es, ep, ⟨o, ho, hx, hdt⟩, er⟩ := ent_raw I hd
  have hr := hr ps ev
  have hlen := hr.length
  rw [List.length_map] at hlen
  have l1 : es.size = ps.length := by rw [← Array.length_toList]; exact each_len er
  refine Calls.call_function_entry kind_sorted plain_sorted entry_sorted (args_sorted1 _) ?_
  unfold Builtin.«sorted»
  refine wpAny_bind (m := checkCount "sorted" 1 1 _) (wpAny_pure ?_)
  refine wpAny_bind (PySem.W.kdu_collect (A := X.A.in1) (kdl_raw hs hx hdt) hh ho (by omega) fun h' tk acc hk it => ?_)
  have hv := keys_vals er it
  refine wpAny_bind (wpAny_newList ?_ (by rw [← hv.length, List.length_map]; exact hz))
  have I2 : Inv X pins σ H { s with heap := h', toks := tk } := I.kept hk
  refine wpAny_bind (wpAny_holding (wpAny_mono (sort_tail (A := X.A.in1) I2 hv hr h1 h2 (by omega) h3 (by show X.A.units + 1 + 63 < cLine; omega) fun vs' hvs' => q vs' _ hvs' (I2.hok.fresh (Nat.le_refl _))) (fun _ s' x => ?_) fun _ _ e => e))
  exact wpAny_pure ⟨_, rfl, x⟩
theorem cr_listKeys (hc : X.calm = true) : CallR X (.type "list") (fun xs H Q => ∃ (B : AP) (a : Addr) (ds : List D), xs = [.ref a] ∧ rKeys X B a H ds ∧
    ∀ (vs' : List V) (p : Addr), Reps X.K B H ds vs' → H p = none → Q (.ref p) (upd H p (.lst vs'))) := by
  intro pins s σ H xs us Q I r h
  obtain ⟨B, a, ds, rfl, ⟨hd, hr⟩, q⟩ := h
  obtain rfl := Vals.ref1 r
  obtain ⟨hs, ps, ev, hz, es, ep, ⟨o, ho, hx, hdt⟩, er⟩ := ent_raw I hd
  have l1 : es.size = ps.length := by rw [← Array.length_toList]; exact each_len er
  refine PySem.W.kdl_call (kdl_raw hs hx hdt) (I.ok.hd hc) ho (by omega) fun h' tk acc c' kp e it => ?_
  have hv := keys_vals er it
  refine ⟨.ref s.heap.objs.size, _, I.laid (t' := tk) (o := .lst (ps.map (·.1))) kp (Nat.le_refl _) ?_, rfl, q _ _ (hr ps ev) (I.hok.fresh (Nat.le_refl _))⟩
  exact ⟨by rw [List.length_map]; exact hz, acc.toList, c', hv, by rw [Array.toArray_toList]; exact e⟩
end
/-! ### sorted(d.items()) -/
theorem rise_ix {l : List Addr} (h : l.Pairwise (· < ·)) {i j : Nat} {a : Addr} (hi : l[i]? = some a) (hj : l[j]? = some a) : i = j := by
  obtain ⟨q1, r1⟩ := List.getElem?_eq_some_iff.mp hi
  obtain ⟨q2, r2⟩ := List.getElem?_eq_some_iff.mp hj
  have k := List.pairwise_iff_getElem.mp h
  rcases Nat.lt_trichotomy i j with z | z | z
  · have := k i j q1 q2 z; rw [r1, r2] at this; exact absurd this (Nat.lt_irrefl _)
  · exact z
  · have := k j i q2 q1 z; rw [r1, r2] at this; exact absurd this (Nat.lt_irrefl _)
section
variable {X : Cx}
/-- the view of a dict's items stands at p -/
def rSortItems (X : Cx) : List V → Hp → VK → Prop := fun xs H Q => ∃ (B : AP) (p a : Addr) (qs : List (D × D)), xs = [.ref p] ∧ H p = some (L2.DX.itemsO p a) ∧ IsD H a ∧ (∀ b, B b → H b ≠ none) ∧
  (∀ ps, EntV H a ps → Reps X.K B H (qs.map (·.1)) (ps.map (·.1)) ∧ Reps X.K B H (qs.map (·.2)) (ps.map (·.2))) ∧ alkD (qs.map prD) = true ∧ srtK (qs.map prD) = true ∧ dpts (qs.map prD) ≤ 60 ∧
  ∀ (H' : Hp) (r : Addr), H r = none → (∀ b o, H b = some o → H' b = some o) → (∃ vs', H' r = some (.lst vs') ∧ Reps X.K (fun b => B b ∨ b = r) H' (srtD (qs.map prD)) vs') → Q (.ref r) H'
theorem cr_sortedItemsD (hc : X.calm = true) (hu : X.A.units + 65 < cLine) : CallR X (.builtin "sorted") (rSortItems X) := by
  intro pins s σ H xs us Q I r h
  obtain ⟨B, p, a, qs, rfl, hp, hd, hB, hkv, h1, h2, h3, q⟩ := h
  obtain rfl := Vals.ref1 r
  have hh := I.ok.hd hc
  have view : s.heap.IsItemsView p a := (show ObjOk X.prog X.w H s.heap p (L2.DX.itemsO p a) from I.hok p _ hp).1
  obtain ⟨hs, ps, ev, hz, es, ep, raw, er⟩ := ent_raw I hd
  obtain ⟨hk, hv⟩ := hkv ps ev
  have l1 : es.size = ps.length := by rw [← Array.length_toList]; exact each_len er
  have l2 : ps.length = qs.length := by have := hk.length; simpa using this
  refine DT.sortedI (es := es) (ep := ep) hh view raw (by omega) fun h' tk as hkp hlt hl hG => ?_
  have lak : as.length = ps.length := by omega
  have nd : as.Nodup := List.Pairwise.imp (fun h => Nat.ne_of_lt h) hG.rise
  have I1 : Inv X pins σ H { s with heap := h', toks := tk } := I.kept hkp
  obtain ⟨H2, I2, g, tups⟩ := L2.DX.takeT (P := fun b vs => ∀ j : Nat, as[j]? = some b → ∃ y : V × V, ps[j]? = some y ∧ vs = [y.1, y.2]) I as H I1 nd fun b hb => by
    obtain ⟨j, hj⟩ := List.mem_iff_getElem?.mp hb
    obtain ⟨en, he, hg⟩ := hG.pairs j b hj
    obtain ⟨y, hy, r1, r2⟩ := each_get er (by rw [Array.getElem?_toList]; exact he)
    have hge : s.heap.objs.size ≤ b := Nat.le_of_lt (hG.above b hb)
    refine ⟨hge, I.hok.fresh hge, [y.1, y.2], fun j2 hj2 => ?_, fun H2 => ⟨by show 2 ≤ sizeLine; rw [sizeLine_eq]; omega, [en.key, en.val], .cons r1 (.cons r2 .nil), ⟨_, hg, rfl, 0, rfl⟩⟩⟩
    have : j2 = j := by
      exact rise_ix hG.rise hj2 hj
    rw [this]; exact ⟨y, hy, rfl⟩
  have kr : ∀ {d : D} {v : V}, Rep X.K B H d v → Rep X.K B H2 d v := fun h => Rep.mv (fun b o _ e => g b o e) (fun b z => .inl z) _ _ h
  have hr : Reps X.K B H2 (qs.map prD) (as.map V.ref) := by
    have key : ∀ (n : Nat) (as0 : List Addr) (qs0 : List (D × D)), as0 = as.drop n → qs0 = qs.drop n → as0.length = qs0.length → Reps X.K B H2 (qs0.map prD) (as0.map V.ref) := by
      intro n as0
      induction as0 generalizing n with
      | nil =>
        intro qs0 _ _ hl
        cases qs0 with
        | nil => rfl
        | cons _ _ => simp at hl
      | cons b as0 ih =>
        intro qs0 h1 h2 hl
        cases qs0 with
        | nil => simp at hl
        | cons y qs0 =>
          have hb : as[n]? = some b := by
            have := congrArg (fun l : List Addr => l[0]?) h1
            simpa using this.symm
          have hy : qs[n]? = some y := by
            have := congrArg (fun l : List (D × D) => l[0]?) h2
            simpa using this.symm
          obtain ⟨vs, hP, hH⟩ := tups b (List.mem_of_getElem? hb)
          obtain ⟨w, hw, rfl⟩ := hP n hb
          obtain ⟨w1, e1, rk⟩ := hk.get (i := n) (d := y.1) (by rw [List.getElem?_map, hy]; rfl)
          obtain ⟨w2, e2, rv⟩ := hv.get (i := n) (d := y.2) (by rw [List.getElem?_map, hy]; rfl)
          rw [List.getElem?_map, hw] at e1 e2
          cases e1
          cases e2
          have nb : ¬ B b := fun z => by
            obtain ⟨j, hj⟩ := List.mem_iff_getElem?.mp (List.mem_of_getElem? hb)
            exact hB b z (I.hok.fresh (Nat.le_of_lt (hG.above b (List.mem_of_getElem? hb))))
          refine ⟨.ref b, as0.map V.ref, rfl, ⟨b, [w.1, w.2], rfl, ⟨nb, hH⟩, w.1, [w.2], rfl, kr rk, w.2, [], rfl, kr rv, rfl⟩, ?_⟩
          refine ih (n + 1) qs0 ?_ ?_ (by simpa using hl)
          · have := congrArg List.tail h1
            simpa using this
          · have := congrArg List.tail h2
            simpa using this
    exact key 0 as qs rfl rfl (by omega)
  have hz2 : (qs.map prD).length ≤ sizeLine := by rw [List.length_map]; omega
  refine sort_tail (s := { s with heap := h', toks := tk }) (A := X.A.in1) I2 (L2.vals_refs as) hr h1 h2 hz2 h3 (by show X.A.units + 1 + 63 < cLine; omega) fun vs' hvs' => ?_
  have hn2 : H2 h'.objs.size = none := I2.hok.fresh (Nat.le_refl _)
  have hn : H h'.objs.size = none := I1.hok.fresh (Nat.le_refl _)
  refine q _ _ hn (fun b o e => by rw [upd_ne (ne_of_none (g b o e) hn2)]; exact g b o e) ⟨vs', upd_same, Reps.mv (fun b o _ e => by rw [upd_ne (ne_of_none e hn2)]; exact e) (fun b z => ?_) _ _ hvs'⟩
  rcases z with z | z
  · exact .inl z
  · exact .inr (by rw [z]; exact hn2)
theorem mt_itemsA : MtR X "dict.items" (fun x xs H Q => ∃ a, x = .ref a ∧ xs = [] ∧ IsD H a ∧ ∀ p, H p = none → Q (.ref p) (upd H p (L2.DX.itemsO p a))) := by
  intro pins s σ H x xs v us Q I rx rxs h
  obtain ⟨a, rfl, rfl, ha, q⟩ := h
  cases rx
  cases rxs
  obtain ⟨hs, ps, ev, hz, es, ep, raw, er⟩ := ent_raw I ha
  refine DT.callItems (es := es) (ep := ep) hs raw ?_
  exact ⟨.ref s.heap.objs.size, _, I.laid (t' := s.toks) (o := L2.DX.itemsO s.heap.objs.size a) (fun b u e => Heap.get?_push_of_some _ e) (Nat.le_refl _) (L2.DX.itemsO_ok (Heap.get?_push_size _ rfl)), rfl, q _ (I.hok.fresh (Nat.le_refl _))⟩
end
end VI

set_option Elab.async false
set_option linter.all false
set_option maxRecDepth 100000
set_option maxHeartbeats 2000000
set_option autoImplicit false
namespace VI
open PySem PySem.Spec PyProof.Rows L2

section
variable {K : PySem.W.Frag} {B : AP} {H : Hp}
theorem ixNN_eq (n : Nat) (i : Int) : ixNN n i = ixN n i := rfl
theorem atD_get {ds : List D} {vs : List V} {i : Int} {d : D} (r : Reps K B H ds vs) (e : atD ds i = some d) : ∃ v, atI vs i = some v ∧ Rep K B H d v := by
  unfold atD at e
  rw [Option.bind_eq_some_iff] at e
  obtain ⟨j, e1, e2⟩ := e
  obtain ⟨v, h1, h2⟩ := r.get e2
  refine ⟨v, ?_, h2⟩
  unfold atI
  rw [r.length, ← ixNN_eq, e1]
  exact h1
theorem atD_nat {s : List Nat} {i : Int} {c : Nat} (e : atD s i = some c) : atI (tS s).cps.toList i = some c := by
  have : (tS s).cps.toList = s := by simp [tS]
  rw [this]
  exact e
end
def rIxV (K : PySem.W.Frag) : R2 := fun x y H Q => ∃ B u v w, RtAt K B H u x ∧ RtAt K B H v y ∧ ixD u v = some w ∧ Res K B H w Q
section
variable {X : Cx}
theorem ix_dict (hu : X.A.units + 1 < cLine) : IxR X (fun x y H Q => ∃ a v, x = .ref a ∧ DGet H a y (some v) ∧ Q v H) := by
  intro value slice pins s σ H x y v u Q I rx ry h hs
  obtain ⟨a, z, rfl, g, q⟩ := h
  cases rx
  exact tail_any (dict_typeIs I g) PySem.F.slot_dict_getitem.lookup (d_getItem hu I g ry fun w' s3 I3 rw' => ⟨z, H, I3, rw', q⟩) hs
theorem op_ix (hu : X.A.units + 1 < cLine) : IxR X (rIxV X.K) := by
  intro value slice pins s σ H x y v u Q I rx ry h hs
  obtain ⟨B, a, b, w, ha, hb, e, q⟩ := h
  have dict : ∀ (ad : Addr) (ob : Ob), x = .ref ad → OwnAt X.K B H ad ob → ((dget ob b).bind id).map Rt.v = some w → wpAny (model X.prog X.w) X.A (subscriptTail value slice v u) (EP X pins σ Q) X.xe s := by
    intro ad ob ex ho e
    rw [Option.map_eq_some_iff] at e
    obtain ⟨d, e1, rfl⟩ := e
    rw [Option.bind_eq_some_iff] at e1
    obtain ⟨o, e1, e2⟩ := e1
    simp only [id] at e2
    subst e2
    obtain ⟨ov, g, hov⟩ := dget_ok ho hb e1
    rcases hov with ⟨h1, h2⟩ | ⟨d', v', h1, h2, h3⟩
    · cases h1
    · cases h1; subst h2
      exact ix_dict hu value slice pins s σ H x y v u Q I rx ry ⟨ad, v', ex, g, q.v h3⟩ hs
  unfold ixD at e
  split at e
  · rw [Option.map_eq_some_iff] at e
    obtain ⟨d, e1, rfl⟩ := e
    obtain ⟨a1, vs, rfl, h1, r1⟩ := ha
    obtain ⟨z, e2, r2⟩ := atD_get r1 e1
    exact ix_tup value slice pins s σ H _ y v u Q I rx ry ⟨a1, vs, _, z, rfl, hb, h1.sq, e2, q.v r2⟩ hs
  · rw [Option.map_eq_some_iff] at e
    obtain ⟨d, e1, rfl⟩ := e
    obtain ⟨a1, vs, rfl, h1, r1⟩ := ha
    obtain ⟨z, e2, r2⟩ := atD_get r1 e1
    exact ix_list value slice pins s σ H _ y v u Q I rx ry ⟨a1, vs, _, z, rfl, hb, h1.sq, e2, q.v r2⟩ hs
  · rw [Option.map_eq_some_iff] at e
    obtain ⟨d, e1, rfl⟩ := e
    obtain ⟨a1, rfl, vs, h1, r1⟩ := ha
    obtain ⟨z, e2, r2⟩ := atD_get r1 e1
    exact ix_list value slice pins s σ H _ y v u Q I rx ry ⟨a1, vs, _, z, rfl, hb, SqL.of h1, e2, q.v r2⟩ hs
  · rw [Option.map_eq_some_iff] at e
    obtain ⟨c, e1, rfl⟩ := e
    obtain ⟨rfl, hl⟩ := ha
    exact ix_str value slice pins s σ H _ y v u Q I rx ry ⟨tS _, _, c, rfl, hb, by rw [tS_len, lm_eq]; exact hl, atD_nat e1, q.str (by simp [Lm])⟩ hs
  · obtain ⟨ad, ex, ho⟩ := ha
    exact dict ad _ ex ho e
  · obtain ⟨ad, ex, ho⟩ := ha
    exact dict ad _ ex ho e
  · cases e
end

/-! ### slices -/
theorem sIxD_eq (n d : Nat) (o : Option Int) : sIxD n d o = HT.sIx n d o := by
  cases o with
  | none => rfl
  | some i => rfl
section
variable {K : PySem.W.Frag} {B : AP} {H : Hp}
theorem cut_reps {ds : List D} {vs : List V} (lo hi : Option Int) (r : Reps K B H ds vs) : Reps K B H (cutD ds lo hi) (cutV vs lo hi) := by
  unfold cutD cutV
  rw [r.length, sIxD_eq, sIxD_eq]
  exact Reps.take _ (Reps.drop _ r)
theorem cutD_len {α : Type} (xs : List α) (lo hi : Option Int) : (cutD xs lo hi).length ≤ xs.length := by
  unfold cutD
  rw [List.length_take, List.length_drop]
  omega
theorem cutD_all {α : Type} {xs : List α} {lo hi : Option Int} (h1 : HT.sIx xs.length 0 lo = 0) (h2 : HT.sIx xs.length xs.length hi = xs.length) : cutD xs lo hi = xs := by
  unfold cutD
  rw [sIxD_eq, sIxD_eq, h1, h2]
  simp
end
def rSlV (K : PySem.W.Frag) : V → Option Int → Option Int → Hp → VK → Prop := fun x lo hi H Q => ∃ B u w, RtAt K B H u x ∧ slD u lo hi = some w ∧ Res K B H w Q
theorem op_sl {X : Cx} : SlR X (rSlV X.K) := by
  intro pins s σ H x v vl vu lo hi sl Q I rx hs pl pu h
  obtain ⟨B, a, w, ha, e, q⟩ := h
  unfold slD at e
  split at e
  · cases e
    obtain ⟨rfl, hl⟩ := ha
    refine sl_str pins s σ H _ v vl vu lo hi sl Q I rx hs pl pu ⟨tS _, rfl, by rw [tS_len, lm_eq]; exact hl, ?_⟩
    have e2 : cutS (tS ‹List Nat›) lo hi = tS (cutD ‹List Nat› lo hi) := by
      unfold cutS cutD
      rw [sIxD_eq, sIxD_eq, tS_len]
      simp [tS]
    rw [e2]
    exact q.str (Nat.le_trans (cutD_len _ _ _) hl)
  · cases e
    obtain ⟨a1, vs, rfl, h1, r1⟩ := ha
    refine sl_tupA pins s σ H _ v vl vu lo hi sl Q I rx hs pl pu ⟨a1, vs, rfl, h1.sq, fun ⟨z1, z2⟩ => ?_, fun _ p hp => q _ _ (.tup hp (cut_reps lo hi r1))⟩
    rw [r1.length] at z1 z2
    rw [cutD_all z1 z2] at q
    exact q.v ⟨a1, vs, rfl, h1, r1⟩
  · cases e
    obtain ⟨a1, vs, rfl, h1, r1⟩ := ha
    exact sl_list pins s σ H _ v vl vu lo hi sl Q I rx hs pl pu ⟨a1, vs, rfl, h1.sq, fun p hp => q _ _ (.lst hp (cut_reps lo hi r1))⟩
  · cases e
    obtain ⟨a1, rfl, vs, h1, r1⟩ := ha
    exact sl_list pins s σ H _ v vl vu lo hi sl Q I rx hs pl pu ⟨a1, vs, rfl, SqL.of h1, fun p hp => q _ _ (.lst hp (cut_reps lo hi r1))⟩
  · cases e

/-! ### truth -/
section
variable {K : PySem.W.Frag} {B : AP} {H : Hp}
theorem emp {ds : List D} {vs : List V} (r : Reps K B H ds vs) : (!ds.isEmpty) = !vs.isEmpty := by
  cases ds with
  | nil => rw [show vs = [] from r]; rfl
  | cons d ds => obtain ⟨v, w, rfl, _⟩ := r; rfl
theorem tru_ok1 {r : Rt} {x : V} {k : Bool} (h : RtAt K B H r x) (e : truth r = some k) : TruV K x H k := by
  unfold truth at e
  split at e <;> cases e
  · rw [show x = _ from h]; rfl
  · rw [show x = _ from h]; rfl
  · rw [show x = _ from h]; rfl
  · obtain ⟨rfl, hl⟩ := h
    exact ⟨by rw [tS_len, lm_eq]; exact hl, by rw [tS_len]⟩
  · obtain ⟨a, vs, rfl, h1, r1⟩ := h
    exact .inr (.inl ⟨vs, h1.sq, emp r1⟩)
  · obtain ⟨a, vs, rfl, h1, r1⟩ := h
    exact .inl ⟨vs, h1.sq, emp r1⟩
  · obtain ⟨a, rfl, vs, h1, r1⟩ := h
    exact .inl ⟨vs, SqL.of h1, emp r1⟩
end

/-! ### builtins -/
def RtsAt (K : PySem.W.Frag) (B : AP) (H : Hp) : List Rt → List V → Prop
  | [], vs => vs = []
  | r :: rs, vs => ∃ v w, vs = v :: w ∧ RtAt K B H r v ∧ RtsAt K B H rs w
def rB (K : PySem.W.Frag) (g : String) : List V → Hp → VK → Prop := fun xs H Q => ∃ B us w, (∀ (b : Addr) (ys : List V), H b = some (.tup ys) → ¬ B b) ∧ RtsAt K B H us xs ∧ bD g us = some w ∧ Res K B H w Q
section
variable {K : PySem.W.Frag} {B : AP} {H : Hp}
theorem RtsAt.one {r : Rt} {vs : List V} (h : RtsAt K B H [r] vs) : ∃ v, vs = [v] ∧ RtAt K B H r v := by
  obtain ⟨v, w, rfl, h1, h2⟩ := h
  rw [show w = [] from h2]
  exact ⟨v, rfl, h1⟩
theorem RtsAt.two {r r' : Rt} {vs : List V} (h : RtsAt K B H [r, r'] vs) : ∃ v v', vs = [v, v'] ∧ RtAt K B H r v ∧ RtAt K B H r' v' := by
  obtain ⟨v, w, rfl, h1, v', w', rfl, h2, h3⟩ := h
  rw [show w' = [] from h3]
  exact ⟨v, v', rfl, h1, h2⟩
theorem maxI_spec : ∀ (a : Int) (l : List Int), maxI a l ∈ a :: l ∧ ∀ y ∈ a :: l, y ≤ maxI a l
  | a, [] => by simp [maxI]
  | a, b :: l => by
    simp only [maxI]
    have go : ∀ c, (c = a ∨ c = b) → a ≤ c → b ≤ c → maxI c l ∈ a :: b :: l ∧ ∀ y ∈ a :: b :: l, y ≤ maxI c l := fun c hc ha hb => by
      obtain ⟨h1, h2⟩ := maxI_spec c l
      have h3 := h2 c List.mem_cons_self
      refine ⟨?_, fun y hy => ?_⟩
      · rcases List.mem_cons.mp h1 with h | h
        · rw [h]; rcases hc with rfl | rfl <;> simp
        · simp [h]
      · rcases List.mem_cons.mp hy with rfl | hy
        · omega
        · rcases List.mem_cons.mp hy with rfl | hy
          · omega
          · exact h2 y (List.mem_cons_of_mem _ hy)
    by_cases h : b > a
    · rw [if_pos h]; exact go b (.inr rfl) (by omega) (by omega)
    · rw [if_neg h]; exact go a (.inl rfl) (by omega) (by omega)
theorem minI_spec : ∀ (a : Int) (l : List Int), minI a l ∈ a :: l ∧ ∀ y ∈ a :: l, minI a l ≤ y
  | a, [] => by simp [minI]
  | a, b :: l => by
    simp only [minI]
    have go : ∀ c, (c = a ∨ c = b) → c ≤ a → c ≤ b → minI c l ∈ a :: b :: l ∧ ∀ y ∈ a :: b :: l, minI c l ≤ y := fun c hc ha hb => by
      obtain ⟨h1, h2⟩ := minI_spec c l
      have h3 := h2 c List.mem_cons_self
      refine ⟨?_, fun y hy => ?_⟩
      · rcases List.mem_cons.mp h1 with h | h
        · rw [h]; rcases hc with rfl | rfl <;> simp
        · simp [h]
      · rcases List.mem_cons.mp hy with rfl | hy
        · omega
        · rcases List.mem_cons.mp hy with rfl | hy
          · omega
          · exact h2 y (List.mem_cons_of_mem _ hy)
    by_cases h : b < a
    · rw [if_pos h]; exact go b (.inr rfl) (by omega) (by omega)
    · rw [if_neg h]; exact go a (.inl rfl) (by omega) (by omega)
theorem RtAt.lst {r : Rt} {ds : List D} {x : V} (h : RtAt K B H r x) (e : lstR r = some ds) : ∃ a vs, x = .ref a ∧ SqL K H a vs ∧ Reps K B H ds vs := by
  unfold lstR at e
  split at e <;> cases e
  · obtain ⟨a, vs, e, ht, r⟩ := h; exact ⟨a, vs, e, ht.sq, r⟩
  · obtain ⟨a, e, vs, ht, r⟩ := h; exact ⟨a, vs, e, SqL.of ht, r⟩
end
theorem chars_reps {K : PySem.W.Frag} {B : AP} {H : Hp} : ∀ s : List Nat, Reps K B H (s.map fun c => D.str [c]) (s.map fun c => V.str (tS [c]))
  | [] => rfl
  | c :: s => ⟨_, _, rfl, ⟨rfl, by show 1 ≤ 16777216; omega⟩, chars_reps s⟩
/-- which value a builtin's name is -/
def bVal : String → Value
  | "int" => .type "int" | "tuple" => .type "tuple" | "list" => .type "list" | g => .builtin g
section
variable {X : Cx}
open PySem.W in
theorem sum_tupW {prog : Program} {w : World} {A : Around} {E : Value → Shared → Prop} {s : Shared} {t : Addr} {vs : List Value} {ns : List Int} {Q : Value → Shared → Prop} (hh : A.handled = none) (hl : IsTup s.heap t vs.toArray) (hi : IntsAre vs ns)
    (h : ∀ h' tk t', (∀ b o, s.heap.get? b = some o → h'.get? b = some o) → Q (.int ns.sum t') { s with heap := h', toks := tk }) :
    wpAny (model prog w) A (call (.builtin "sum") [.ref t]) Q E s := by
  have hl : s.heap.IsTuple t vs.toArray := hl
  obtain ⟨xs, hx⟩ := hi.allInts.items
  have hn : numsOf vs.toArray.toList = ns := by rw [show vs.toArray.toList = vs from rfl, hi.numsOf]
  rw [hx] at hl hn
  rw [nums_intItems] at hn
  refine ktm_sumG hh hl fun h' tk t' hk => ?_
  have := h h' tk t' hk
  rw [preSum_eq, List.take_of_length_le (by simp), hn]
  exact this
theorem cr_sumT (hc : X.calm = true) : CallR X (.builtin "sum") (fun vs H Q => ∃ (a : Addr) (ns : List Int), vs = [V.ref a] ∧ SqT X.K H a (ns.map V.int) ∧ Q (.int ns.sum) H) := by
  intro pins s σ H vs us Q I r h
  obtain ⟨a, ns, rfl, hs, q⟩ := h
  obtain ⟨its, rv, hl, _⟩ := I.tuple hs
  rw [Vals.ref1 r]
  exact sum_tupW (I.ok.hd hc) hl rv.ints fun h' tk t' hk => ⟨.int _, H, I.kept hk, ⟨_, rfl⟩, q⟩
theorem ints_reads {h : Heap} : ∀ {vs : List Value} {ns : List Int}, IntsAre vs ns → ∃ as, ReadsAll h vs (ns.map PyData.int) as
  | _, _, .nil => ⟨_, ReadsAll.nil⟩
  | _, _, .cons n t r => by
    obtain ⟨as, q⟩ := ints_reads r
    exact ⟨_, ReadsAll.cons (Reads.int n t) q⟩
theorem ints_alike (ns : List Int) : PySem.W.AlikeAll (ns.map PyData.int) := by
  refine ⟨fun x hx y hy => ?_, fun x hx => ?_⟩
  · obtain ⟨i, _, rfl⟩ := List.mem_map.mp hx
    obtain ⟨j, _, rfl⟩ := List.mem_map.mp hy
    simp [PySem.W.alike]
  · obtain ⟨i, _, rfl⟩ := List.mem_map.mp hx
    intro z; cases z
theorem ints_depth : ∀ ns : List Int, PyData.depthAll (ns.map PyData.int) = 0
  | [] => by simp [PyData.depthAll]
  | n :: ns => by simp [PyData.depthAll, PyData.depth, ints_depth ns]
theorem fold_max : ∀ (n : Int) (ns : List Int), ns.foldl max n ∈ n :: ns ∧ ∀ y ∈ n :: ns, y ≤ ns.foldl max n
  | n, [] => by simp
  | n, k :: r => by
    obtain ⟨h1, h2⟩ := fold_max (max n k) r
    have h3 := h2 (max n k) List.mem_cons_self
    rw [List.foldl_cons]
    refine ⟨?_, fun y hy => ?_⟩
    · rcases List.mem_cons.mp h1 with h | h
      · rw [h]
        by_cases q : n ≤ k
        · rw [Int.max_eq_right q]; simp
        · rw [Int.max_eq_left (by omega)]; simp
      · simp [h]
    · rcases List.mem_cons.mp hy with rfl | hy
      · omega
      · rcases List.mem_cons.mp hy with rfl | hy
        · omega
        · exact h2 y (List.mem_cons_of_mem _ hy)
theorem fold_min : ∀ (n : Int) (ns : List Int), ns.foldl min n ∈ n :: ns ∧ ∀ y ∈ n :: ns, ns.foldl min n ≤ y
  | n, [] => by simp
  | n, k :: r => by
    obtain ⟨h1, h2⟩ := fold_min (min n k) r
    have h3 := h2 (min n k) List.mem_cons_self
    rw [List.foldl_cons]
    refine ⟨?_, fun y hy => ?_⟩
    · rcases List.mem_cons.mp h1 with h | h
      · rw [h]
        by_cases q : n ≤ k
        · rw [Int.min_eq_left q]; simp
        · rw [Int.min_eq_right (by omega)]; simp
      · simp [h]
    · rcases List.mem_cons.mp hy with rfl | hy
      · omega
      · rcases List.mem_cons.mp hy with rfl | hy
        · omega
        · exact h2 y (List.mem_cons_of_mem _ hy)
theorem cr_maxT (hc : X.calm = true) (hu : X.A.units + 65 < cLine) : CallR X (.builtin "max") (fun vs H Q => ∃ (a : Addr) (n : Int) (ns : List Int), vs = [V.ref a] ∧ SqT X.K H a ((n :: ns).map V.int) ∧ ∀ m, m ∈ n :: ns → (∀ y ∈ n :: ns, y ≤ m) → Q (.int m) H) := by
  intro pins s σ H vs us Q I r h
  obtain ⟨a, n, ns, rfl, hs, q⟩ := h
  obtain ⟨its, rv, hl, _⟩ := I.tuple hs
  rw [Vals.ref1 r]
  obtain ⟨as, hr⟩ := ints_reads (h := s.heap) rv.ints
  have hl' : s.heap.IsTuple a its.toArray := hl
  refine PySem.W.max_tuple_data (x := .int n) (xs := ns.map PyData.int) (I.ok.hd hc) hl' (by simpa using hr) (ints_alike (n :: ns)) ?_ fun i v h' tk bs hv hd hk => ?_
  · have := ints_depth (n :: ns)
    rw [List.map_cons] at this
    rw [this]; omega
  · rw [PySem.W.maxD_ints] at hd
    cases hd
    obtain ⟨h1, h2⟩ := fold_max n ns
    exact ⟨.int _, H, I.kept hk, ⟨_, rfl⟩, q _ h1 h2⟩
theorem cr_minT (hc : X.calm = true) (hu : X.A.units + 65 < cLine) : CallR X (.builtin "min") (fun vs H Q => ∃ (a : Addr) (n : Int) (ns : List Int), vs = [V.ref a] ∧ SqT X.K H a ((n :: ns).map V.int) ∧ ∀ m, m ∈ n :: ns → (∀ y ∈ n :: ns, m ≤ y) → Q (.int m) H) := by
  intro pins s σ H vs us Q I r h
  obtain ⟨a, n, ns, rfl, hs, q⟩ := h
  obtain ⟨its, rv, hl, _⟩ := I.tuple hs
  rw [Vals.ref1 r]
  obtain ⟨as, hr⟩ := ints_reads (h := s.heap) rv.ints
  have hl' : s.heap.IsTuple a its.toArray := hl
  refine PySem.W.min_tuple_data (x := .int n) (xs := ns.map PyData.int) (I.ok.hd hc) hl' (by simpa using hr) (ints_alike (n :: ns)) ?_ fun i v h' tk bs hv hd hk => ?_
  · have := ints_depth (n :: ns)
    rw [List.map_cons] at this
    rw [this]; omega
  · rw [PySem.W.minD_ints] at hd
    cases hd
    obtain ⟨h1, h2⟩ := fold_min n ns
    exact ⟨.int _, H, I.kept hk, ⟨_, rfl⟩, q _ h1 h2⟩
theorem or_some {α : Type} {a b : Option α} {x : α} (h : a.or b = some x) : a = some x ∨ b = some x := by
  cases a with
  | none => exact .inr h
  | some _ => exact .inl h
theorem tup_kP {K : PySem.W.Frag} {B : AP} {H : Hp} (hB : ∀ (b : Addr) (ys : List V), H b = some (.tup ys) → ¬ B b) : ∀ {kvs : List (List K1 × D)} {kws : List (List L2.Key × V)} {bs : List Addr}, IsKeys H kws bs → kws.map (·.1) = kvs.map (fun p => p.1.map tK) → (kvs.all fun p => p.1.all smB) = true →
    Reps K B H (kvs.map fun p => D.tup (p.1.map kD)) (bs.map V.ref)
  | [], [], bs, h, _, _ => by cases h; rfl
  | [], _ :: _, _, _, e, _ => by simp at e
  | _ :: _, [], _, _, e, _ => by simp at e
  | p :: kvs, q :: kws, bs, h, e, hs => by
    cases h with
    | cons h1 h2 =>
      rename_i b bs
      rw [List.map_cons, List.map_cons] at e
      obtain ⟨e1, e2⟩ := List.cons.inj e
      rw [List.all_cons, Bool.and_eq_true] at hs
      rw [e1] at h1
      exact ⟨_, _, rfl, ⟨b, _, rfl, ⟨hB b _ h1, h1⟩, kDs_rep fun k hk => List.all_eq_true.mp hs.1 k hk⟩, tup_kP hB h2 e2 hs.2⟩
theorem rd_eq {H : Hp} {a : Addr} {o u : HO} (h : Rd H a u) (e : H a = some o) (hf : ∀ ob w, o ≠ .frz ob w) : u = o := by
  rcases h with h | ⟨ob, h⟩
  · rw [e] at h; exact (Option.some.inj h).symm
  · rw [e] at h; exact absurd (Option.some.inj h) (hf ob u)
theorem keysR_at {X : Cx} {B : AP} {H : Hp} {u : Rt} {x : V} {ds : List D} (hB : ∀ (b : Addr) (ys : List V), H b = some (.tup ys) → ¬ B b) (h : RtAt X.K B H u x) (e : keysR u = some ds) : ∃ a, x = .ref a ∧ rKeys X B a H ds := by
  unfold keysR at e
  split at e
  · rename_i kvs
    split at e
    · rename_i hs
      cases e
      obtain ⟨a, rfl, kws, h1, h2, h3⟩ := h
      refine ⟨a, rfl, .inl ⟨kws, .inl h1⟩, fun ps ev => ?_⟩
      rcases ev with ⟨kws', hr, rfl⟩ | ⟨kws', bs, hr, _, _⟩
      · have := rd_eq hr h1 (fun _ _ z => nomatch z)
        cases this
        have := kDs_rep (K := X.K) (B := B) (H := H) (ks := kvs.map (·.1)) fun k hk => by
          obtain ⟨p, hp, rfl⟩ := List.mem_map.mp hk
          exact List.all_eq_true.mp hs p hp
        have e1 : (kvs.map (·.1)).map kD = kvs.map fun p => kD p.1 := by rw [List.map_map]; rfl
        have e2 : ((kvs.map (·.1)).map tK).map kV = (kws.map fun p => (kV p.1, p.2)).map (·.1) := by
          have e3 : (kvs.map (·.1)).map tK = kws.map (·.1) := by rw [List.map_map]; exact h2.symm
          rw [e3, List.map_map, List.map_map]
          rfl
        rw [e1, e2] at this
        exact this
      · have := rd_eq hr h1 (fun _ _ z => nomatch z)
        cases this
    · cases e
  · rename_i kvs
    split at e
    · rename_i hs
      cases e
      obtain ⟨a, rfl, kws, h1, h2, h3⟩ := h
      refine ⟨a, rfl, .inr ⟨kws, .inl h1⟩, fun ps ev => ?_⟩
      rcases ev with ⟨kws', hr, _⟩ | ⟨kws', bs, hr, hk, rfl⟩
      · have := rd_eq hr h1 (fun _ _ z => nomatch z)
        cases this
      · have := rd_eq hr h1 (fun _ _ z => nomatch z)
        cases this
        have hl : bs.length = kws.length := (Paired.length hk).symm
        have := tup_kP (K := X.K) hB hk h2 hs
        have e2 : ((bs.zip kws).map fun p => (V.ref p.1, p.2.2)).map (·.1) = bs.map V.ref := by
          rw [List.map_map]
          have : (fun x : V × V => x.1) ∘ (fun p : Addr × (List L2.Key × V) => (V.ref p.1, p.2.2)) = V.ref ∘ Prod.fst := rfl
          rw [this, ← List.map_map, zip_fst hl.symm]
        rw [e2]
        exact this
    · cases e
  · cases e
theorem op_b (hc : X.calm = true) (hu : X.A.units + 65 < cLine) (g : String) : CallR X (bVal g) (rB X.K g) := by
  intro pins s σ H xs us Q I r h
  obtain ⟨B, rs, w, hB, ha, e, q⟩ := h
  unfold bD at e
  split at e
  · cases e
    obtain ⟨v, rfl, h1, hl⟩ := ha.one
    exact call_len_str pins s σ H _ us Q I r ⟨tS _, by rw [h1], by rw [tS_len, lm_eq]; exact hl, by rw [tS_len]; exact q.int⟩
  · cases e
    obtain ⟨v, rfl, a, vs, rfl, h1, r1⟩ := ha.one
    exact call_len_seq pins s σ H _ us Q I r ⟨a, vs, rfl, .inr h1.sq, by rw [r1.length]; exact q.int⟩
  · cases e
    obtain ⟨v, rfl, a, vs, rfl, h1, r1⟩ := ha.one
    exact call_len_seq pins s σ H _ us Q I r ⟨a, vs, rfl, .inl h1.sq, by rw [r1.length]; exact q.int⟩
  · cases e
    obtain ⟨v, rfl, a, rfl, vs, h1, r1⟩ := ha.one
    exact call_len_seq pins s σ H _ us Q I r ⟨a, vs, rfl, .inl (SqL.of h1), by rw [r1.length]; exact q.int⟩
  · cases e
    obtain ⟨v, rfl, a, rfl, kws, h1, h2, h3⟩ := ha.one
    refine call_lenD pins s σ H _ us Q I r ⟨a, kws, rfl, h1, ?_⟩
    have el : kws.length = (‹List (K1 × D)›).length := by simpa using h3.length
    rw [el]
    exact q.int
  · cases e
    obtain ⟨v, rfl, h1⟩ := ha.one
    exact call_int1 pins s σ H _ us Q I r (.inl ⟨_, by rw [show v = _ from h1], q.int⟩)
  · cases e
    obtain ⟨v, rfl, h1⟩ := ha.one
    exact call_abs pins s σ H _ us Q I r ⟨_, by rw [show v = _ from h1], q.int⟩
  · cases e
    obtain ⟨v, v', rfl, h1, h2⟩ := ha.two
    exact call_min2 hc pins s σ H _ us Q I r ⟨_, _, by rw [show v = _ from h1, show v' = _ from h2], q.int⟩
  · cases e
    obtain ⟨v, v', rfl, h1, h2⟩ := ha.two
    exact call_max2 hc pins s σ H _ us Q I r ⟨_, _, by rw [show v = _ from h1, show v' = _ from h2], q.int⟩
  · cases e
  · simp only [Option.bind_eq_some_iff, Option.map_eq_some_iff] at e
    obtain ⟨ds, e1, ns, e2, rfl⟩ := e
    obtain ⟨v, rfl, h1⟩ := ha.one
    obtain ⟨a, vs, rfl, h2, r2⟩ := h1.seq e1
    obtain ⟨rfl, _⟩ := intL_reps e2 r2
    rcases h2 with h2 | h2
    · exact cr_sum hc pins s σ H _ us Q I r ⟨a, ns, rfl, h2, q.int⟩
    · exact cr_sumT hc pins s σ H _ us Q I r ⟨a, ns, rfl, h2, q.int⟩
  · simp only [Option.bind_eq_some_iff] at e
    obtain ⟨ds, e1, e3⟩ := e
    obtain ⟨v, rfl, h1⟩ := ha.one
    obtain ⟨a, vs, rfl, h2, r2⟩ := h1.seq e1
    unfold bestD at e3
    split at e3
    · cases e3
    · rename_i n ns e2
      cases e3
      obtain ⟨rfl, _⟩ := intL_reps e2 r2
      obtain ⟨m1, m2⟩ := maxI_spec n ns
      rcases h2 with h2 | h2
      · refine cr_max hc pins s σ H _ us Q I r ⟨a, n :: ns, rfl, h2, by simp, fun m k1 k2 => ?_⟩
        have : m = maxI n ns := Int.le_antisymm (m2 m k1) (k2 _ m1)
        rw [this]; exact q.int
      · refine cr_maxT hc hu pins s σ H _ us Q I r ⟨a, n, ns, rfl, h2, fun m k1 k2 => ?_⟩
        have : m = maxI n ns := Int.le_antisymm (m2 m k1) (k2 _ m1)
        rw [this]; exact q.int
    · split at e3
      · cases e3
      · split at e3
        · rename_i hk
          cases e3
          rw [Bool.and_eq_true, Bool.and_eq_true] at hk
          exact cr_bestD hc hu true pins s σ H _ us Q I r ⟨B, a, vs, _, _, rfl, h2, r2, hk.1.1, hk.1.2, of_decide_eq_true hk.2, fun z hz => q.v hz⟩
        · cases e3
  · simp only [Option.bind_eq_some_iff] at e
    obtain ⟨ds, e1, e3⟩ := e
    obtain ⟨v, rfl, h1⟩ := ha.one
    obtain ⟨a, vs, rfl, h2, r2⟩ := h1.seq e1
    unfold bestD at e3
    split at e3
    · cases e3
    · rename_i n ns e2
      cases e3
      obtain ⟨rfl, _⟩ := intL_reps e2 r2
      obtain ⟨m1, m2⟩ := minI_spec n ns
      rcases h2 with h2 | h2
      · refine cr_min hc pins s σ H _ us Q I r ⟨a, n :: ns, rfl, h2, by simp, fun m k1 k2 => ?_⟩
        have : m = minI n ns := Int.le_antisymm (k2 _ m1) (m2 m k1)
        rw [this]; exact q.int
      · refine cr_minT hc hu pins s σ H _ us Q I r ⟨a, n, ns, rfl, h2, fun m k1 k2 => ?_⟩
        have : m = minI n ns := Int.le_antisymm (k2 _ m1) (m2 m k1)
        rw [this]; exact q.int
    · split at e3
      · cases e3
      · split at e3
        · rename_i hk
          cases e3
          rw [Bool.and_eq_true, Bool.and_eq_true] at hk
          exact cr_bestD hc hu false pins s σ H _ us Q I r ⟨B, a, vs, _, _, rfl, h2, r2, hk.1.1, hk.1.2, of_decide_eq_true hk.2, fun z hz => q.v hz⟩
        · cases e3
  · simp only [Option.bind_eq_some_iff] at e
    obtain ⟨ds, e1, e3⟩ := e
    obtain ⟨v, rfl, h1⟩ := ha.one
    rcases or_some e1 with e1 | e1
    rotate_left
    · obtain ⟨a, rfl, hk⟩ := keysR_at hB h1 e1
      split at e3
      · rename_i hk2
        cases e3
        rw [Bool.and_eq_true, Bool.and_eq_true] at hk2
        exact cr_sortedKeys hc hu pins s σ H _ us Q I r ⟨B, a, ds, rfl, hk, hk2.1.1, hk2.1.2, of_decide_eq_true hk2.2, fun vs' p hv hp => q _ _ (.lst hp hv)⟩
      · cases e3
    obtain ⟨a, vs, rfl, h2, r2⟩ := h1.lst e1
    split at e3
    · rename_i hk
      cases e3
      rw [Bool.and_eq_true, Bool.and_eq_true] at hk
      exact cr_sortedD hu pins s σ H _ us Q I r ⟨B, a, vs, ds, rfl, h2, r2, hk.1.1, hk.1.2, of_decide_eq_true hk.2, fun vs' p hv hp => q _ _ (.lst hp hv)⟩
    · cases e3
  · simp only [Option.bind_eq_some_iff, Option.map_eq_some_iff] at e
    obtain ⟨ds, e1, ns, e2, rfl⟩ := e
    obtain ⟨v, rfl, h1⟩ := ha.one
    obtain ⟨a, vs, rfl, h2, r2⟩ := h1.lst e1
    have := boolL_reps e2 r2
    subst this
    exact cr_all hc pins s σ H _ us Q I r ⟨a, ns, rfl, h2, q.bl⟩
  · simp only [Option.bind_eq_some_iff, Option.map_eq_some_iff] at e
    obtain ⟨ds, e1, ns, e2, rfl⟩ := e
    obtain ⟨v, rfl, h1⟩ := ha.one
    obtain ⟨a, vs, rfl, h2, r2⟩ := h1.lst e1
    have := boolL_reps e2 r2
    subst this
    exact cr_any hc pins s σ H _ us Q I r ⟨a, ns, rfl, h2, q.bl⟩
  · rw [Option.map_eq_some_iff] at e
    obtain ⟨ds, e1, rfl⟩ := e
    obtain ⟨v, rfl, h1⟩ := ha.one
    unfold seqR at e1
    split at e1 <;> cases e1
    · obtain ⟨a, vs, rfl, h2, r2⟩ := h1
      exact call_tuple_of pins s σ H _ us Q I r ⟨a, vs, rfl, .inr ⟨h2.sq, q.v ⟨a, vs, rfl, h2, r2⟩⟩⟩
    · obtain ⟨a, vs, rfl, h2, r2⟩ := h1
      exact call_tuple_of pins s σ H _ us Q I r ⟨a, vs, rfl, .inl ⟨h2.sq, fun l hl => q _ _ (.tup hl r2)⟩⟩
    · obtain ⟨a, rfl, vs, h2, r2⟩ := h1
      exact call_tuple_of pins s σ H _ us Q I r ⟨a, vs, rfl, .inl ⟨SqL.of h2, fun l hl => q _ _ (.tup hl r2)⟩⟩
  · cases e
    obtain ⟨v, rfl, h1, hl⟩ := ha.one
    subst h1
    refine cr_listS hc pins s σ H _ us Q I r ⟨_, rfl, hl, fun l hl => q _ _ (.lst hl ?_)⟩
    exact chars_reps _
  · rw [Option.map_eq_some_iff] at e
    obtain ⟨ds, e1, rfl⟩ := e
    obtain ⟨v, rfl, h1⟩ := ha.one
    rcases or_some e1 with e1 | e1
    rotate_left
    · obtain ⟨a, rfl, hk⟩ := keysR_at hB h1 e1
      exact cr_listKeys hc pins s σ H _ us Q I r ⟨B, a, ds, rfl, hk, fun vs' p hv hp => q _ _ (.lst hp hv)⟩
    obtain ⟨a, vs, rfl, h2, r2⟩ := h1.seq e1
    exact call_list_of pins s σ H _ us Q I r ⟨a, vs, rfl, h2, fun l hl => q _ _ (.lst hl r2)⟩
  · cases e
/-! ### methods of texts -/
def rM (K : PySem.W.Frag) (g : String) : V → List V → Hp → VK → Prop := fun x xs H Q => ∃ B u us w, RtAt K B H u x ∧ RtsAt K B H us xs ∧ mD g u us = some w ∧ Res K B H w Q
theorem joinD_eq (sep : List Nat) : ∀ xs : List (List Nat), joinD sep xs = TL.joinL sep xs
  | [] => rfl
  | [_] => rfl
  | x :: y :: r => by simp only [joinD, TL.joinL, joinD_eq sep (y :: r)]
theorem join_tS (sep : List Nat) (xs : List (List Nat)) : Str.join (tS sep) (xs.map tS) = tS (joinD sep xs) := by
  apply TL.ext_tl
  rw [TL.tl_join, joinD_eq]
  show TL.joinL sep ((xs.map tS).map TL.tl) = TL.joinL sep xs
  rw [List.map_map]
  congr 1
  have : (TL.tl ∘ tS) = id := by funext x; rfl
  rw [this, List.map_id]
theorem joinD_len (sep : List Nat) : ∀ xs : List (List Nat), (joinD sep xs).length ≤ (xs.map (·.length)).sum + xs.length * sep.length
  | [] => by simp [joinD]
  | [x] => by simp [joinD]
  | x :: y :: r => by
    have := joinD_len sep (y :: r)
    simp only [joinD, List.length_append, List.map_cons, List.sum_cons, List.length_cons] at this ⊢
    have e1 : (r.length + 1 + 1) * sep.length = (r.length + 1) * sep.length + sep.length := Nat.succ_mul _ _
    omega
end
end VI

set_option Elab.async false
set_option linter.all false
set_option maxRecDepth 100000
set_option maxHeartbeats 2000000
set_option autoImplicit false
namespace VI
open PySem PySem.Spec PyProof.Rows L2

/-- what is known of the place where a piece stands -/
structure Sx where
  N : List String
  sc : Scope
  top : Str → Bool
  cs : List (String × D)
  bl : List String
abbrev oS (x : String) : Str := Str.ofString x
def visC (sc : Scope) (x : Str) : Bool := match sc.names.lookup x with
  | some .local => true | some .cell => true | some .free => true | _ => false
def glC (sc : Scope) (x : Str) : Bool := match sc.names.lookup x with
  | some .globalImplicit => true | _ => false
def stoC (sx : Sx) (x : Str) : Bool := match sx.sc.names.lookup x with
  | some .local => true | some .cell => sx.top x | _ => false
def slotC (sx : Sx) (i : Nat) (x : Str) : Bool := match sx.N[i]? with
  | some y => decide (oS y = x) | none => false
def plainN (x : Str) : Bool := !(x == ("__debug__" : Str)) && !(x == ("__classdict__" : Str)) && !(x == ("__name__" : Str))
def nst : Expr → Bool
  | .Starred .. => false | _ => true
def notSl : Expr → Bool
  | .Slice .. => false | _ => true
def notSet : Expr → Bool
  | .Set .. => false | _ => true
def notCm : Expr → Bool
  | .ListComp .. => false | .SetComp .. => false | .DictComp .. => false | _ => true
def isLC : Expr → Bool
  | .ListComp .. => true | _ => false
def notTp : Expr → Bool
  | .Tuple .. => false | _ => true
def notC0 : Expr → Bool
  | .Call _ _ _ _ => false | _ => true
/-- an expression whose test is its truth -/
def plT : Expr → Bool
  | .UnaryOp .Not _ _ => false | .BoolOp .. => false | .IfExp .. => false | .Compare .. => false | _ => true
def sameD : D → D → Bool
  | .non, .non => true
  | .bl a, .bl b => a == b
  | .int a, .int b => decide (a = b)
  | .str a, .str b => decide (a = b)
  | _, _ => false
theorem sameD_eq {a b : D} (h : sameD a b = true) : a = b := by
  unfold sameD at h
  split at h
  · rfl
  · rw [beq_iff_eq.mp h]
  · rw [of_decide_eq_true h]
  · rw [of_decide_eq_true h]
  · cases h
def mLit : D → Const → Bool
  | .non, .none => true
  | .bl a, .bool b => a == b
  | .int a, .int b => decide (a = b)
  | .str a, .str b => decide (tS a = b) && decide (a.length ≤ 1000)
  | _, _ => false
def mO : BO → Operator → Bool
  | .add, .Add => true | .sub, .Sub => true | .mul, .Mult => true | .fdiv, .FloorDiv => true | .mod, .Mod => true | .pow, .Pow => true | _, _ => false
def mC : CO → CmpOp → Bool
  | .lt, .Lt => true | .le, .LtE => true | .gt, .Gt => true | .ge, .GtE => true | .eq, .Eq => true | .ne, .NotEq => true
  | .is_, .Is => true | .isn, .IsNot => true | .in_, .In => true | .nin, .NotIn => true | _, _ => false
theorem mO_eq {o : BO} {p : Operator} (h : mO o p = true) : p = opOf o := by cases o <;> cases p <;> simp [mO] at h <;> rfl
theorem mC_eq {o : CO} {p : CmpOp} (h : mC o p = true) : p = cmOf o := by cases o <;> cases p <;> simp [mC] at h <;> rfl
/-- the methods of one argument -/
def mKn : List String := ["join", "get", "index", "count"]
def bKn : List String := ["len", "int", "abs", "min", "max", "sum", "all", "any", "tuple", "list", "sorted"]
/-- the builtins whose calls are known, and whether each is a type -/
def bKnown (sx : Sx) (g : String) : Bool := sx.bl.contains g
def bTy (g : String) : Bool := g == "int" || g == "tuple" || g == "list"
/-- the types that isinstance is asked of -/
def tyKnown (g : String) : Bool := g == "int" || g == "bool" || g == "str" || g == "tuple" || g == "list"
def mOwn (sx : Sx) (own : List Nat) : List (Str × Nat) := own.map fun i => (oS (sx.N.getD i ""), i)
def inC (sx : Sx) (sc : Scope) : Sx := { sx with sc := relS sc sx.sc, top := fun x => sc.names.lookup x == some .cell }
mutual
def mG (sx : Sx) : Tg → Expr → Bool
  | .nm i, .Name x _ => slotC sx i x && stoC sx x
  | .tp ts, .Tuple es _ _ => mGs sx ts es
  | _, _ => false
def mGs (sx : Sx) : Tgs → List Expr → Bool
  | .nil, [] => true
  | .cons t r, e :: es => mG sx t e && mGs sx r es
  | _, _ => false
end
mutual
def tgIn (own : List Nat) : Tg → Bool
  | .nm i => own.contains i
  | .tp ts => tgsIn own ts
def tgsIn (own : List Nat) : Tgs → Bool
  | .nil => true
  | .cons t r => tgIn own t && tgsIn own r
end
def isTp : Tg → Bool
  | .tp _ => true | _ => false
def mNames (sx : Sx) : List String → List Expr → Bool
  | [], [] => true
  | t :: ts, .Name x _ :: es => decide (oS t = x) && glC sx.sc x && sx.bl.contains t && tyKnown t && mNames sx ts es
  | _, _ => false
mutual
def mE (sx : Sx) : Ex → Expr → Bool
  | .var i, .Name x _ => slotC sx i x && visC sx.sc x && plainN x
  | .cst y d, .Name x _ => decide (oS y = x) && glC sx.sc x && plainN x && (match sx.cs.lookup y with | some d' => sameD d d' | none => false)
  | .lit d, .Constant c _ _ => mLit d c
  | .op o a b, .BinOp x p y _ => mO o p && mE sx a x && mE sx b y
  | .neg a, .UnaryOp .USub x _ => mE sx a x
  | .nt a, .UnaryOp .Not x _ => mE sx a x
  | .cmp o a b, .Compare x [p] [y] _ => mC o p && mE sx a x && mE sx b y && notSet y
  | .ch2 o o1 a b d, .Compare x [p, p1] [y, z] _ => mC o p && mC o1 p1 && mE sx a x && mE sx b y && mE sx d z && notSet y && notSet z
  | .ch3 o o1 o2 a b d e, .Compare x [p, p1, p2] [y, z, w] _ => mC o p && mC o1 p1 && mC o2 p2 && mE sx a x && mE sx b y && mE sx d z && mE sx e w && notSet y && notSet z && notSet w
  | .bool con es, .BoolOp p xs _ => (match p with | .And => con | .Or => !con) && !xs.isEmpty && mEs sx es xs
  | .ite c a b, .IfExp x y z _ => mT sx c x && mE sx a y && mE sx b z
  | .tup es, .Tuple xs _ _ => mEs sx es xs
  | .lst es, .List xs _ => mEs sx es xs
  | .dct _ .nil .nil, .Dict [] [] _ => true
  | .ix a i, .Subscript x y _ => mE sx a x && mE sx i y && notSl y
  | .sl a lo hi, .Subscript x (.Slice l h none _) _ => mE sx a x && mP sx lo l && mP sx hi h
  | .call g es, .Call (.Name x _) xs [] _ => decide (oS g = x) && glC sx.sc x && plainN x && !xs.isEmpty && mEs sx es xs
  | .b g es, .Call (.Name x _) xs [] _ => decide (oS g = x) && glC sx.sc x && plainN x && sx.bl.contains g && bKn.contains g && !xs.isEmpty && mEs sx es xs
  | .isi a ts, .Call (.Name x _) [y, z] [] _ => decide (oS "isinstance" = x) && glC sx.sc x && sx.bl.contains "isinstance" && mE sx a y && nst y && decide (ts.length ≤ 10) && !ts.isEmpty &&
      (match z with
        | .Tuple es _ _ => mNames sx ts es
        | .Name _ _ => mNames sx ts [z]
        | _ => false)
  | .m g a (.cons e .nil), .Call (.Attribute o x p) [y] [] q => mKn.contains g && decide (oS g = x) && mE sx a o && notC0 o && mE sx e y && nst y && (p.endLine == q.line)
  | .gt a k d, .Call (.Attribute o x p) [y, z] [] q => decide (oS "get" = x) && mE sx a o && notC0 o && mE sx k y && nst y && mE sx d z && nst z && (p.endLine == q.line)
  | .dsp _ ps, .Dict ks vs _ => mKv sx ps ks vs && !ks.isEmpty && decide (ks.length ≤ 15)
  | .sit a, .Call (.Name x _) [.Call (.Attribute o y p) [] [] q] [] _ => decide (oS "sorted" = x) && glC sx.sc x && sx.bl.contains "sorted" && decide (oS "items" = y) && mE sx a o && notC0 o && (p.endLine == q.line)
  | .lr1 a, .Call (.Name x _) [.Call (.Name y _) [z] [] _] [] _ => decide (oS "list" = x) && glC sx.sc x && sx.bl.contains "list" && decide (oS "range" = y) && glC sx.sc y && sx.bl.contains "range" && mE sx a z && nst z
  | .lr2 a b, .Call (.Name x _) [.Call (.Name y _) [z, w] [] _] [] _ => decide (oS "list" = x) && glC sx.sc x && sx.bl.contains "list" && decide (oS "range" = y) && glC sx.sc y && sx.bl.contains "range" && mE sx a z && nst z && mE sx b w && nst w
  | .rev a, .Subscript x (.Slice none none (some (.UnaryOp .USub (.Constant (.int 1) _ _) _)) _) _ => mE sx a x
  | .pop i, .Call (.Attribute (.Name x _) y p) [] [] q => slotC sx i x && visC sx.sc x && plainN x && decide (oS "pop" = y) && (p.endLine == q.line)
  | .lc own tg it c e, .ListComp y [⟨g, i, fs, z⟩] sc _ => decide (z = 0) && blkC (sx.N.map oS) sx.sc sc (mOwn sx own) && tgIn own tg && mG (inC sx sc) tg g && mI sx it i (isTp tg) && mCo (inC sx sc) c fs && mE (inC sx sc) e y
  | .lc2 own own1 tg it c tg1 it1 c1 e, .ListComp y [⟨g, i, fs, z⟩, ⟨g1, i1, fs1, z1⟩] sc _ => decide (z = 0) && decide (z1 = 0) && blkC (sx.N.map oS) sx.sc sc (mOwn sx own) && tgIn own tg && tgIn own1 tg1 && (own1.all fun v => own.contains v) &&
      mG (inC sx sc) tg g && mI sx it i (isTp tg) && mCo (inC sx sc) c fs && mG (inC sx sc) tg1 g1 && mI (inC sx sc) it1 i1 (isTp tg1) && mCo (inC sx sc) c1 fs1 && mE (inC sx sc) e y
  | _, _ => false
def mEs (sx : Sx) : Exs → List Expr → Bool
  | .nil, [] => true
  | .cons e r, x :: xs => mE sx e x && nst x && mEs sx r xs
  | _, _ => false
def mKv (sx : Sx) : Kvs → List (Option Expr) → List Expr → Bool
  | .nil, [], [] => true
  | .cons k v r, some x :: xs, y :: ys => mE sx k x && mE sx v y && mKv sx r xs ys
  | _, _, _ => false
def mP (sx : Sx) : Exo → Option Expr → Bool
  | .no, none => true
  | .so e, some x => mE sx e x
  | _, _ => false
def mT (sx : Sx) : Tx → Expr → Bool
  | .bool con es, .BoolOp p xs _ => (match p with | .And => con | .Or => !con) && !xs.isEmpty && mTs sx es xs
  | .nt a, .UnaryOp .Not x _ => mT sx a x
  | .ite c a b, .IfExp x y z _ => mT sx c x && mT sx a y && mT sx b z
  | .ex e, x => mE sx e x && (plT x || (match e with | .cmp _ _ _ => true | .ch2 _ _ _ _ _ => true | .ch3 _ _ _ _ _ _ _ => true | _ => false))
  | _, _ => false
def mTs (sx : Sx) : Txs → List Expr → Bool
  | .nil, [] => true
  | .cons e r, x :: xs => mT sx e x && mTs sx r xs
  | _, _ => false
def mCo (sx : Sx) : Txo → List Expr → Bool
  | .no, [] => true
  | .so e, [x] => mT sx e x
  | _, _ => false
def mI (sx : Sx) : It → Expr → Bool → Bool
  | .ex e, x, _ => mE sx e x && notSet x
  | .r1 a, .Call (.Name x _) [y] [] _, _ => decide (oS "range" = x) && glC sx.sc x && sx.bl.contains "range" && mE sx a y && nst y
  | .r2 a b, .Call (.Name x _) [y, z] [] _, _ => decide (oS "range" = x) && glC sx.sc x && sx.bl.contains "range" && mE sx a y && mE sx b z && nst y && nst z
  | .r3 a b d, .Call (.Name x _) [y, z, w] [] _, _ => decide (oS "range" = x) && glC sx.sc x && sx.bl.contains "range" && mE sx a y && mE sx b z && mE sx d w && nst y && nst z && nst w
  | .en a, .Call (.Name x _) [y] [] _, tp => tp && decide (oS "enumerate" = x) && glC sx.sc x && sx.bl.contains "enumerate" && mE sx a y && nst y
  | .zp a b, .Call (.Name x _) [y, z] [] _, tp => tp && decide (oS "zip" = x) && glC sx.sc x && sx.bl.contains "zip" && mE sx a y && mE sx b z && nst y && nst z
  | _, _, _ => false
end
/-- the targets of a parallel assignment: plain names -/
def mPar (sx : Sx) : List Nat → List Expr → Bool
  | [], [] => true
  | i :: is, .Name x p :: es => slotC sx i x && stoC sx x && mPar sx is es
  | _, _ => false
def isLoc (sx : Sx) : Expr → Bool
  | .Name x _ => (match sx.sc.names.lookup x with | some .local => true | _ => false)
  | _ => false
def parOk (ts vs : List Expr) : Bool := ((ts.length == 2) || (ts.length == 3)) && vs.length == ts.length && !(vs.any fun | .Starred .. => true | _ => false) &&
  (let line := (ts.head?.map (·.pos.line)).getD 0
   ts.all fun | .Name _ pos => pos.line == line | _ => false) && !(vs.all (foldedForSure 8)) && !(vs.all (constantsAlone 8))
mutual
def mS (sx : Sx) : Cm → Stmt → Bool
  | .pass, .Pass _ => true
  | .brk, .Break _ => true
  | .cnt, .Continue _ => true
  | .never, .Raise .. => true
  | .ex e, .Expr x _ => mE sx e x && notCm x
  | .ret e, .Return (some x) _ => mE sx e x
  | .retn, .Return none _ => true
  | .asg i e, .Assign [.Name x _] y _ => slotC sx i x && stoC sx x && mE sx e y && (notCm y || isLC y)
  | .asgt t e, .Assign [g] y _ => isTp t && mG sx t g && mE sx e y && notCm y && notTp y
  | .par is es, .Assign [.Tuple ts _ _] (.Tuple vs _ _) _ => mPar sx is ts && mEs sx es vs && ((ts.all (isLoc sx) && parOk ts vs) || !ts.all (isLoc sx) || vs.all (foldedForSure 8)) && decide (is.Nodup)
  | .aug i o e, .AugAssign (.Name x _) p y _ => slotC sx i x && stoC sx x && mO o p && mE sx e y
  | .saug i k o e, .AugAssign (.Subscript (.Name x _) y _) op z _ => slotC sx i x && visC sx.sc x && plainN x && mE sx k y && mO o op && mE sx e z && notSl y
  | .sset i k e, .Assign [.Subscript (.Name x _) y _] z _ => slotC sx i x && visC sx.sc x && plainN x && mE sx k y && mE sx e z && notSl y && notCm z
  | .app i e, .Expr (.Call (.Attribute (.Name x _) y p) [z] [] q) _ => slotC sx i x && visC sx.sc x && plainN x && decide (oS "append" = y) && mE sx e z && nst z && (p.endLine == q.line)
  | .ife c a b, .If x y z _ => mT sx c x && mSs sx a y && mSs sx b z
  | .whl c b, .While x y [] _ => mT sx c x && mSs sx b y
  | .fr t it b, .For g i y [] _ => mG sx t g && mI sx it i (isTp t) && mSs sx b y
  | _, _ => false
def mSs (sx : Sx) : Cms → List Stmt → Bool
  | .nil, [] => true
  | .cons s r, x :: xs => mS sx s x && mSs sx r xs
  | _, _ => false
end

/-! ### the side conditions -/
theorem vis_of {sc : Scope} {x : Str} (h : visC sc x = true) : Vis sc x := by
  unfold visC at h
  split at h
  · exact .inl (by assumption)
  · exact .inr (.inl (by assumption))
  · exact .inr (.inr (by assumption))
  · cases h
theorem gl_of {sc : Scope} {x : Str} (h : glC sc x = true) : sc.names.lookup x = some .globalImplicit := by
  unfold glC at h
  split at h
  · assumption
  · cases h
theorem sto_of {sx : Sx} {x : Str} (h : stoC sx x = true) : Loc sx.sc x ∧ (sx.top x = true ∨ sx.sc.names.lookup x = some .local) := by
  unfold stoC at h
  split at h
  · exact ⟨.inl (by assumption), .inr (by assumption)⟩
  · exact ⟨.inr (by assumption), .inl h⟩
  · cases h
theorem slot_of {sx : Sx} {i : Nat} {x : Str} (h : slotC sx i x = true) : (sx.N.map oS)[i]? = some x := by
  unfold slotC at h
  split at h
  · rename_i y e
    rw [List.getElem?_map, e, Option.map_some, of_decide_eq_true h]
  · cases h
theorem plain_of {x : Str} (h : plainN x = true) : (x == ("__debug__" : Str)) = false ∧ (x == ("__classdict__" : Str)) = false ∧ x ≠ "__name__" := by
  unfold plainN at h
  simp only [Bool.and_eq_true, Bool.not_eq_true'] at h
  exact ⟨h.1.1, h.1.2, fun z => by rw [z] at h; simp at h⟩
theorem star_cons {e : Expr} {es : List Expr} {env : Env} (h : nst e = true) : starEach (e :: es) env = (false, eval e env) :: starEach es env := by
  cases e <;> first | rfl | (exfalso; exact Bool.false_ne_true h)
theorem star_plain {env : Env} {pos : Pos} : ∀ {es : List Expr}, es.all nst = true → (backTo pos (starEach es env)).any (·.1) = false
  | [], _ => rfl
  | e :: es, h => by
    rw [List.all_cons, Bool.and_eq_true] at h
    rw [star_cons h.1]
    show ((false : Bool) || (backTo pos (starEach es env)).any (·.1)) = false
    rw [star_plain h.2]; rfl
theorem plainIx_of {b : Expr} (h : notSl b = true) : PlainIx b := fun o i => by
  cases b <;> first | rfl | (exfalso; exact Bool.false_ne_true h)
theorem abase_of {o : Expr} {a : Str} {env : Env} (h : notC0 o = true) : attributeBase o a env (eval o env) = eval o env := by
  cases o <;> first | rfl | (exfalso; exact Bool.false_ne_true h)
theorem bmarks_of {op : CmpOp} {b : Expr} (h : notSet b = true) : behindInMarks op b = false := by
  cases b <;> first | rfl | (exfalso; exact Bool.false_ne_true h)
theorem fset_of {e : Expr} {env : Env} (h : notSet e = true) (x : Value) : foldedSetIterable e env x = pure x := by
  cases e <;> first | rfl | (exfalso; exact Bool.false_ne_true h)
theorem swaps_of {e : Expr} {t : Option Expr} {l : Nat} {env : Env} (h : notCm e = true) : swapsWith e t l env = pure false := by
  cases e <;> first | rfl | (exfalso; exact Bool.false_ne_true h)
theorem plT_of {e : Expr} {env : Env} (h : plT e = true) (whole : Sem Value) : isTrue e env whole = (do let v ← whole; standAt e.pos; holding [v] (truthy v)) := by
  cases e <;> first
    | rfl
    | (rename_i op a p; cases op <;> first | rfl | (exfalso; exact Bool.false_ne_true h))
    | (exfalso; exact Bool.false_ne_true h)
theorem mEs_nst {sx : Sx} : ∀ {es : Exs} {xs : List Expr}, mEs sx es xs = true → xs.all nst = true
  | .nil, [], _ => rfl
  | .cons e r, x :: xs, h => by
    simp only [mEs, Bool.and_eq_true] at h
    rw [List.all_cons, h.1.2, mEs_nst h.2]; rfl
  | .nil, _ :: _, h => by simp [mEs] at h
  | .cons _ _, [], h => by simp [mEs] at h
end VI

set_option Elab.async false
set_option linter.all false
set_option maxRecDepth 100000
set_option maxHeartbeats 2000000
set_option autoImplicit false
namespace VI
open PySem PySem.Spec PyProof.Rows L2

theorem bind_ok {α β : Type} {x : R α} {k : α → Fr → R β} {r : β} {f : Fr} (h : x.bind k = .ok r f) : ∃ a f1, x = .ok a f1 ∧ k a f1 = .ok r f := by
  cases x with
  | ok a f1 => exact ⟨a, f1, rfl, h⟩
  | bad => cases h
theorem ofO_ok {α : Type} {o : Option α} {f f' : Fr} {r : α} (h : ofO f o = .ok r f') : o = some r ∧ f' = f := by
  cases o with
  | some a => cases h; exact ⟨rfl, rfl⟩
  | none => cases h
section
variable {K : PySem.W.Frag} {T T' : AP} {σ : L2.St} {H H' : Hp} {m m' : Om} {f f' : Fr}

/-! ### names -/
/-- an owned list let go of -/
theorem Sim.free {i : Nat} {p l : Bool} {ds : List D} (S : Sim K T σ H f m) (e : f[i]? = some (.own p l (.lst ds))) :
    ∃ a vs, m i = some a ∧ σ[i]? = some (some (.ref a)) ∧ H a = some (.lst vs) ∧ Sim K T σ H (f.set i (.val (.lst ds))) (m.out i) ∧ Rep K (BB (m.out i) T) H (.lst ds) (.ref a) := by
  obtain ⟨a, e1, e2, vs, ha, r⟩ := S.own i p l _ e
  have hi := (List.getElem?_eq_some_iff.mp e).1
  have less : ∀ b, BB (m.out i) T b → BB m T b ∨ H b = none := fun b z => .inl (z.elim (fun z => .inl (Om.out_own z)) .inr)
  have nb : ¬ BB (m.out i) T a := fun z => by
    rcases z with ⟨j, z⟩ | z
    · obtain ⟨h1, h2⟩ := Om.out_some z
      exact h1 (S.inj j i a h2 e1)
    · exact S.tmp i a e1 z
  have rr : Rep K (BB (m.out i) T) H (.lst ds) (.ref a) := ⟨a, vs, rfl, .inl ⟨nb, .inl ha⟩, Reps.mv (fun _ _ _ e => e) less _ _ r⟩
  refine ⟨a, vs, e1, e2, ha, ⟨by rw [List.length_set]; exact S.len, fun j d q => ?_, fun j p' l' o q => ?_, fun j b q => ?_, fun j k b q1 q2 => ?_, fun j b q => ?_, S.tr, S.ntp⟩, rr⟩
  · by_cases hj : j = i
    · subst hj
      rw [List.getElem?_set_self hi] at q
      cases q
      exact ⟨_, e2, rr⟩
    · rw [List.getElem?_set_ne (Ne.symm hj)] at q
      obtain ⟨v, q1, q2⟩ := S.val j d q
      exact ⟨v, q1, Rep.mv (fun _ _ _ e => e) less _ _ q2⟩
  · by_cases hj : j = i
    · subst hj
      rw [List.getElem?_set_self hi] at q
      cases q
    · rw [List.getElem?_set_ne (Ne.symm hj)] at q
      obtain ⟨b, q1, q2, q3⟩ := S.own j p' l' o q
      exact ⟨b, by rw [Om.out_ne hj]; exact q1, q2, OwnAt.mv (fun _ _ _ e => e) less (fun _ e => e) q3⟩
  · obtain ⟨h1, h2⟩ := Om.out_some q
    obtain ⟨p', l', o, q1⟩ := S.dom j b h2
    exact ⟨p', l', o, by rw [List.getElem?_set_ne (Ne.symm h1)]; exact q1⟩
  · exact S.inj j k b (Om.out_some q1).2 (Om.out_some q2).2
  · exact S.tmp j b (Om.out_some q).2
theorem postX_free {i : Nat} {ds : List D} (S : Sim K T σ H f m) (e : f[i]? = some (.own false false (.lst ds))) :
    ∃ a, σ[i]? = some (some (.ref a)) ∧ PostX K T σ H f m (f.set i (.val (.lst ds))) H (m.out i) T ∧ Rep K (BB (m.out i) T) H (.lst ds) (.ref a) := by
  obtain ⟨a, vs, e1, e2, ha, S', r⟩ := S.free e
  refine ⟨a, e2, ⟨S', ⟨fun _ _ h _ => h, fun b h => .inl (Om.out_own h), fun _ h => .inl h, fun _ h => h⟩, fun j b h => (Om.out_some h).2, fun _ h => h, Kp.set fun p l o q => ?_⟩, r⟩
  rw [e] at q; cases q
  exact ⟨rfl, fun z => nomatch z⟩
end

section
variable {X : Cx} {sx : Sx}
theorem pv' {i : Nat} {x : Str} {pos : Pos} (hn : X.N = sx.N.map oS) (hs : X.env.scope = sx.sc) (h1 : slotC sx i x = true) (h2 : visC sx.sc x = true) (h3 : plainN x = true) : PE X (.Name x pos) (tVar i) :=
  pe_var (by rw [hn]; exact slot_of h1) (by rw [hs]; exact vis_of h2) (plain_of h3).1 (plain_of h3).2.1
/-- a name as a value -/
theorem pe_evVar {i : Nat} {e : Expr} (h : PE X e (tVar i)) : PE X e (tD X.K (evVar i)) := pe_weak h fun σ H Q ⟨T, f, m, r, f', S, e, q⟩ => by
  unfold evVar at e
  split at e
  · rename_i d hd
    cases e
    obtain ⟨v, h1, h2⟩ := S.val i d hd
    exact ⟨v, h1, q v H m T (.refl S) ⟨rfl, h2⟩⟩
  · rename_i ds hd
    cases e
    obtain ⟨a, h1, P, r⟩ := postX_free S hd
    exact ⟨_, h1, q _ H _ T P ⟨rfl, r⟩⟩
  · cases e
/-- .. as an operand -/
theorem pe_opdVar {i : Nat} {e : Expr} {d : Fr → R Rt} (h : PE X e (tVar i)) : PE X e (tO X.K (opd (.var i) d)) := pe_weak h fun σ H Q ⟨T, f, m, o, f', S, e, q⟩ => by
  unfold opd at e
  simp only at e
  split at e
  · rename_i d hd
    cases e
    obtain ⟨v, h1, h2⟩ := S.val i _ hd
    exact ⟨v, h1, q v H m T (.refl S) h1⟩
  · rename_i p l o hd
    cases e
    obtain ⟨a, h0, h1, h2⟩ := S.own i _ _ _ hd
    exact ⟨_, h1, q _ H m T (.refl S) h1⟩
  · cases e
/-- any other expression as an operand -/
theorem opd_ne {a : Ex} {d : Fr → R Rt} (h : ∀ i, a ≠ .var i) : opd a d = fun f => (d f).bind fun r f1 => .ok (.rt r) f1 := by
  funext f
  cases a <;> first | rfl | exact absurd rfl (h _)
theorem pe_opd {e : Expr} {a : Ex} {d : Fr → R Rt} (hv : ∀ i, a = .var i → PE X e (tVar i)) (h : PE X e (tD X.K d)) : PE X e (tO X.K (opd a d)) := by
  by_cases hx : ∃ i, a = .var i
  · obtain ⟨i, rfl⟩ := hx
    exact pe_opdVar (hv i rfl)
  · rw [opd_ne fun i z => hx ⟨i, z⟩]
    refine pe_weak h fun σ H Q ⟨T, f, m, o, f', S, e, q⟩ => ?_
    obtain ⟨r, f1, ed, e⟩ := bind_ok e
    cases e
    refine ⟨T, f, m, r, f', S, ed, fun v H' m' T' P hr => ?_⟩
    refine q v H' m' T' P ?_
    cases r with
    | v d => exact hr.2
    | o ob =>
      obtain ⟨a, h1, h2, h3, h4⟩ := hr
      exact ⟨a, h1, by rw [h3]; exact .inr rfl, h4⟩
end

/-! ### two operands -/
section
variable {X : Cx} {a b : Expr} {pos : Pos}
/-- what stands behind two operands: their values at the later state -/
theorem two {K : PySem.W.Frag} {da db : Fr → R Opd} {ta tb : TE} (ha : ∀ σ H Q, tO K da σ H Q → ta σ H Q) (hb : ∀ σ H Q, tO K db σ H Q → tb σ H Q) {T : AP} {σ : L2.St} {H : Hp} {f f2 : Fr} {m : Om} {R2 : V → V → Hp → Prop} {x y : Opd} {f1 : Fr}
    (S : Sim K T σ H f m) (ex : da f = .ok x f1) (ey : db f1 = .ok y f2)
    (q : ∀ v u H' m' T', PostX K T σ H f m f2 H' m' T' → OpdAt K T' σ H' m' v x → OpdAt K T' σ H' m' u y → R2 v u H') : ta σ H fun v H1 => tb σ H1 fun u H2 => R2 v u H2 :=
  ha _ _ _ ⟨T, f, m, x, f1, S, ex, fun v H1 m1 T1 P1 h1 => hb _ _ _ ⟨T1, f1, m1, y, f2, P1.sim, ey, fun u H2 m2 T2 P2 h2 => q v u H2 m2 T2 (P1.trans P2) (h1.st P1.sim P2) h2⟩⟩
/-- a op b -/
theorem pe_op' {o : BO} {p : Operator} {da db : Fr → R Opd} (hp : mO o p = true) (ha : PE X a (tO X.K da)) (hb : PE X b (tO X.K db)) :
    PE X (.BinOp a p b pos) (tD X.K fun f => (da f).bind fun x f1 => (db f1).bind fun y f2 => ofO f2 ((rd f2 x).bind fun u => (rd f2 y).bind fun v => opD o u v)) := by
  rw [mO_eq hp]
  refine pe_weak (pe_op (op_bin o) ha hb) fun σ H Q ⟨T, f, m, r, f', S, e, q⟩ => ?_
  obtain ⟨x, f1, ex, e⟩ := bind_ok e
  obtain ⟨y, f2, ey, e⟩ := bind_ok e
  obtain ⟨e, rfl⟩ := ofO_ok e
  simp only [Option.bind_eq_some_iff] at e
  obtain ⟨u, e1, v, e2, e3⟩ := e
  exact two (fun _ _ _ h => h) (fun _ _ _ h => h) S ex ey fun xv yv H' m' T' P hx hy => ⟨_, u, v, r, hx.rd P.sim e1, hy.rd P.sim e2, e3, fin_new P q⟩
theorem cmp_two {o : CO} {da db : Fr → R Opd} {T : AP} {σ : L2.St} {H : Hp} {f f1 f2 : Fr} {m : Om} {x y : Opd} {u v : Rt} {k : Bool} {Q : VK} (S : Sim X.K T σ H f m) (ex : da f = .ok x f1) (ey : db f1 = .ok y f2)
    (e1 : rd f2 x = some u) (e2 : rd f2 y = some v) (e3 : cmpD o u v = some k) (q : ∀ H' m', PostX X.K T σ H f m f2 H' m' T → Q (.bl k) H') : tOp (rCm X.K o) (tO X.K da) (tO X.K db) σ H Q :=
  two (fun _ _ _ h => h) (fun _ _ _ h => h) S ex ey fun xv yv H' m' T' P hx hy => ⟨_, u, v, k, hx.rd P.sim e1, hy.rd P.sim e2, e3, q H' m' P.drop⟩
theorem pe_cmp' (hu : X.A.units + 65 < cLine) {o : CO} {p : CmpOp} {da db : Fr → R Opd} (hp : mC o p = true) (hs : notSet b = true) (ha : PE X a (tO X.K da)) (hb : PE X b (tO X.K db)) :
    PE X (.Compare a [p] [b] pos) (tD X.K fun f => (da f).bind fun x f1 => (db f1).bind fun y f2 => ofO f2 ((rd f2 x).bind fun u => (rd f2 y).bind fun v => (cmpD o u v).map fun k => .v (.bl k))) ∧
    PT X (.Compare a [p] [b] pos) (tTD X.K fun f => ((da f).bind fun x f1 => (db f1).bind fun y f2 => ofO f2 ((rd f2 x).bind fun u => (rd f2 y).bind fun v => (cmpD o u v).map fun k => Rt.v (.bl k))).bind fun r f3 => ofO f3 (truth r)) := by
  rw [mC_eq hp]
  constructor
  · refine pe_weak (pe_cmpR (op_cm hu o) ha hb (bmarks_of hs)) fun σ H Q ⟨T, f, m, r, f', S, e, q⟩ => ?_
    obtain ⟨x, f1, ex, e⟩ := bind_ok e
    obtain ⟨y, f2, ey, e⟩ := bind_ok e
    obtain ⟨e, rfl⟩ := ofO_ok e
    simp only [Option.bind_eq_some_iff, Option.map_eq_some_iff] at e
    obtain ⟨u, e1, v, e2, k, e3, rfl⟩ := e
    exact cmp_two S ex ey e1 e2 e3 fun H' m' P => q _ H' m' T P ⟨rfl, rfl⟩
  · refine pt_weak (pt_cmpR (op_cm hu o) ha hb (bmarks_of hs)) fun σ H Q ⟨T, f, m, r, f', S, e, q⟩ => ?_
    obtain ⟨z, f0, e, et⟩ := bind_ok e
    obtain ⟨x, f1, ex, e⟩ := bind_ok e
    obtain ⟨y, f2, ey, e⟩ := bind_ok e
    obtain ⟨e, rfl⟩ := ofO_ok e
    obtain ⟨et, rfl⟩ := ofO_ok et
    simp only [Option.bind_eq_some_iff, Option.map_eq_some_iff] at e
    obtain ⟨u, e1, v, e2, k, e3, rfl⟩ := e
    cases et
    exact cmp_two S ex ey e1 e2 e3 fun H' m' P => ⟨_, rfl, q H' m' P⟩

/-! ### a truth -/
theorem pt_of (hu : X.A.units + 65 < cLine) {d : Fr → R Opd} (hp : plT a = true) (ha : PE X a (tO X.K d)) : PT X a (tTD X.K fun f => (d f).bind fun x f1 => ofO f1 ((rd f1 x).bind truth)) :=
  pt_weak (pt_truth ha (plT_of hp)) fun σ H Q ⟨T, f, m, k, f', S, e, q⟩ => by
    obtain ⟨x, f1, ex, e⟩ := bind_ok e
    obtain ⟨e, rfl⟩ := ofO_ok e
    simp only [Option.bind_eq_some_iff] at e
    obtain ⟨u, e1, e2⟩ := e
    exact ⟨T, f, m, x, f', S, ex, fun v H' m' T' P hx => ⟨k, tru_ok1 (hx.rd P.sim e1) e2, q H' m' P.drop⟩⟩
theorem pe_not' {d : Fr → R Opd} (ha : PE X a (tO X.K d)) : PE X (.UnaryOp .Not a pos) (tD X.K fun f => (d f).bind fun x f1 => ofO f1 (((rd f1 x).bind truth).map fun k => .v (.bl (!k)))) :=
  pe_weak (pe_notT ha) fun σ H Q ⟨T, f, m, r, f', S, e, q⟩ => by
    obtain ⟨x, f1, ex, e⟩ := bind_ok e
    obtain ⟨e, rfl⟩ := ofO_ok e
    simp only [Option.bind_eq_some_iff, Option.map_eq_some_iff] at e
    obtain ⟨k, ⟨u, e1, e2⟩, rfl⟩ := e
    exact ⟨T, f, m, x, f', S, ex, fun v H' m' T' P hx => ⟨k, tru_ok1 (hx.rd P.sim e1) e2, q _ _ _ _ P.drop ⟨rfl, rfl⟩⟩⟩
theorem pe_neg' {d : Fr → R Opd} (ha : PE X a (tO X.K d)) : PE X (.UnaryOp .USub a pos) (tD X.K fun f => (d f).bind fun x f1 => match rd f1 x with | some (.v (.int i)) => .ok (.v (.int (-i))) f1 | _ => .bad) :=
  pe_weak (pe_un un_neg ha) fun σ H Q ⟨T, f, m, r, f', S, e, q⟩ => by
    obtain ⟨x, f1, ex, e⟩ := bind_ok e
    split at e
    · rename_i i e1
      cases e
      exact ⟨T, f, m, x, f', S, ex, fun v H' m' T' P hx => ⟨i, hx.rd P.sim e1, q _ _ _ _ P.drop ⟨rfl, rfl⟩⟩⟩
    · cases e

/-! ### tests -/
theorem pt_not' {d : Fr → R Bool} (ha : PT X a (tTD X.K d)) : PT X (.UnaryOp .Not a pos) (tTD X.K fun f => (d f).bind fun b f1 => .ok (!b) f1) :=
  pt_weak (pt_not ha) fun σ H Q ⟨T, f, m, k, f', S, e, q⟩ => by
    obtain ⟨b, f1, eb, e⟩ := bind_ok e
    cases e
    exact ⟨T, f, m, b, f', S, eb, fun H' m' P => q H' m' P⟩
theorem pw_one' {con : Bool} {d : Fr → R Bool} (ha : PT X a (tTD X.K d)) : PW X (.BoolOp (if con then .And else .Or) [a] pos) (tTD X.K d) := by
  cases con with
  | true => exact pw_and1 ha
  | false => exact pw_or1 ha
theorem pw_cons' {con : Bool} {rest : List Expr} {da : Fr → R Bool} {db : Fr → R Bool} (ha : PT X a (tTD X.K da)) (hb : PW X (.BoolOp (if con then .And else .Or) (b :: rest) pos) (tTD X.K db)) :
    PW X (.BoolOp (if con then .And else .Or) (a :: b :: rest) pos) (tTD X.K fun f => (da f).bind fun k f1 => if k = con then db f1 else .ok k f1) := by
  cases con with
  | true =>
    refine pw_weak (pw_and ha hb) fun σ H Q ⟨T, f, m, k, f', S, e, q⟩ => ?_
    obtain ⟨k0, f1, ek, e⟩ := bind_ok e
    refine ⟨T, f, m, k0, f1, S, ek, fun H1 m1 P1 => ?_⟩
    cases k0 with
    | true => exact ⟨T, f1, m1, k, f', P1.sim, e, fun H' m' P2 => q H' m' (P1.trans P2)⟩
    | false => cases e; exact q _ _ P1
  | false =>
    refine pw_weak (pw_or ha hb) fun σ H Q ⟨T, f, m, k, f', S, e, q⟩ => ?_
    obtain ⟨k0, f1, ek, e⟩ := bind_ok e
    refine ⟨T, f, m, k0, f1, S, ek, fun H1 m1 P1 => ?_⟩
    cases k0 with
    | true => cases e; exact q _ _ P1
    | false => exact ⟨T, f1, m1, k, f', P1.sim, e, fun H' m' P2 => q H' m' (P1.trans P2)⟩
theorem pe_ite' {c : Expr} {dc : Fr → R Bool} {da db : Fr → R Rt} (hc : PT X c (tTD X.K dc)) (ha : PE X a (tD X.K da)) (hb : PE X b (tD X.K db)) :
    PE X (.IfExp c a b pos) (tD X.K fun f => (dc f).bind fun k f1 => if k then da f1 else db f1) :=
  pe_weak (pe_ifExp hc ha hb) fun σ H Q ⟨T, f, m, r, f', S, e, q⟩ => by
    obtain ⟨k0, f1, ek, e⟩ := bind_ok e
    refine ⟨T, f, m, k0, f1, S, ek, fun H1 m1 P1 => ?_⟩
    cases k0 with
    | true =>
      refine ⟨T, f1, m1, r, f', P1.sim, e, fun v H' m' T' P2 hr => q v H' m' T' (P1.trans P2) ?_⟩
      cases r with
      | v d => exact hr
      | o ob => obtain ⟨a, h1, h2, h3, h4⟩ := hr; exact ⟨a, h1, P1.step.dom a h2, h3, h4⟩
    | false =>
      refine ⟨T, f1, m1, r, f', P1.sim, e, fun v H' m' T' P2 hr => q v H' m' T' (P1.trans P2) ?_⟩
      cases r with
      | v d => exact hr
      | o ob => obtain ⟨a, h1, h2, h3, h4⟩ := hr; exact ⟨a, h1, P1.step.dom a h2, h3, h4⟩

/-! ### and, or as values -/
theorem pe_bone {con : Bool} {d : Fr → R Rt} (ha : PE X a (tD X.K d)) : PE X (.BoolOp (if con then .And else .Or) [a] pos) (tD X.K d) := pe_one ha
theorem pe_bcons {con : Bool} {rest : List Expr} {da db : Fr → R Rt} (ha : PE X a (tD X.K da)) (hb : PE X (.BoolOp (if con then .And else .Or) (b :: rest) pos) (tD X.K db)) :
    PE X (.BoolOp (if con then .And else .Or) (a :: b :: rest) pos) (tD X.K fun f => (da f).bind fun x f1 => match x with
      | .v d => (match truth (.v d) with
        | some k => if k = con then db f1 else .ok (.v d) f1
        | none => .bad)
      | _ => .bad) := by
  have core : ∀ (σ : L2.St) (H : Hp) (Q : VK) (T : AP) (f : Fr) (m : Om) (r : Rt) (f' : Fr), Sim X.K T σ H f m → ((da f).bind fun x f1 => match x with
      | .v d => (match truth (.v d) with
        | some k => if k = con then db f1 else .ok (.v d) f1
        | none => .bad)
      | _ => .bad) = .ok r f' → (∀ v H' m' T', PostX X.K T σ H f m f' H' m' T' → RtP X.K T H H' m' T' v r → Q v H') →
      tD X.K da σ H fun x H1 => ∃ k, TruV X.K x H1 k ∧ if k = con then tD X.K db σ H1 Q else Q x H1 := by
    intro σ H Q T f m r f' S e q
    obtain ⟨x, f1, ex, e⟩ := bind_ok e
    split at e
    · rename_i d
      split at e
      · rename_i k ek
        refine ⟨T, f, m, .v d, f1, S, ex, fun v H1 m1 T1 P1 hr => ⟨k, tru_ok1 (r := .v d) hr.2 ek, ?_⟩⟩
        obtain ⟨rfl, hr⟩ := hr
        by_cases hk : k = con
        · rw [if_pos hk] at e ⊢
          refine ⟨_, f1, m1, r, f', P1.sim, e, fun v H' m' T' P2 hr => q v H' m' T' (P1.trans P2) ?_⟩
          cases r with
          | v d => exact hr
          | o ob => obtain ⟨a, h1, h2, h3, h4⟩ := hr; exact ⟨a, h1, P1.step.dom a h2, h3, h4⟩
        · rw [if_neg hk] at e ⊢
          cases e
          exact q v H1 m1 _ P1 ⟨rfl, hr⟩
      · cases e
    · cases e
  cases con with
  | true =>
    refine pe_weak (pe_andT ha hb) fun σ H Q ⟨T, f, m, r, f', S, e, q⟩ => ?_
    exact core σ H Q T f m r f' S e q
  | false =>
    refine pe_weak (pe_orT ha hb) fun σ H Q ⟨T, f, m, r, f', S, e, q⟩ => ?_
    obtain ⟨T, f, m, r, f', S, e, q'⟩ := core σ H Q T f m r f' S e q
    refine ⟨T, f, m, r, f', S, e, fun v H' m' T' P hr => ?_⟩
    obtain ⟨k, h1, h2⟩ := q' v H' m' T' P hr
    refine ⟨k, h1, ?_⟩
    cases k with
    | true => exact h2
    | false => exact h2
end
end VI

set_option Elab.async false
set_option linter.all false
set_option maxRecDepth 100000
set_option maxHeartbeats 2000000
set_option autoImplicit false
namespace VI
open PySem PySem.Spec PyProof.Rows L2

/-! ### lists of expressions -/
/-- displays: values, let go of -/
def tDs (K : PySem.W.Frag) (den : Fr → R (List D)) : TA := fun σ H Q => ∃ T f m ds f', Sim K T σ H f m ∧ den f = .ok ds f' ∧
  ∀ vs H' m', PostX K T σ H f m f' H' m' T → Reps K (BB m' T) H' ds vs → Q vs H'
def OpdsAt (K : PySem.W.Frag) (T : AP) (σ : L2.St) (H : Hp) (m : Om) : List V → List Opd → Prop
  | vs, [] => vs = []
  | vs, o :: os => ∃ v w, vs = v :: w ∧ OpdAt K T σ H m v o ∧ OpdsAt K T σ H m w os
def tOs (K : PySem.W.Frag) (den : Fr → R (List Opd)) : TA := fun σ H Q => ∃ T f m os f', Sim K T σ H f m ∧ den f = .ok os f' ∧
  ∀ vs H' m' T', PostX K T σ H f m f' H' m' T' → OpdsAt K T' σ H' m' vs os → Q vs H'
section
variable {K : PySem.W.Frag} {T T' : AP} {σ : L2.St} {H H' : Hp} {m m' : Om} {f f' : Fr}
theorem OpdsAt.st : ∀ {os : List Opd} {vs : List V}, OpdsAt K T σ H m vs os → Sim K T σ H f m → PostX K T σ H f m f' H' m' T' → OpdsAt K T' σ H' m' vs os
  | [], _, h, _, _ => h
  | o :: os, vs, h, S, P => by
    obtain ⟨v, w, e, h1, h2⟩ := h
    exact ⟨v, w, e, h1.st S P, h2.st S P⟩
theorem OpdsAt.rds : ∀ {os : List Opd} {vs : List V} {us : List Rt}, OpdsAt K T σ H m vs os → Sim K T σ H f m → rds f os = some us → RtsAt K (BB m T) H us vs
  | [], _, us, h, _, e => by
    simp only [VI.rds, Option.some.injEq] at e
    subst e
    exact h
  | o :: os, vs, us, h, S, e => by
    obtain ⟨v, w, rfl, h1, h2⟩ := h
    simp only [VI.rds, Option.bind_eq_some_iff, Option.map_eq_some_iff] at e
    obtain ⟨u, e1, us', e2, rfl⟩ := e
    exact ⟨v, w, rfl, h1.rd S e1, h2.rds S e2⟩
/-- a result let go of -/
theorem fz_rep {v : V} {r : Rt} {d : D} (S : Sim K T σ H f m) (P : PostX K T σ H f m f' H' m' T') (h : RtP K T H H' m' T' v r) (e : fz r = some d) : Rep K (BB m' T) H' d v := by
  cases r with
  | v d' =>
    cases e
    obtain ⟨rfl, h⟩ := h
    exact h
  | o ob =>
    cases ob with
    | lst ds =>
      cases e
      obtain ⟨a, rfl, h1, rfl, vs, h2, h3⟩ := h
      refine ⟨a, vs, rfl, .inl ⟨fun z => ?_, .inl h2⟩, Reps.mv (fun _ _ _ e => e) (fun b z => .inl (z.elim .inl fun z => .inr (.inl z))) _ _ h3⟩
      rcases z with ⟨i, z⟩ | z
      · exact P.sim.tmp i a z (.inr rfl)
      · exact S.tr a z h1
    | dK _ => cases e
    | dT _ => cases e
end
section
variable {X : Cx} {a b : Expr} {es : List Expr} {pos : Pos} {db : Fr → R Opd}
theorem pa_nilD : PA X [] (tDs X.K fun f => .ok [] f) := pa_weak pa_nil fun σ H Q ⟨T, f, m, ds, f', S, e, q⟩ => by
  cases e
  exact q [] H m (.refl S) rfl
theorem pa_consD {da : Fr → R Rt} {db : Fr → R (List D)} (hs : nst a = true) (hall : es.all nst = true) (ha : PE X a (tD X.K da)) (hb : PA X es (tDs X.K db)) :
    PA X (a :: es) (tDs X.K fun f => (da f).bind fun x f1 => match fz x with
      | none => .bad
      | some d => (db f1).bind fun ds f2 => .ok (d :: ds) f2) :=
  pa_weak (pa_cons ha hb (star_cons hs)) fun σ H Q ⟨T, f, m, ds, f', S, e, q⟩ => by
    obtain ⟨x, f1, ex, e⟩ := bind_ok e
    split at e
    · cases e
    · rename_i d ed
      obtain ⟨ds', f2, eb, e⟩ := bind_ok e
      cases e
      refine ⟨T, f, m, x, f1, S, ex, fun v H1 m1 T1 P1 hr => ?_⟩
      have r1 := fz_rep S P1 hr ed
      exact ⟨T, f1, m1, ds', f', P1.drop.sim, eb, fun vs H2 m2 P2 h2 => q (v :: vs) H2 m2 (P1.drop.trans P2) ⟨v, vs, rfl, r1.st P2.step, h2⟩⟩
theorem pa_nilO : PA X [] (tOs X.K fun f => .ok [] f) := pa_weak pa_nil fun σ H Q ⟨T, f, m, ds, f', S, e, q⟩ => by
  cases e
  exact q [] H m T (.refl S) rfl
theorem pa_consO {da : Fr → R Opd} {db : Fr → R (List Opd)} (hs : nst a = true) (hall : es.all nst = true) (ha : PE X a (tO X.K da)) (hb : PA X es (tOs X.K db)) :
    PA X (a :: es) (tOs X.K fun f => (da f).bind fun x f1 => (db f1).bind fun xs f2 => .ok (x :: xs) f2) :=
  pa_weak (pa_cons ha hb (star_cons hs)) fun σ H Q ⟨T, f, m, ds, f', S, e, q⟩ => by
    obtain ⟨x, f1, ex, e⟩ := bind_ok e
    obtain ⟨xs, f2, eb, e⟩ := bind_ok e
    cases e
    exact ⟨T, f, m, x, f1, S, ex, fun v H1 m1 T1 P1 h1 => ⟨T1, f1, m1, xs, f', P1.sim, eb, fun vs H2 m2 T2 P2 h2 => q (v :: vs) H2 m2 T2 (P1.trans P2) ⟨v, vs, rfl, h1.st P1.sim P2, h2⟩⟩⟩

/-! ### displays -/
theorem small_line {n : Nat} (h : n ≤ 1000) : n ≤ sizeLine := by rw [lm_eq]; show n ≤ 16777216; omega
theorem pe_tup' {kk : Nat} {d : Fr → R (List D)} (h : PA X es (tDs X.K d)) (hs : es.all nst = true) : PE X (.Tuple es kk pos) (tD X.K fun f => (d f).bind fun ds f1 => if ds.length ≤ 1000 then .ok (.v (.tup ds)) f1 else .bad) :=
  pe_weak (pe_tup h) fun σ H Q ⟨T, f, m, r, f', S, e, q⟩ => by
    obtain ⟨ds, f1, ed, e⟩ := bind_ok e
    split at e
    · rename_i hl
      cases e
      refine ⟨T, f, m, ds, f', S, ed, fun vs H' m' P h => ⟨by rw [h.length]; exact small_line hl, fun p hp => ?_⟩⟩
      exact fin_new P q _ _ (.tup hp h)
    · cases e
theorem pe_lst' {d : Fr → R (List D)} (h : PA X es (tDs X.K d)) (hs : es.all nst = true) : PE X (.List es pos) (tD X.K fun f => (d f).bind fun ds f1 => if ds.length ≤ 1000 then .ok (.o (.lst ds)) f1 else .bad) :=
  pe_weak (pe_lst h) fun σ H Q ⟨T, f, m, r, f', S, e, q⟩ => by
    obtain ⟨ds, f1, ed, e⟩ := bind_ok e
    split at e
    · rename_i hl
      cases e
      refine ⟨T, f, m, ds, f', S, ed, fun vs H' m' P h => ⟨by rw [h.length]; exact small_line hl, fun p hp => ?_⟩⟩
      exact fin_new P q _ _ (.lst hp h)
    · cases e
theorem pe_dct' {t : Bool} : PE X (.Dict [] [] pos) (tD X.K fun f => .ok (.o (if t then .dT [] else .dK [])) f) := by
  cases t with
  | true =>
    refine pe_weak pe_dnewT fun σ H Q ⟨T, f, m, r, f', S, e, q⟩ => ?_
    cases e
    exact fun p hp => fin_new (.refl S) q _ _ (.dT hp)
  | false =>
    refine pe_weak pe_dnewK fun σ H Q ⟨T, f, m, r, f', S, e, q⟩ => ?_
    cases e
    exact fun p hp => fin_new (.refl S) q _ _ (.dK hp)

/-! ### subscripts, slices -/
theorem pe_ix' (hu : X.A.units + 1 < cLine) {da db : Fr → R Opd} (hs : notSl b = true) (ha : PE X a (tO X.K da)) (hb : PE X b (tO X.K db)) :
    PE X (.Subscript a b pos) (tD X.K fun f => (da f).bind fun x f1 => (db f1).bind fun y f2 => ofO f2 ((rd f2 x).bind fun u => (rd f2 y).bind fun v => ixD u v)) :=
  pe_weak (pe_ix (op_ix hu) ha hb (plainIx_of hs)) fun σ H Q ⟨T, f, m, r, f', S, e, q⟩ => by
    obtain ⟨x, f1, ex, e⟩ := bind_ok e
    obtain ⟨y, f2, ey, e⟩ := bind_ok e
    obtain ⟨e, rfl⟩ := ofO_ok e
    simp only [Option.bind_eq_some_iff] at e
    obtain ⟨u, e1, v, e2, e3⟩ := e
    exact two (fun _ _ _ h => h) (fun _ _ _ h => h) S ex ey fun xv yv H' m' T' P hx hy => ⟨_, u, v, r, hx.rd P.sim e1, hy.rd P.sim e2, e3, fin_new P q⟩
/-- a slice's part -/
def tPO (K : PySem.W.Frag) (den : Fr → R (Option Int)) : TO := fun σ H Q => ∃ T f m k f', Sim K T σ H f m ∧ den f = .ok k f' ∧
  ∀ H' m' T', PostX K T σ H f m f' H' m' T' → Q k H'
theorem po_no' : PO X none (tPO X.K fun f => .ok none f) := po_weak po_none fun σ H Q ⟨T, f, m, k, f', S, e, q⟩ => by
  cases e
  exact q H m T (.refl S)
theorem po_so' {d : Fr → R Opd} (h : PE X a (tO X.K d)) : PO X (some a) (tPO X.K fun f => (d f).bind fun x f1 => match rd f1 x with | some (.v (.int i)) => .ok (some i) f1 | _ => .bad) :=
  po_weak (po_some h) fun σ H Q ⟨T, f, m, k, f', S, e, q⟩ => by
    obtain ⟨x, f1, ex, e⟩ := bind_ok e
    split at e
    · rename_i i e1
      cases e
      exact ⟨T, f, m, x, f', S, ex, fun v H' m' T' P hx => ⟨i, hx.rd P.sim e1, q H' m' T' P⟩⟩
    · cases e
theorem pe_sl' {lo hi : Option Expr} {p2 : Pos} {da : Fr → R Opd} {dl dh : Fr → R (Option Int)} (ha : PE X a (tO X.K da)) (hl : PO X lo (tPO X.K dl)) (hh : PO X hi (tPO X.K dh)) :
    PE X (.Subscript a (.Slice lo hi none p2) pos) (tD X.K fun f => (da f).bind fun x f1 => (dl f1).bind fun l f2 => (dh f2).bind fun h f3 => ofO f3 ((rd f3 x).bind fun u => slD u l h)) :=
  pe_weak (pe_slice op_sl ha hl hh) fun σ H Q ⟨T, f, m, r, f', S, e, q⟩ => by
    obtain ⟨x, f1, ex, e⟩ := bind_ok e
    obtain ⟨l, f2, el, e⟩ := bind_ok e
    obtain ⟨h, f3, eh, e⟩ := bind_ok e
    obtain ⟨e, rfl⟩ := ofO_ok e
    simp only [Option.bind_eq_some_iff] at e
    obtain ⟨u, e1, e2⟩ := e
    exact ⟨T, f, m, x, f1, S, ex, fun v H1 m1 T1 P1 hx => ⟨T1, f1, m1, l, f2, P1.sim, el, fun H2 m2 T2 P2 => ⟨T2, f2, m2, h, f', P2.sim, eh, fun H3 m3 T3 P3 =>
      ⟨_, u, r, ((hx.st P1.sim P2).st P2.sim P3).rd P3.sim e1, e2, fin_new ((P1.trans P2).trans P3) q⟩⟩⟩⟩

/-! ### builtins, methods -/
theorem pe_b' (hc : X.calm = true) (hu : X.A.units + 65 < cLine) {g : String} {x : Str} {p : Pos} {e : Expr} {d : Fr → R (List Opd)} (hk : bKn.contains g = true) (hx : decide (oS g = x) = true) (hg : Gl X x) (hp : plainN x = true) (hm : X.mg x = none)
    (hs : (e :: es).all nst = true) (ha : PA X (e :: es) (tOs X.K d)) : PE X (.Call (.Name x p) (e :: es) [] pos) (tD X.K fun f => (d f).bind fun xs f1 => ofO f1 ((rds f1 xs).bind fun us => bD g us)) := by
  have hx : oS g = x := of_decide_eq_true hx
  subst hx
  obtain ⟨h1, h2, h3⟩ := plain_of hp
  have hs' : nst e = true ∧ es.all nst = true := by rw [List.all_cons, Bool.and_eq_true] at hs; exact hs
  have base : PE X (.Call (.Name (oS g) p) (e :: es) [] pos) (tCB (rB X.K g) (tOs X.K d)) := by
    have hv : (bootBuiltins (oS g) = some (.builtin g) ∧ bVal g = .builtin g) ∨ (bootBuiltins (oS g) = some (.type g) ∧ bVal g = .type g) := by
      simp only [bKn, List.contains_iff_mem, List.mem_cons, List.not_mem_nil, or_false] at hk
      rcases hk with rfl | rfl | rfl | rfl | rfl | rfl | rfl | rfl | rfl | rfl | rfl <;> first
        | exact .inl ⟨by decide +kernel, rfl⟩
        | exact .inr ⟨by decide +kernel, rfl⟩
    rcases hv with ⟨hv, eb⟩ | ⟨hv, eb⟩
    · exact pe_callB (by rw [← eb]; exact op_b hc hu g) hg hm hv ha h3 h1 (star_cons hs'.1) (star_plain hs'.2)
    · exact pe_callTy (by rw [← eb]; exact op_b hc hu g) hg hm hv ha h3 h1 (star_cons hs'.1) (star_plain hs'.2)
  refine pe_weak base fun σ H Q ⟨T, f, m, r, f', S, e, q⟩ => ?_
  obtain ⟨xs, f1, ex, e⟩ := bind_ok e
  obtain ⟨e, rfl⟩ := ofO_ok e
  simp only [Option.bind_eq_some_iff] at e
  obtain ⟨us, e1, e2⟩ := e
  exact ⟨T, f, m, xs, f', S, ex, fun vs H' m' T' P h => ⟨_, us, r, fun b ys e => P.sim.noTup e, h.rds P.sim e1, e2, fin_new P q⟩⟩
/-! ### methods -/
theorem rec_at {K : PySem.W.Frag} {T : AP} {σ : L2.St} {H : Hp} {m : Om} {f : Fr} {x : Opd} {g : String} {v : V} (h : OpdAt K T σ H m v x) (S : Sim K T σ H f m) (e : ((rd f x).any (recOk g)) = true) : ∃ u, rd f x = some u ∧ recOk g u = true ∧ RtAt K (BB m T) H u v := by
  cases q : rd f x with
  | none => rw [q] at e; cases e
  | some u => rw [q] at e; exact ⟨u, rfl, e, h.rd S q⟩
theorem mD_join {u u1 w : Rt} (e : mD "join" u [u1] = some w) : ∃ sep ds ts, u = .v (.str sep) ∧ seqR u1 = some ds ∧ strL ds = some ts ∧ (ts.map (·.length)).sum + ts.length * sep.length ≤ Lm ∧ w = .v (.str (joinD sep ts)) := by
  cases u with
  | o ob => simp [mD] at e
  | v d =>
    cases d with
    | str sep =>
      simp only [mD, Option.bind_eq_some_iff] at e
      obtain ⟨ds, e6, ts, e7, e8⟩ := e
      split at e8
      · cases e8; exact ⟨sep, ds, ts, rfl, e6, e7, by assumption, rfl⟩
      · cases e8
    | _ => simp [mD] at e
theorem pe_join' {o : Expr} {apos : Pos} {da : Fr → R Opd} {d : Fr → R (List Opd)} (ho : notC0 o = true) (hs : nst a = true) (hl : (apos.endLine == pos.line) = true) (ha : PE X o (tO X.K da)) (hb : PE X a (tO X.K db))
    (hd : d = fun f => (db f).bind fun x f1 => .ok [x] f1) : PE X (.Call (.Attribute o "join" apos) [a] [] pos) (tD X.K fun f => (da f).bind fun x f1 => if ((rd f1 x).any (recOk "join")) = true then (d f1).bind fun xs f2 =>
      ofO f2 ((rd f2 x).bind fun u => (rds f2 xs).bind fun us => mD "join" u us) else .bad) := by
  subst hd
  refine pe_weak (pe_join ha hb (by rw [star_cons hs]; rfl) (abase_of ho) hl) fun σ H Q ⟨T, f, m, r, f', S, e, q⟩ => ?_
  obtain ⟨x, f1, ex, e⟩ := bind_ok e
  split at e
  · rename_i hr
    obtain ⟨xs, f2, exs, e⟩ := bind_ok e
    obtain ⟨e, rfl⟩ := ofO_ok e
    obtain ⟨y, f3, ey, exs⟩ := bind_ok exs
    cases exs
    simp only [Option.bind_eq_some_iff] at e
    obtain ⟨u, e1, us, e2, e3⟩ := e
    refine ⟨T, f, m, x, f1, S, ex, fun v H1 m1 T1 P1 hx => ?_⟩
    obtain ⟨u0, _, k0, h0⟩ := rec_at hx P1.sim hr
    have hstr : ∃ z, v = .str z := by
      unfold recOk at k0
      split at k0 <;> first
        | exact ⟨_, h0.1⟩
        | (rename_i hh; exact absurd hh (by decide))
        | (rename_i hh _; exact absurd hh (by decide))
        | (exfalso; simp at *; done)
        | cases k0
    refine ⟨hstr, T1, f1, m1, y, f', P1.sim, ey, fun w H2 m2 T2 P2 hy => ?_⟩
    have hu := (hx.st P1.sim P2).rd P2.sim e1
    simp only [rds, Option.bind_eq_some_iff, Option.map_eq_some_iff] at e2
    obtain ⟨u1, e4, us', e5, rfl⟩ := e2
    cases e5
    have hv := hy.rd P2.sim e4
    have P := P1.trans P2
    obtain ⟨sep, ds, ts, rfl, e6, e7, hlen, rfl⟩ := mD_join e3
    obtain ⟨rfl, hsl⟩ := hu
    obtain ⟨p, vs, rfl, h3, r3⟩ := hv.seq e6
    obtain ⟨rfl, hts⟩ := strL_reps e7 r3
    refine ⟨tS sep, p, ts.map tS, rfl, rfl, h3, ?_, ?_⟩
    · rw [List.map_map, List.length_map, tS_len]
      have : (Str.length ∘ tS) = List.length := by funext z; exact tS_len z
      rw [show ((fun x : Str => x.length) ∘ tS) = List.length from this]
      exact hlen
    · rw [show Txt.join (tS sep) (ts.map tS) = tS (joinD sep ts) from (TL.join_eq _ _).trans (join_tS sep ts)]
      exact (fin_new P q).str (Nat.le_trans (joinD_len sep ts) hlen)
  · cases e
/-! ### isinstance -/
def tyS : Rt → String
  | .v d => tyOf d
  | .o (.lst _) => "list"
  | _ => ""
theorem kit_all : ∀ a ∈ ["NoneType", "bool", "int", "str", "tuple", "list"], ∀ b ∈ ["int", "bool", "str", "tuple", "list"], kitB a b = some (a == b || (a == "bool" && b == "int")) := by decide +kernel
theorem tyR {K : PySem.W.Frag} {B : AP} {H : Hp} {u : Rt} {x : V} {t : String} {b : Bool} (h : RtAt K B H u x) (e : isiD t u = some b) : TyX K H x (.type (tyS u)) ∧ tyS u ∈ ["NoneType", "bool", "int", "str", "tuple", "list"] ∧ b = (tyS u == t || (tyS u == "bool" && t == "int")) := by
  have sy : ∀ a c : String, (a == c) = (c == a) := fun a c => by
    by_cases q : a = c
    · rw [q]
    · rw [beq_eq_false_iff_ne.mpr q, beq_eq_false_iff_ne.mpr (fun z => q z.symm)]
  cases u with
  | v d =>
    cases d with
    | non =>
      simp only [isiD, Option.some.injEq] at e
      rw [show x = _ from h]
      exact ⟨.base .non, by simp [tyS, tyOf], by rw [← e, sy]; simp [tyS, tyOf]⟩
    | bl k =>
      simp only [isiD, Option.some.injEq] at e
      rw [show x = _ from h]
      exact ⟨.base (.bl k), by simp [tyS, tyOf], by rw [← e, sy]; simp [tyS, tyOf]⟩
    | int i =>
      simp only [isiD, Option.some.injEq] at e
      rw [show x = _ from h]
      exact ⟨.base (.int i), by simp [tyS, tyOf], by rw [← e, sy]; simp [tyS, tyOf]⟩
    | str z =>
      simp only [isiD, Option.some.injEq] at e
      rw [h.1]
      exact ⟨.base (.str _), by simp [tyS, tyOf], by rw [← e, sy]; simp [tyS, tyOf]⟩
    | tup ds =>
      simp only [isiD, Option.some.injEq] at e
      obtain ⟨a, vs, rfl, h1, _⟩ := h
      exact ⟨.base (.tup h1.2), by simp [tyS, tyOf], by rw [← e, sy]; simp [tyS, tyOf]⟩
    | lst ds =>
      simp only [isiD, Option.some.injEq] at e
      obtain ⟨a, vs, rfl, h1, _⟩ := h
      refine ⟨?_, by simp [tyS, tyOf], by rw [← e, sy]; simp [tyS, tyOf]⟩
      rcases h1 with ⟨_, h1 | ⟨o, h1⟩⟩ | ⟨o, its, n, h1, h2, _⟩
      · exact .base (.lst h1)
      · exact .base (.frz h1)
      · exact .kList h1 h2
  | o ob =>
    cases ob with
    | lst ds =>
      simp only [isiD, Option.some.injEq] at e
      obtain ⟨a, rfl, vs, h1, _⟩ := h
      exact ⟨.base (.lst h1), by simp [tyS], by rw [← e, sy]; simp [tyS]⟩
    | dK _ => simp [isiD] at e
    | dT _ => simp [isiD] at e
theorem kitR {K : PySem.W.Frag} {a t : String} (ha : a ∈ ["NoneType", "bool", "int", "str", "tuple", "list"]) (ht : tyKnown t = true) : PySem.W.kitOne K (.type a) (.type t) = some (a == t || (a == "bool" && t == "int")) := by
  refine kit_ty (kit_all a ha t ?_)
  unfold tyKnown at ht
  simp only [Bool.or_eq_true, beq_iff_eq] at ht
  simp only [List.mem_cons, List.not_mem_nil, or_false]
  rcases ht with (((h | h) | h) | h) | h <;> simp [h]
theorem boot_ty {t : String} (ht : tyKnown t = true) : bootBuiltins (oS t) = some (.type t) := by
  unfold tyKnown at ht
  simp only [Bool.or_eq_true, beq_iff_eq] at ht
  rcases ht with (((h | h) | h) | h) | h <;> (rw [h]; decide +kernel)
/-- a type's name -/
theorem pe_ty {t : String} {x : Str} {p : Pos} (hx : decide (oS t = x) = true) (hg : Gl X x) (hm : X.mg x = none) (ht : tyKnown t = true) : PE X (.Name x p) (tC (.ty t)) := by
  have hx : oS t = x := of_decide_eq_true hx
  subst hx
  refine pe_bltn hg hm (boot_ty ht) rfl ?_ ?_
  · unfold tyKnown at ht
    simp only [Bool.or_eq_true, beq_iff_eq] at ht
    rcases ht with (((h | h) | h) | h) | h <;> (rw [h]; decide)
  · unfold tyKnown at ht
    simp only [Bool.or_eq_true, beq_iff_eq] at ht
    rcases ht with (((h | h) | h) | h) | h <;> (rw [h]; decide)
theorem pa_tys {sx : Sx} (hn : X.env.scope = sx.sc) (hb : ∀ x, sx.bl.contains x = true → X.mg (oS x) = none) : ∀ {ts : List String} {es : List Expr}, mNames sx ts es = true → PA X es (fun _ H Q => Q (ts.map V.ty) H) ∧ es.all nst = true ∧ ∀ t ∈ ts, tyKnown t = true
  | [], [], _ => ⟨pa_weak pa_nil fun _ _ _ h => h, rfl, fun _ h => nomatch h⟩
  | [], _ :: _, h => by simp [mNames] at h
  | _ :: _, [], h => by simp [mNames] at h
  | t :: ts, e :: es, h => by
    cases e <;> try (simp [mNames] at h; done)
    rename_i x p
    simp only [mNames, Bool.and_eq_true] at h
    obtain ⟨⟨⟨⟨h1, h2⟩, h3⟩, h4⟩, h5⟩ := h
    obtain ⟨k1, k2, k3⟩ := pa_tys hn hb h5
    have hm : X.mg x = none := by rw [← of_decide_eq_true h1]; exact hb t h3
    refine ⟨pa_weak (pa_cons (pe_ty h1 (by show X.env.scope.names.lookup x = _; rw [hn]; exact gl_of h2) hm h4) k1 (star_cons rfl)) fun _ _ _ h => h, by rw [List.all_cons, k2]; rfl, fun u hu => ?_⟩
    rcases List.mem_cons.mp hu with rfl | hu
    · exact h4
    · exact k3 u hu
theorem any_kit {K : PySem.W.Frag} {B : AP} {H : Hp} {u : Rt} {x : V} (h : RtAt K B H u x) : ∀ {ts : List String} {b : Bool}, isiAny u ts = some b → (∀ t ∈ ts, tyKnown t = true) → PySem.W.kitAny K (.type (tyS u)) (ts.map Value.type) = some b
  | [], b, e, _ => by simp only [isiAny, Option.some.injEq] at e; rw [← e]; rfl
  | t :: ts, b, e, hk => by
    simp only [isiAny, Option.bind_eq_some_iff, Option.map_eq_some_iff] at e
    obtain ⟨b1, e1, b2, e2, rfl⟩ := e
    obtain ⟨h1, h2, h3⟩ := tyR h e1
    have k1 := kitR (K := K) h2 (hk t List.mem_cons_self)
    have k2 := any_kit h e2 fun z hz => hk z (List.mem_cons_of_mem _ hz)
    rw [← h3] at k1
    exact kitAny_cons k1 (fun z => by rw [z, Bool.false_or]; exact k2) fun z => by rw [z, Bool.true_or]
theorem isi_ty {K : PySem.W.Frag} {B : AP} {H : Hp} {u : Rt} {x : V} {ts : List String} {b : Bool} (h : RtAt K B H u x) (e : isiAny u ts = some b) (hne : ts ≠ []) : TyX K H x (.type (tyS u)) := by
  cases ts with
  | nil => exact absurd rfl hne
  | cons t ts =>
    simp only [isiAny, Option.bind_eq_some_iff, Option.map_eq_some_iff] at e
    obtain ⟨b1, e1, _⟩ := e
    exact (tyR h e1).1
theorem cls_all : ∀ ts : List String, Paired ClsV (ts.map V.ty) (ts.map Value.type)
  | [] => .nil
  | t :: ts => .cons (.ty t) (cls_all ts)
theorem pe_isi' {sx : Sx} (hn : X.env.scope = sx.sc) (hb : ∀ x, sx.bl.contains x = true → X.mg (oS x) = none) {x : Str} {p : Pos} {z : Expr} {ts : List String} {d : Fr → R Opd} (hx : decide (oS "isinstance" = x) = true) (hg : glC sx.sc x = true) (hbl : sx.bl.contains "isinstance" = true)
    (hs : nst a = true) (hts : decide (ts.length ≤ 10) = true) (hne : (!ts.isEmpty) = true) (ha : PE X a (tO X.K d)) (hz : (match z with | .Tuple es _ _ => mNames sx ts es | .Name _ _ => mNames sx ts [z] | _ => false) = true) :
    PE X (.Call (.Name x p) [a, z] [] pos) (tD X.K fun f => (d f).bind fun x f1 => ofO f1 ((rd f1 x).bind fun u => (isiAny u ts).map fun k => .v (.bl k))) := by
  have hx : oS "isinstance" = x := of_decide_eq_true hx
  subst hx
  have hts := of_decide_eq_true hts
  have hne : ts ≠ [] := by cases ts with | nil => cases hne | cons _ _ => simp
  have hG : Gl X (oS "isinstance") := by show X.env.scope.names.lookup _ = _; rw [hn]; exact gl_of hg
  have hM := hb "isinstance" hbl
  have hB : bootBuiltins (oS "isinstance") = some (.builtin "isinstance") := by decide +kernel
  have step : ∀ (σ : L2.St) (H : Hp) (Q : VK), tD X.K (fun f => (d f).bind fun x f1 => ofO f1 ((rd f1 x).bind fun u => (isiAny u ts).map fun k => Rt.v (.bl k))) σ H Q →
      tO X.K d σ H fun v H1 => ∃ B u k, RtAt X.K B H1 u v ∧ isiAny u ts = some k ∧ Q (.bl k) H1 ∧ ∀ q o, H1 q = none → Q (.bl k) (upd H1 q o) := fun σ H Q ⟨T, f, m, r, f', S, e, q⟩ => by
    obtain ⟨y, f1, ey, e⟩ := bind_ok e
    obtain ⟨e, rfl⟩ := ofO_ok e
    simp only [Option.bind_eq_some_iff, Option.map_eq_some_iff] at e
    obtain ⟨u, e1, k, e2, rfl⟩ := e
    refine ⟨T, f, m, y, f', S, ey, fun v H' m' T' P hy => ⟨_, u, k, hy.rd P.sim e1, e2, q _ _ _ _ P.drop ⟨rfl, rfl⟩, fun w o hw => ?_⟩⟩
    exact q _ _ _ _ (P.drop.trans ⟨P.drop.sim.new hw, Step.new hw T fun _ h => .inl h, fun _ _ h => h, fun _ h => h, Kp.refl⟩) ⟨rfl, rfl⟩
  split at hz
  · rename_i es k p2
    obtain ⟨k1, k2, k3⟩ := pa_tys hn hb hz
    refine pe_weak (pe_callB call_isiT hG hM hB (pa_cons ha (pa_cons (pe_tup k1) pa_nil (star_cons rfl)) (star_cons hs)) (by decide) (by decide) (star_cons hs) (by rw [star_cons (e := .Tuple es k p2) rfl]; rfl)) fun σ H Q h => ?_
    obtain ⟨T, f, m, y, f', S, ey, q⟩ := step σ H Q h
    refine ⟨T, f, m, y, f', S, ey, fun v H' m' T' P hy => ?_⟩
    obtain ⟨B, u, k, h1, h2, h3, h4⟩ := q v H' m' T' P hy
    refine ⟨?_, fun w hw => ?_⟩
    · rw [List.length_map]; exact small_line (by omega)
    · have hr : RtAt X.K B (upd H' w (.tup (ts.map V.ty))) u v := by
        cases u with
        | v d0 => exact Rep.mv (fun a o _ e => by rw [upd_ne (ne_of_none e hw)]; exact e) (fun _ z => .inl z) _ _ h1
        | o ob =>
          obtain ⟨a0, e0, h0⟩ := h1
          exact ⟨a0, e0, OwnAt.mv (fun a o _ e => by rw [upd_ne (ne_of_none e hw)]; exact e) (fun _ z => .inl z) (fun o e => by rw [upd_ne (ne_of_none e hw)]; exact e) h0⟩
      exact ⟨v, w, ts.map V.ty, _, _, k, rfl, upd_same, cls_all ts, isi_ty hr h2 hne, any_kit hr h2 k3, h4 w _ hw⟩
  · rename_i y2 p2
    obtain ⟨k1, k2, k3⟩ := pa_tys hn hb hz
    refine pe_weak (pe_callB call_isi hG hM hB (pa_cons ha k1 (star_cons hs)) (by decide) (by decide) (star_cons hs) (by rw [star_cons (e := .Name y2 p2) rfl]; rfl)) fun σ H Q h => ?_
    obtain ⟨T, f, m, y, f', S, ey, q⟩ := step σ H Q h
    refine ⟨T, f, m, y, f', S, ey, fun v H' m' T' P hy => ?_⟩
    obtain ⟨B, u, k, h1, h2, h3, h4⟩ := q v H' m' T' P hy
    have hl : ts.length = 1 := by
      cases ts with
      | nil => exact absurd rfl hne
      | cons t r =>
        cases r with
        | nil => rfl
        | cons t2 r2 => simp [mNames] at hz
    obtain ⟨t, rfl⟩ := List.length_eq_one_iff.mp hl
    have e3 := any_kit h1 h2 k3
    simp only [isiAny, Option.bind_eq_some_iff, Option.map_eq_some_iff] at h2
    obtain ⟨b1, e1, b2, e2, rfl⟩ := h2
    cases e2
    obtain ⟨j1, j2, j3⟩ := tyR h1 e1
    have j4 := kitR (K := X.K) j2 (k3 t List.mem_cons_self)
    rw [← j3] at j4
    exact ⟨v, .ty t, _, _, b1, rfl, .ty t, j1, j4, by rw [Bool.or_false] at h3; exact h3⟩
  · cases hz
end
end VI

set_option Elab.async false
set_option linter.all false
set_option maxRecDepth 100000
set_option maxHeartbeats 2000000
set_option autoImplicit false
namespace VI
open PySem PySem.Spec PyProof.Rows L2

section
variable {K : PySem.W.Frag} {T T' : AP} {σ : L2.St} {H H' : Hp} {m m' : Om} {f f' : Fr}
theorem bb_ne {a b : Addr} (ha : BB m T a) (hb : ¬ BB m T b) : b ≠ a := fun e => hb (e ▸ ha)
/-- values that stood stand behind a write to an owned thing -/
theorem reps_wr {a : Addr} {o : HO} (ha : BB m T a) {ds : List D} {vs : List V} (r : Reps K (BB m T) H ds vs) : Reps K (BB m T) (upd H a o) ds vs :=
  Reps.mv (fun b u nb e => by rw [upd_ne (bb_ne ha nb)]; exact e) (fun _ z => .inl z) _ _ r
theorem rep_wr {a : Addr} {o : HO} (ha : BB m T a) {d : D} {v : V} (r : Rep K (BB m T) H d v) : Rep K (BB m T) (upd H a o) d v :=
  Rep.mv (fun b u nb e => by rw [upd_ne (bb_ne ha nb)]; exact e) (fun _ z => .inl z) _ _ r
/-- the owned thing at slot i is changed -/
theorem Sim.wr {i : Nat} {p l l' : Bool} {o o' : Ob} {a : Addr} {ho : HO} (S : Sim K T σ H f m) (e : f[i]? = some (.own p l o)) (ea : m i = some a) (new : OwnAt K (BB m T) (upd H a ho) a o') :
    Sim K T σ (upd H a ho) (f.set i (.own p l' o')) m where
  len := by rw [List.length_set]; exact S.len
  val := fun j d q => by
    by_cases hj : j = i
    · subst hj
      rw [List.getElem?_set_self (List.getElem?_eq_some_iff.mp e).1] at q
      cases q
    · rw [List.getElem?_set_ne (Ne.symm hj)] at q
      obtain ⟨v, q1, q2⟩ := S.val j d q
      exact ⟨v, q1, rep_wr (.inl ⟨i, ea⟩) q2⟩
  own := fun j p2 l2 o2 q => by
    by_cases hj : j = i
    · subst hj
      rw [List.getElem?_set_self (List.getElem?_eq_some_iff.mp e).1] at q
      cases q
      obtain ⟨b, q1, q2, _⟩ := S.own j p l o e
      rw [ea] at q1; cases q1
      exact ⟨a, ea, q2, new⟩
    · rw [List.getElem?_set_ne (Ne.symm hj)] at q
      obtain ⟨b, q1, q2, q3⟩ := S.own j p2 l2 o2 q
      have hb : b ≠ a := fun z => hj (S.inj j i b q1 (z ▸ ea))
      exact ⟨b, q1, q2, OwnAt.mv (fun c u nb e => by rw [upd_ne (bb_ne (.inl ⟨i, ea⟩) nb)]; exact e) (fun _ z => .inl z) (fun u e => by rw [upd_ne hb]; exact e) q3⟩
  dom := fun j b q => by
    obtain ⟨p2, l2, o2, q1⟩ := S.dom j b q
    by_cases hj : j = i
    · subst hj
      exact ⟨p, l', o', List.getElem?_set_self (List.getElem?_eq_some_iff.mp e).1⟩
    · exact ⟨p2, l2, o2, by rw [List.getElem?_set_ne (Ne.symm hj)]; exact q1⟩
  inj := S.inj
  tmp := S.tmp
  tr := fun b hb => upd_tr (S.tr b hb)
  ntp := fun b xs hb => by
    have hne : b ≠ a := fun z => S.tmp i a ea (z ▸ hb)
    rw [upd_ne hne]; exact S.ntp b xs hb
theorem Step.wr {a : Addr} {ho : HO} (ha : Owned m a) : Step m T H m T (upd H a ho) where
  keep := fun b u e n => by
    have : b ≠ a := fun z => n (z ▸ ha)
    rw [upd_ne this]; exact e
  own := fun b h => .inl h
  tmp := fun b h => .inl h
  dom := fun b h => by
    by_cases e : b = a
    · subst e; rw [upd_same] at h; cases h
    · rw [upd_ne e] at h; exact h
theorem PostX.wr {i : Nat} {p : Bool} {o o' : Ob} {a : Addr} {ho : HO} (S : Sim K T σ H f m) (e : f[i]? = some (.own p false o)) (ea : m i = some a) (new : OwnAt K (BB m T) (upd H a ho) a o') :
    PostX K T σ H f m (f.set i (.own p false o')) (upd H a ho) m T :=
  ⟨S.wr e ea new, Step.wr ⟨i, ea⟩, fun _ _ h => h, fun _ h => h, Kp.set fun p2 l2 o2 q => by
    rw [e] at q; cases q
    exact ⟨rfl, fun z => ⟨o', by rw [z]⟩⟩⟩
theorem getLast_reps {B : AP} {ds : List D} {vs : List V} {d : D} (r : Reps K B H ds vs) (e : ds.getLast? = some d) : ∃ v, vs[vs.length - 1]? = some v ∧ Rep K B H d v ∧ Reps K B H ds.dropLast vs.dropLast := by
  rw [List.getLast?_eq_getElem?] at e
  obtain ⟨v, h1, h2⟩ := r.get e
  refine ⟨v, by rw [r.length]; exact h1, h2, ?_⟩
  rw [List.dropLast_eq_take, List.dropLast_eq_take, r.length]
  exact Reps.take _ r
end
section
variable {X : Cx} {a b : Expr} {es : List Expr} {pos : Pos}
theorem pe_pop' {i : Nat} {e : Expr} {apos : Pos} (hb : notC0 e = true) (hl : (apos.endLine == pos.line) = true) (h : PE X e (tVar i)) :
    PE X (.Call (.Attribute e "pop" apos) [] [] pos) (tD X.K fun f => match f[i]? with
      | some (.own p false (.lst ds)) => (match ds.getLast? with
        | some d => .ok (.v d) (f.set i (.own p false (.lst ds.dropLast)))
        | none => .bad)
      | _ => .bad) :=
  pe_weak (pe_bm0 PySem.F.plainAttrs_list PySem.F.slot_list_pop PySem.F.type_list_pop mt_pop h (abase_of hb) hl) fun σ H Q ⟨T, f, m, r, f', S, e, q⟩ => by
    dsimp only at e
    split at e
    · rename_i p ds hf
      split at e
      · rename_i d hd
        cases e
        obtain ⟨ad, ea, es, vs, ha, rr⟩ := S.own i _ _ _ hf
        obtain ⟨v, h1, h2, h3⟩ := getLast_reps rr hd
        refine ⟨.ref ad, es, .inl ⟨rfl, vs, SqL.of ha⟩, ad, vs, v, rfl, rfl, ha, h1, ?_⟩
        exact q v _ m T (.wr S hf ea ⟨_, upd_same, reps_wr (.inl ⟨i, ea⟩) h3⟩) ⟨rfl, rep_wr (.inl ⟨i, ea⟩) h2⟩
      · cases e
    · cases e

/-! ### calls -/
/-- what is lent or given to a callee -/
def ArgsAt (K : PySem.W.Frag) (T : AP) (σ : L2.St) (H : Hp) (m : Om) : List V → List Arg → Prop
  | vs, [] => vs = []
  | vs, .bor i :: as => ∃ v w, vs = v :: w ∧ σ[i]? = some (some v) ∧ ArgsAt K T σ H m w as
  | vs, .val d :: as => ∃ v w, vs = v :: w ∧ Rep K (BB m T) H d v ∧ ArgsAt K T σ H m w as
  | vs, .tmp o :: as => ∃ a w, vs = .ref a :: w ∧ T a ∧ OwnAt K (BB m T) H a o ∧ ArgsAt K T σ H m w as
/-- the addresses of what is given -/
def tmps : List V → List Arg → List Addr
  | .ref a :: vs, .tmp _ :: as => a :: tmps vs as
  | _ :: vs, _ :: as => tmps vs as
  | _, _ => []
def tAs (K : PySem.W.Frag) (den : Fr → R (List Arg)) : TA := fun σ H Q => ∃ T f m as f', Sim K T σ H f m ∧ den f = .ok as f' ∧
  ∀ vs H' m' T', PostX K T σ H f m f' H' m' T' → ArgsAt K T' σ H' m' vs as → (tmps vs as).Nodup → (∀ a ∈ tmps vs as, H a = none) → Q vs H'
def ArgAt (K : PySem.W.Frag) (T : AP) (σ : L2.St) (H0 H : Hp) (m : Om) (v : V) : Arg → Prop
  | .bor i => σ[i]? = some (some v)
  | .val d => Rep K (BB m T) H d v
  | .tmp o => ∃ a, v = .ref a ∧ T a ∧ H0 a = none ∧ OwnAt K (BB m T) H a o
def tArg (K : PySem.W.Frag) (den : Fr → R Arg) : TE := fun σ H Q => ∃ T f m a f', Sim K T σ H f m ∧ den f = .ok a f' ∧
  ∀ v H' m' T', PostX K T σ H f m f' H' m' T' → ArgAt K T' σ H H' m' v a → Q v H'
end
section
variable {K : PySem.W.Frag} {T T' : AP} {σ : L2.St} {H H' : Hp} {m m' : Om} {f f' : Fr}
theorem ArgsAt.st : ∀ {as : List Arg} {vs : List V}, ArgsAt K T σ H m vs as → Sim K T σ H f m → PostX K T σ H f m f' H' m' T' → ArgsAt K T' σ H' m' vs as
  | [], _, h, _, _ => h
  | .bor i :: as, vs, h, S, P => by
    obtain ⟨v, w, e, h1, h2⟩ := h
    exact ⟨v, w, e, h1, h2.st S P⟩
  | .val d :: as, vs, h, S, P => by
    obtain ⟨v, w, e, h1, h2⟩ := h
    exact ⟨v, w, e, h1.st P.step, h2.st S P⟩
  | .tmp o :: as, vs, h, S, P => by
    obtain ⟨a, w, e, h0, h1, h2⟩ := h
    exact ⟨a, w, e, P.tl a h0, h1.st (S.nt h0) P.step, h2.st S P⟩
theorem tmps_T : ∀ {as : List Arg} {vs : List V}, ArgsAt K T σ H m vs as → ∀ a ∈ tmps vs as, T a
  | [], vs, h, a, ha => by rw [show vs = [] from h] at ha; simp [tmps] at ha
  | .bor i :: as, vs, h, a, ha => by
    obtain ⟨v, w, rfl, h1, h2⟩ := h
    exact tmps_T h2 a (by simpa [tmps] using ha)
  | .val d :: as, vs, h, a, ha => by
    obtain ⟨v, w, rfl, h1, h2⟩ := h
    exact tmps_T h2 a (by simpa [tmps] using ha)
  | .tmp o :: as, vs, h, a, ha => by
    obtain ⟨b, w, rfl, h0, h1, h2⟩ := h
    simp only [tmps, List.mem_cons] at ha
    rcases ha with rfl | ha
    · exact h0
    · exact tmps_T h2 a ha
end
section
variable {X : Cx} {a b : Expr} {es : List Expr} {pos : Pos}
theorem pe_arg {e : Expr} {a : Ex} {d : Fr → R Rt} (hv : ∀ i, a = .var i → PE X e (tVar i)) (h : PE X e (tD X.K d)) : PE X e (tArg X.K (arg a d)) := by
  by_cases hx : ∃ i, a = .var i
  · obtain ⟨i, rfl⟩ := hx
    refine pe_weak (hv i rfl) fun σ H Q ⟨T, f, m, o, f', S, e, q⟩ => ?_
    unfold arg at e
    simp only at e
    split at e
    · rename_i d hd
      cases e
      obtain ⟨v, h1, h2⟩ := S.val i _ hd
      exact ⟨v, h1, q v H m T (.refl S) h2⟩
    · rename_i p o hd
      cases e
      obtain ⟨a, h0, h1, h2⟩ := S.own i _ _ _ hd
      exact ⟨_, h1, q _ H m T (.refl S) h1⟩
    · cases e
  · have ea : arg a d = fun f => (d f).bind fun r f1 => match r with
        | .v d => .ok (.val d) f1
        | .o ob => .ok (.tmp ob) f1 := by
      funext f
      cases a <;> first | rfl | exact absurd ⟨_, rfl⟩ hx
    rw [ea]
    refine pe_weak h fun σ H Q ⟨T, f, m, o, f', S, e, q⟩ => ?_
    obtain ⟨r, f1, er, e⟩ := bind_ok e
    refine ⟨T, f, m, r, f1, S, er, fun v H' m' T' P hr => ?_⟩
    cases r with
    | v d => cases e; exact q v H' m' T' P hr.2
    | o ob =>
      cases e
      obtain ⟨a, h1, h2, h3, h4⟩ := hr
      exact q v H' m' T' P ⟨a, h1, by rw [h3]; exact .inr rfl, h2, h4⟩
theorem pa_nilA : PA X [] (tAs X.K fun f => .ok [] f) := pa_weak pa_nil fun σ H Q ⟨T, f, m, ds, f', S, e, q⟩ => by
  cases e
  exact q [] H m T (.refl S) rfl List.nodup_nil (fun _ h => nomatch h)
theorem pa_consA {da : Fr → R Arg} {db : Fr → R (List Arg)} (hs : nst a = true) (ha : PE X a (tArg X.K da)) (hb : PA X es (tAs X.K db)) :
    PA X (a :: es) (tAs X.K fun f => (da f).bind fun x f1 => (db f1).bind fun xs f2 => .ok (x :: xs) f2) :=
  pa_weak (pa_cons ha hb (star_cons hs)) fun σ H Q ⟨T, f, m, ds, f', S, e, q⟩ => by
    obtain ⟨x, f1, ex, e⟩ := bind_ok e
    obtain ⟨xs, f2, eb, e⟩ := bind_ok e
    cases e
    refine ⟨T, f, m, x, f1, S, ex, fun v H1 m1 T1 P1 h1 => ⟨T1, f1, m1, xs, f', P1.sim, eb, fun vs H2 m2 T2 P2 h2 nd fr => ?_⟩⟩
    have fr' : ∀ a ∈ tmps vs xs, H a = none := fun a ha => P1.step.dom a (fr a ha)
    cases x with
    | bor i => exact q (v :: vs) H2 m2 T2 (P1.trans P2) ⟨v, vs, rfl, h1, h2⟩ (by simpa [tmps] using nd) (by simpa [tmps] using fr')
    | val d => exact q (v :: vs) H2 m2 T2 (P1.trans P2) ⟨v, vs, rfl, Rep.st h1 P2.step, h2⟩ (by simpa [tmps] using nd) (by simpa [tmps] using fr')
    | tmp o =>
      obtain ⟨ad, rfl, k1, k2, k3⟩ := h1
      refine q (.ref ad :: vs) H2 m2 T2 (P1.trans P2) ⟨ad, vs, rfl, P2.tl ad k1, k3.st (P1.sim.nt k1) P2.step, h2⟩ ?_ ?_
      · simp only [tmps]
        refine List.nodup_cons.mpr ⟨fun z => ?_, nd⟩
        exact P1.sim.tr ad k1 (fr ad z)
      · intro b hb
        simp only [tmps, List.mem_cons] at hb
        rcases hb with rfl | hb
        · exact k2
        · exact fr' b hb
end
end VI

set_option Elab.async false
set_option linter.all false
set_option maxRecDepth 100000
set_option maxHeartbeats 2000000
set_option autoImplicit false
namespace VI
open PySem PySem.Spec PyProof.Rows L2

def isArg : Slot → Prop
  | .val _ => True
  | .own true false _ => True
  | _ => False
/-- what was lent, behind a call -/
def outF (sl outs : List Slot) : Fr := List.zipWith (fun s o => match s, o with | .own true _ _, .own p l ob => .own p l ob | _, _ => .no) sl outs
theorem outF_get {sl outs : List Slot} {j : Nat} {l p' l' : Bool} {o o' : Ob} (h1 : sl[j]? = some (.own true l o)) (h2 : outs[j]? = some (.own p' l' o')) : (outF sl outs)[j]? = some (.own p' l' o') := by
  unfold outF
  rw [List.getElem?_zipWith, h1, h2]
theorem outF_own {sl outs : List Slot} {j : Nat} {p' l' : Bool} {o' : Ob} (h : (outF sl outs)[j]? = some (.own p' l' o')) : (∃ l o, sl[j]? = some (.own true l o)) ∧ outs[j]? = some (.own p' l' o') := by
  unfold outF at h
  rw [List.getElem?_zipWith] at h
  split at h
  · rename_i s o h1 h2
    simp only [Option.some.injEq] at h
    split at h
    · cases h
      exact ⟨⟨_, _, h1⟩, h2⟩
    · cases h
  · cases h
theorem outF_val {sl outs : List Slot} {j : Nat} {d : D} (h : (outF sl outs)[j]? = some (.val d)) : False := by
  unfold outF at h
  rw [List.getElem?_zipWith] at h
  split at h
  · simp only [Option.some.injEq] at h
    split at h <;> cases h
  · cases h
/-- a def's promise: what the evaluator gives -/
def spF (K : PySem.W.Frag) (tb : Tb) (k : Nat) (g : String) (n : Nat) : Sp := fun vs H Q E => vs.length = n ∧ ∃ T sl m r outs, Sim K T (vs.map some) H sl m ∧ (∀ s ∈ sl, isArg s) ∧ callK tb k g sl = .ok r outs ∧
  ∀ v H' m' T', Sim K T' (vs.map some) H' (outF sl outs) m' → Step m T H m' T' H' → (∀ (j : Nat) (l : Bool) (o : Ob), sl[j]? = some (.own true l o) → ∃ l' o', outs[j]? = some (.own true l' o')) → RtP K T H H' m' T' v r → Q v H'

section
variable {K : PySem.W.Frag} {T T' : AP} {σ : L2.St} {H H' : Hp} {m m' : Om} {f f' : Fr}
def ArgF (K : PySem.W.Frag) (T : AP) (σ : L2.St) (H : Hp) (m : Om) (v : V) : Arg → Prop
  | .bor i => σ[i]? = some (some v)
  | .val d => Rep K (BB m T) H d v
  | .tmp o => ∃ a, v = .ref a ∧ T a ∧ OwnAt K (BB m T) H a o
theorem ArgsAt.len : ∀ {as : List Arg} {vs : List V}, ArgsAt K T σ H m vs as → vs.length = as.length
  | [], vs, h => by rw [show vs = [] from h]; rfl
  | .bor i :: as, vs, h => by obtain ⟨v, w, rfl, h1, h2⟩ := h; rw [List.length_cons, List.length_cons, h2.len]
  | .val d :: as, vs, h => by obtain ⟨v, w, rfl, h1, h2⟩ := h; rw [List.length_cons, List.length_cons, h2.len]
  | .tmp o :: as, vs, h => by obtain ⟨v, w, rfl, h0, h1, h2⟩ := h; rw [List.length_cons, List.length_cons, h2.len]
theorem ArgsAt.get : ∀ {as : List Arg} {vs : List V} {j : Nat} {a : Arg}, ArgsAt K T σ H m vs as → as[j]? = some a → ∃ v, vs[j]? = some v ∧ ArgF K T σ H m v a
  | [], _, _, _, _, e => by simp at e
  | .bor i :: as, vs, 0, a, h, e => by obtain ⟨v, w, rfl, h1, h2⟩ := h; simp at e; subst e; exact ⟨v, rfl, h1⟩
  | .val d :: as, vs, 0, a, h, e => by obtain ⟨v, w, rfl, h1, h2⟩ := h; simp at e; subst e; exact ⟨v, rfl, h1⟩
  | .tmp o :: as, vs, 0, a, h, e => by obtain ⟨v, w, rfl, h0, h1, h2⟩ := h; simp at e; subst e; exact ⟨_, rfl, v, rfl, h0, h1⟩
  | .bor i :: as, vs, j + 1, a, h, e => by obtain ⟨v, w, rfl, h1, h2⟩ := h; simpa using h2.get (j := j) (by simpa using e)
  | .val d :: as, vs, j + 1, a, h, e => by obtain ⟨v, w, rfl, h1, h2⟩ := h; simpa using h2.get (j := j) (by simpa using e)
  | .tmp o :: as, vs, j + 1, a, h, e => by obtain ⟨v, w, rfl, h0, h1, h2⟩ := h; simpa using h2.get (j := j) (by simpa using e)
def SlF (f : Fr) (s : Slot) : Arg → Prop
  | .bor i => ∃ p o, f[i]? = some (.own p false o) ∧ s = .own true false o
  | .val d => s = .val d
  | .tmp o => s = .own true false o
theorem slotsOf_get : ∀ {as : List Arg} {sl : List Slot}, slotsOf f as = some sl → sl.length = as.length ∧ ∀ (j : Nat) (a : Arg), as[j]? = some a → ∃ s, sl[j]? = some s ∧ SlF f s a
  | [], sl, e => by
    simp only [slotsOf, Option.some.injEq] at e
    subst e
    exact ⟨rfl, fun j a h => by simp at h⟩
  | .val d :: as, sl, e => by
    simp only [slotsOf, Option.map_eq_some_iff] at e
    obtain ⟨r, e1, rfl⟩ := e
    obtain ⟨h1, h2⟩ := slotsOf_get e1
    refine ⟨by simp [h1], fun j a h => ?_⟩
    cases j with
    | zero => simp at h; subst h; exact ⟨_, rfl, rfl⟩
    | succ j => simpa using h2 j a (by simpa using h)
  | .tmp o :: as, sl, e => by
    simp only [slotsOf, Option.map_eq_some_iff] at e
    obtain ⟨r, e1, rfl⟩ := e
    obtain ⟨h1, h2⟩ := slotsOf_get e1
    refine ⟨by simp [h1], fun j a h => ?_⟩
    cases j with
    | zero => simp at h; subst h; exact ⟨_, rfl, rfl⟩
    | succ j => simpa using h2 j a (by simpa using h)
  | .bor i :: as, sl, e => by
    simp only [slotsOf] at e
    split at e
    · rename_i p o hf
      simp only [Option.map_eq_some_iff] at e
      obtain ⟨r, e1, rfl⟩ := e
      obtain ⟨h1, h2⟩ := slotsOf_get e1
      refine ⟨by simp [h1], fun j a h => ?_⟩
      cases j with
      | zero => simp at h; subst h; exact ⟨_, rfl, p, o, hf, rfl⟩
      | succ j => simpa using h2 j a (by simpa using h)
    · cases e
theorem bors_mem : ∀ {as : List Arg} {j i : Nat}, as[j]? = some (.bor i) → i ∈ bors as
  | [], _, _, h => by simp at h
  | a :: as, 0, i, h => by simp at h; subst h; simp [bors]
  | a :: as, j + 1, i, h => by
    have := bors_mem (as := as) (j := j) (i := i) (by simpa using h)
    cases a <;> simp [bors, this]
theorem bors_get : ∀ {as : List Arg} {i : Nat}, i ∈ bors as → ∃ j : Nat, as[j]? = some (.bor i)
  | [], _, h => by simp [bors] at h
  | .bor i' :: as, i, h => by
    simp only [bors, List.mem_cons] at h
    rcases h with rfl | h
    · exact ⟨0, rfl⟩
    · obtain ⟨j, h⟩ := bors_get h; exact ⟨j + 1, by simpa using h⟩
  | .val _ :: as, i, h => by
    obtain ⟨j, h⟩ := bors_get (as := as) h; exact ⟨j + 1, by simpa using h⟩
  | .tmp _ :: as, i, h => by
    obtain ⟨j, h⟩ := bors_get (as := as) h; exact ⟨j + 1, by simpa using h⟩
theorem bors_inj : ∀ {as : List Arg} {j j' i : Nat}, (bors as).Nodup → as[j]? = some (.bor i) → as[j']? = some (.bor i) → j = j'
  | [], _, _, _, _, h, _ => by simp at h
  | a :: as, 0, 0, i, _, _, _ => rfl
  | a :: as, 0, j' + 1, i, nd, h, h' => by
    simp at h; subst h
    have := bors_mem (as := as) (j := j') (i := i) (by simpa using h')
    simp only [bors, List.nodup_cons] at nd
    exact absurd this nd.1
  | a :: as, j + 1, 0, i, nd, h, h' => by
    simp at h'; subst h'
    have := bors_mem (as := as) (j := j) (i := i) (by simpa using h)
    simp only [bors, List.nodup_cons] at nd
    exact absurd this nd.1
  | a :: as, j + 1, j' + 1, i, nd, h, h' => by
    have nd' : (bors as).Nodup := by
      cases a with
      | bor i => simp only [bors, List.nodup_cons] at nd; exact nd.2
      | val _ => exact nd
      | tmp _ => exact nd
    exact congrArg (· + 1) (bors_inj (j := j) (j' := j') (i := i) nd' (by simpa using h) (by simpa using h'))
theorem tmps_mem : ∀ {as : List Arg} {vs : List V} {j : Nat} {o : Ob} {a : Addr}, as[j]? = some (.tmp o) → vs[j]? = some (.ref a) → a ∈ tmps vs as
  | [], _, _, _, _, h, _ => by simp at h
  | x :: as, [], _, _, _, _, h => by simp at h
  | x :: as, v :: vs, 0, o, a, h, h' => by simp at h h'; subst h h'; simp [tmps]
  | x :: as, v :: vs, j + 1, o, a, h, h' => by
    have := tmps_mem (as := as) (vs := vs) (j := j) (o := o) (a := a) (by simpa using h) (by simpa using h')
    cases x <;> cases v <;> simp [tmps, this]
theorem tmps_inj : ∀ {as : List Arg} {vs : List V} {j j' : Nat} {o o' : Ob} {a : Addr}, (tmps vs as).Nodup → as[j]? = some (.tmp o) → vs[j]? = some (.ref a) → as[j']? = some (.tmp o') → vs[j']? = some (.ref a) → j = j'
  | [], _, _, _, _, _, _, _, h, _, _, _ => by simp at h
  | x :: as, [], _, _, _, _, _, _, _, h, _, _ => by simp at h
  | x :: as, v :: vs, 0, 0, _, _, _, _, _, _, _, _ => rfl
  | x :: as, v :: vs, 0, j' + 1, o, o', a, nd, h, h1, h2, h3 => by
    simp at h h1; subst h h1
    have := tmps_mem (as := as) (vs := vs) (j := j') (o := o') (a := a) (by simpa using h2) (by simpa using h3)
    simp only [tmps, List.nodup_cons] at nd
    exact absurd this nd.1
  | x :: as, v :: vs, j + 1, 0, o, o', a, nd, h, h1, h2, h3 => by
    simp at h2 h3; subst h2 h3
    have := tmps_mem (as := as) (vs := vs) (j := j) (o := o) (a := a) (by simpa using h) (by simpa using h1)
    simp only [tmps, List.nodup_cons] at nd
    exact absurd this nd.1
  | x :: as, v :: vs, j + 1, j' + 1, o, o', a, nd, h, h1, h2, h3 => by
    have nd' : (tmps vs as).Nodup := by
      cases x <;> cases v <;> simp only [tmps, List.nodup_cons] at nd <;> first | exact nd | exact nd.2
    exact congrArg (· + 1) (tmps_inj (j := j) (j' := j') (o := o) (o' := o') (a := a) nd' (by simpa using h) (by simpa using h1) (by simpa using h2) (by simpa using h3))
/-- what came back -/
theorem back_spec : ∀ {as : List Arg} {outs : List Slot} {f f2 : Fr}, back f as outs = some f2 → (bors as).Nodup → f2.length = f.length ∧ (∀ i, i ∉ bors as → f2[i]? = f[i]?) ∧
    ∀ (j i : Nat), as[j]? = some (.bor i) → ∃ p l o p' l' o', f[i]? = some (.own p l o) ∧ outs[j]? = some (.own p' l' o') ∧ f2[i]? = some (.own p false o')
  | [], [], f, f2, e, _ => by
    simp only [back, Option.some.injEq] at e
    subst e
    exact ⟨rfl, fun _ _ => rfl, fun j i h => by simp at h⟩
  | [], _ :: _, _, _, e, _ => by simp [back] at e
  | .bor i :: as, [], _, _, e, _ => by simp [back] at e
  | .val _ :: as, [], _, _, e, _ => by simp [back] at e
  | .tmp _ :: as, [], _, _, e, _ => by simp [back] at e
  | .val d :: as, s :: ss, f, f2, e, nd => by
    simp only [back] at e
    obtain ⟨h1, h2, h3⟩ := back_spec e nd
    refine ⟨h1, h2, fun j i h => ?_⟩
    cases j with
    | zero => simp at h
    | succ j => simpa using h3 j i (by simpa using h)
  | .tmp d :: as, s :: ss, f, f2, e, nd => by
    simp only [back] at e
    obtain ⟨h1, h2, h3⟩ := back_spec e nd
    refine ⟨h1, h2, fun j i h => ?_⟩
    cases j with
    | zero => simp at h
    | succ j => simpa using h3 j i (by simpa using h)
  | .bor i0 :: as, s :: ss, f, f2, e, nd => by
    simp only [back] at e
    split at e
    · rename_i p l o p' l' o' hf
      simp only [bors, List.nodup_cons] at nd
      obtain ⟨h1, h2, h3⟩ := back_spec e nd.2
      have hi := (List.getElem?_eq_some_iff.mp hf).1
      refine ⟨by rw [h1, List.length_set], fun i h => ?_, fun j i h => ?_⟩
      · simp only [bors, List.mem_cons, not_or] at h
        rw [h2 i h.2, List.getElem?_set_ne (Ne.symm h.1)]
      · cases j with
        | zero =>
          simp at h; subst h
          exact ⟨p, l, o, p', l', o', hf, rfl, by rw [h2 _ nd.1, List.getElem?_set_self hi]⟩
        | succ j =>
          have h' : as[j]? = some (.bor i) := by simpa using h
          obtain ⟨p1, l1, o1, p2, l2, o2, k1, k2, k3⟩ := h3 j i h'
          have ne : i ≠ i0 := fun z => nd.1 (z ▸ bors_mem h')
          rw [List.getElem?_set_ne (Ne.symm ne)] at k1
          exact ⟨p1, l1, o1, p2, l2, o2, k1, by simpa using k2, k3⟩
    · cases e
end
/-- the callee's ownership -/
def calleeM (sl : List Slot) (vs : List V) : Om := fun j => match sl[j]?, vs[j]? with
  | some (.own _ _ _), some (.ref a) => some a
  | _, _ => none
theorem calleeM_some {sl : List Slot} {vs : List V} {j : Nat} {a : Addr} (h : calleeM sl vs j = some a) : ∃ p l o, sl[j]? = some (.own p l o) ∧ vs[j]? = some (.ref a) := by
  unfold calleeM at h
  split at h
  · rename_i p l o b h1 h2
    cases h
    exact ⟨p, l, o, h1, h2⟩
  · cases h
theorem calleeM_mk {sl : List Slot} {vs : List V} {j : Nat} {a : Addr} {p l : Bool} {o : Ob} (h1 : sl[j]? = some (.own p l o)) (h2 : vs[j]? = some (.ref a)) : calleeM sl vs j = some a := by
  unfold calleeM
  rw [h1, h2]
section
variable {X : Cx} {es : List Expr} {pos : Pos}
theorem doCall_ok {c : Ctx} {g : String} {as : List Arg} {f f' : Fr} {r : Rt} (h : doCall c g as f = .ok r f') : ∃ sl outs, slotsOf f as = some sl ∧ (bors as).Nodup ∧ c.call g sl = .ok r outs ∧ back f as outs = some f' := by
  unfold doCall at h
  split at h
  · cases h
  · rename_i sl hs
    split at h
    · rename_i nd
      split at h
      · cases h
      · rename_i r' outs hc
        split at h
        · rename_i f2 hb
          cases h
          exact ⟨sl, outs, hs, nd, hc, hb⟩
        · cases h
    · cases h
theorem callK_len {tb : Tb} {k : Nat} {g : String} {sl : List Slot} {r : Rt} {outs : List Slot} {fd : FD} (ht : tb g = some fd) (h : callK tb k g sl = .ok r outs) : sl.length = fd.ps.length := by
  cases k with
  | zero => simp [callK] at h
  | succ k =>
    simp only [callK, ht] at h
    split at h
    · assumption
    · cases h
/-- what a call comes to -/
theorem call_core {K : PySem.W.Frag} {tb : Tb} {k : Nat} {g : String} {fd : FD} (ht : tb g = some fd) {T T1 : AP} {σ : L2.St} {H H1 : Hp} {m m1 : Om} {f f1 f' : Fr} {as : List Arg} {vs : List V} {r : Rt} {Q : VK} {E : XK} (S : Sim K T σ H f m) (P1 : PostX K T σ H f m f1 H1 m1 T1)
    (hA : ArgsAt K T1 σ H1 m1 vs as) (nd : (tmps vs as).Nodup) (fr : ∀ a ∈ tmps vs as, H a = none) (e : doCall ⟨callK tb k⟩ g as f1 = .ok r f')
    (q : ∀ v H' m' T', PostX K T σ H f m f' H' m' T' → RtP K T H H' m' T' v r → Q v H') : spF K tb k g fd.ps.length vs H1 Q E := by
  obtain ⟨sl, outs, e1, nb, e2, e3⟩ := doCall_ok e
  have e2 : callK tb k g sl = .ok r outs := e2
  obtain ⟨l1, sg⟩ := slotsOf_get e1
  have l2 := hA.len
  obtain ⟨b1, b2, b3⟩ := back_spec e3 nb
  have S1 := P1.sim
  -- the callee's own things
  have m0o : ∀ j a, calleeM sl vs j = some a → (∃ i, as[j]? = some (.bor i) ∧ m1 i = some a ∧ σ[i]? = some (some (.ref a))) ∨ (∃ o, as[j]? = some (.tmp o) ∧ T1 a ∧ a ∈ tmps vs as) := by
    intro j a h
    obtain ⟨p, l, o, h1, h2⟩ := calleeM_some h
    have hj : j < as.length := by rw [← l1]; exact (List.getElem?_eq_some_iff.mp h1).1
    obtain ⟨s, h3, h4⟩ := sg j as[j] (List.getElem?_eq_getElem hj)
    obtain ⟨v, h5, h6⟩ := hA.get (List.getElem?_eq_getElem hj)
    rw [h1] at h3; cases h3
    rw [h2] at h5; cases h5
    have ej : as[j]? = some as[j] := List.getElem?_eq_getElem hj
    cases ea : as[j] with
    | bor i =>
      rw [ea] at h4 h6 ej
      obtain ⟨p0, o0, h7, h8⟩ := h4
      obtain ⟨b, h9, h10, _⟩ := S1.own i _ _ _ h7
      have h6 : σ[i]? = some (some (.ref a)) := h6
      rw [h6] at h10; cases h10
      exact .inl ⟨i, ej, h9, h6⟩
    | val d => rw [ea] at h4; cases h4
    | tmp o =>
      rw [ea] at h6 ej
      obtain ⟨b, h7, h8, h9⟩ := h6
      cases h7
      exact .inr ⟨o, ej, h8, tmps_mem ej h2⟩
  have ownB : ∀ a, Owned (calleeM sl vs) a → BB m1 T1 a := by
    rintro a ⟨j, h⟩
    rcases m0o j a h with ⟨i, _, h1, _⟩ | ⟨o, _, h1, _⟩
    · exact .inl ⟨i, h1⟩
    · exact .inr h1
  let Tc : AP := fun a => BB m1 T1 a ∧ ¬ Owned (calleeM sl vs) a
  have subB : ∀ a, BB (calleeM sl vs) Tc a → BB m1 T1 a ∨ H1 a = none := fun a z => .inl (z.elim (ownB a) fun z => z.1)
  have trB : ∀ a, BB m1 T1 a → H1 a ≠ none := fun a z => z.elim (fun z => S1.owned z) fun z => S1.tr a z
  have inj0 : ∀ i j a, calleeM sl vs i = some a → calleeM sl vs j = some a → i = j := by
    intro i j a h h'
    obtain ⟨_, _, _, _, v1⟩ := calleeM_some h
    obtain ⟨_, _, _, _, v2⟩ := calleeM_some h'
    rcases m0o i a h with ⟨i1, h1, h2, _⟩ | ⟨o, h1, h2, h3⟩
    · rcases m0o j a h' with ⟨i2, h4, h5, _⟩ | ⟨o, h4, h5, h6⟩
      · have := S1.inj i1 i2 a h2 h5
        subst this
        exact bors_inj nb h1 h4
      · exact absurd h5 (S1.tmp i1 a h2)
    · rcases m0o j a h' with ⟨i2, h4, h5, _⟩ | ⟨o, h4, h5, h6⟩
      · exact absurd h2 (S1.tmp i2 a h5)
      · exact tmps_inj nd h1 v1 h4 v2
  have S0 : Sim K Tc (vs.map some) H1 sl (calleeM sl vs) := by
    refine ⟨by rw [List.length_map, l1, l2], fun j d h => ?_, fun j p l o h => ?_, fun j a h => ?_, inj0, fun j a h z => z.2 ⟨j, h⟩, fun a z => trB a z.1, fun a xs z e => S1.noTup e z.1⟩
    · have hj : j < as.length := by rw [← l1]; exact (List.getElem?_eq_some_iff.mp h).1
      obtain ⟨s, h3, h4⟩ := sg j as[j] (List.getElem?_eq_getElem hj)
      obtain ⟨v, h5, h6⟩ := hA.get (List.getElem?_eq_getElem hj)
      rw [h] at h3; cases h3
      cases ea : as[j] with
      | bor i => rw [ea] at h4; obtain ⟨_, _, _, z⟩ := h4; cases z
      | val d' =>
        rw [ea] at h4 h6; cases h4
        exact ⟨v, by rw [List.getElem?_map, h5]; rfl, Rep.mv (fun _ _ _ e => e) subB _ _ h6⟩
      | tmp o => rw [ea] at h4; cases h4
    · have hj : j < as.length := by rw [← l1]; exact (List.getElem?_eq_some_iff.mp h).1
      obtain ⟨s, h3, h4⟩ := sg j as[j] (List.getElem?_eq_getElem hj)
      obtain ⟨v, h5, h6⟩ := hA.get (List.getElem?_eq_getElem hj)
      rw [h] at h3; cases h3
      cases ea : as[j] with
      | bor i =>
        rw [ea] at h4 h6
        obtain ⟨p0, o0, h7, z⟩ := h4
        cases z
        obtain ⟨a, h8, h9, h10⟩ := S1.own i _ _ _ h7
        have h6 : σ[i]? = some (some v) := h6
        rw [h6] at h9; cases h9
        exact ⟨a, calleeM_mk h h5, by rw [List.getElem?_map, h5]; rfl, OwnAt.mv (fun _ _ _ e => e) subB (fun _ e => e) h10⟩
      | val d' => rw [ea] at h4; cases h4
      | tmp o' =>
        rw [ea] at h4 h6; cases h4
        obtain ⟨a, rfl, h8, h9⟩ := h6
        exact ⟨a, calleeM_mk h h5, by rw [List.getElem?_map, h5]; rfl, OwnAt.mv (fun _ _ _ e => e) subB (fun _ e => e) h9⟩
    · obtain ⟨p, l, o, h1, _⟩ := calleeM_some h
      exact ⟨p, l, o, h1⟩
  have lf := callK_len ht e2
  refine ⟨by rw [l2, ← l1, lf], Tc, sl, calleeM sl vs, r, outs, S0, fun s hs => ?_, e2, fun v H' mc Tr Sc st pin hr => ?_⟩
  · obtain ⟨j, hj, rfl⟩ := List.mem_iff_getElem.mp hs
    obtain ⟨s', h3, h4⟩ := sg j as[j] (List.getElem?_eq_getElem (by omega))
    rw [List.getElem?_eq_getElem hj] at h3; cases h3
    cases ea : as[j] with
    | bor i => rw [ea] at h4; obtain ⟨_, _, _, z⟩ := h4; rw [z]; trivial
    | val d' => rw [ea] at h4; rw [show sl[j] = _ from h4]; trivial
    | tmp o => rw [ea] at h4; rw [show sl[j] = _ from h4]; trivial
  -- behind the call
  have F1 : ∀ a, Owned (calleeM sl vs) a → Owned mc a := by
    rintro a ⟨j, h⟩
    obtain ⟨p, l, o, h1, h2⟩ := calleeM_some h
    have hp : p = true := by
      have hj : j < as.length := by rw [← l1]; exact (List.getElem?_eq_some_iff.mp h1).1
      obtain ⟨s, h3, h4⟩ := sg j as[j] (List.getElem?_eq_getElem hj)
      rw [h1] at h3; cases h3
      cases ea : as[j] with
      | bor i => rw [ea] at h4; obtain ⟨_, _, _, z⟩ := h4; cases z; rfl
      | val d' => rw [ea] at h4; cases h4
      | tmp o => rw [ea] at h4; cases h4; rfl
    subst hp
    obtain ⟨l', o', h3⟩ := pin j l o h1
    obtain ⟨b, h4, h5, _⟩ := Sc.own j true l' o' (outF_get h1 h3)
    rw [List.getElem?_map, h2] at h5
    cases h5
    exact ⟨j, h4⟩
  have trc : ∀ a, Tc a → Tr a := by
    cases r with
    | v d => intro a z; rw [hr.1]; exact z
    | o ob => obtain ⟨_, _, _, h, _⟩ := hr; intro a z; rw [h]; exact .inl z
  have F2 : ∀ a, BB m1 T1 a → BB mc Tr a := fun a z => by
    by_cases h : Owned (calleeM sl vs) a
    · exact .inl (F1 a h)
    · exact .inr (trc a ⟨z, h⟩)
  have F3 : ∀ a o, ¬ BB m1 T1 a → H1 a = some o → H' a = some o := fun a o n h => st.keep a o h fun z => n (ownB a z)
  have kp1 : Kp f1 σ f' σ := by
    refine ⟨fun i l o h => ⟨rfl, ?_⟩, fun i p o h => ⟨rfl, ?_⟩⟩
    · by_cases hb : i ∈ bors as
      · obtain ⟨j, hj⟩ := bors_get hb
        obtain ⟨p0, l0, o0, p', l', o', k1, k2, k3⟩ := b3 j i hj
        rw [h] at k1; cases k1
        exact ⟨false, o', k3⟩
      · exact ⟨l, o, by rw [b2 i hb]; exact h⟩
    · by_cases hb : i ∈ bors as
      · exfalso
        obtain ⟨j, hj⟩ := bors_get hb
        obtain ⟨s, h3, p0, o0, h4, _⟩ := sg j _ hj
        rw [h] at h4; cases h4
      · rw [b2 i hb]; exact h
  have bmem : ∀ i, i ∈ bors as → ∃ j : Nat, as[j]? = some (Arg.bor i) := fun i hb => bors_get hb
  -- the caller's frame at any T' between T and what came
  have fin : ∀ T' : AP, (∀ a, T a → T' a) → (∀ a, T' a → BB mc Tr a) → (∀ a, T' a → T a ∨ H1 a = none) → (∀ a, T' a → H' a ≠ none) → PostX K T σ H f m f' H' m1 T' := by
    intro T' t1 t2 t3 t4
    have sub : ∀ a, BB m1 T' a → BB m1 T1 a ∨ H1 a = none := fun a z => by
      rcases z with z | z
      · exact .inl (.inl z)
      · rcases t3 a z with z | z
        · exact .inl (.inr (P1.tl a z))
        · exact .inr z
    have subc : ∀ a, BB m1 T' a → BB mc Tr a ∨ H' a = none := fun a z => by
      rcases z with z | z
      · exact .inl (F2 a (.inl z))
      · exact .inl (t2 a z)
    refine ⟨⟨by rw [b1]; exact S1.len, fun i d h => ?_, fun i p l o h => ?_, fun i a h => ?_, S1.inj, fun i a h z => ?_, t4, fun a xs z e => Sc.noTup e (t2 a z)⟩, ⟨fun a o h n => ?_, fun a h => P1.step.own a h, fun a h => ?_, fun a h => P1.step.dom a (st.dom a h)⟩, P1.ml, t1, P1.kp.trans kp1⟩
    · by_cases hb : i ∈ bors as
      · obtain ⟨j, hj⟩ := bmem i hb
        obtain ⟨_, _, _, _, _, _, _, _, k3⟩ := b3 j i hj
        rw [h] at k3; cases k3
      · rw [b2 i hb] at h
        obtain ⟨v, h1, h2⟩ := S1.val i d h
        exact ⟨v, h1, Rep.mv F3 sub _ _ h2⟩
    · by_cases hb : i ∈ bors as
      · obtain ⟨j, hj⟩ := bmem i hb
        obtain ⟨p0, l0, o0, p', l', o', k1, k2, k3⟩ := b3 j i hj
        rw [h] at k3; cases k3
        obtain ⟨a, h1, h2, _⟩ := S1.own i _ _ _ k1
        obtain ⟨v, h3, h4⟩ := hA.get hj
        have h4 : σ[i]? = some (some v) := h4
        rw [h2] at h4; cases h4
        obtain ⟨sj, s1, p1, o1, s2, s3⟩ := sg j _ hj
        rw [s3] at s1
        obtain ⟨a', h5, h6, h7⟩ := Sc.own j p' l' o (outF_get s1 k2)
        rw [List.getElem?_map, h3] at h6; cases h6
        exact ⟨a, h1, h2, OwnAt.mv (fun _ _ _ e => e) subc (fun _ e => e) h7⟩
      · rw [b2 i hb] at h
        obtain ⟨a, h1, h2, h3⟩ := S1.own i p l o h
        refine ⟨a, h1, h2, OwnAt.mv F3 sub (fun u hu => st.keep a u hu fun ⟨j, z⟩ => ?_) h3⟩
        rcases m0o j a z with ⟨i', h4, h5, _⟩ | ⟨o, h4, h5, _⟩
        · have := S1.inj i i' a h1 h5
          subst this
          exact hb (bors_mem h4)
        · exact S1.tmp i a h1 h5
    · obtain ⟨p, l, o, h1⟩ := S1.dom i a h
      by_cases hb : i ∈ bors as
      · obtain ⟨j, hj⟩ := bmem i hb
        obtain ⟨_, _, _, _, _, _, _, _, k3⟩ := b3 j i hj
        exact ⟨_, _, _, k3⟩
      · exact ⟨p, l, o, by rw [b2 i hb]; exact h1⟩
    · rcases t3 a z with z | z
      · exact S1.tmp i a h (P1.tl a z)
      · exact S1.owned ⟨i, h⟩ z
    · refine st.keep a o (P1.step.keep a o h n) fun ⟨j, z⟩ => ?_
      rcases m0o j a z with ⟨i', h4, h5, _⟩ | ⟨o', h4, h5, h6⟩
      · exact n ⟨i', P1.ml i' a h5⟩
      · rw [fr a h6] at h; cases h
    · rcases t3 a h with z | z
      · exact .inl z
      · exact .inr (P1.step.dom a z)
  have TB : ∀ a, T a → BB mc Tr a := fun a z => F2 a (.inr (P1.tl a z))
  have Tn : ∀ a, T a → H' a ≠ none := fun a z h => S.tr a z (P1.step.dom a (st.dom a h))
  cases r with
  | v d =>
    obtain ⟨h1, h2⟩ := hr
    refine q v H' m1 T (fin T (fun _ h => h) TB (fun _ h => .inl h) Tn) ⟨rfl, Rep.mv (fun _ _ _ e => e) (fun a z => ?_) _ _ h2⟩
    rcases z with z | z
    · exact .inl (F2 a (.inl z))
    · exact .inl (TB a z)
  | o ob =>
    obtain ⟨a0, rfl, h1, h2, h3⟩ := hr
    have ta0 : Tr a0 := by rw [h2]; exact .inr rfl
    refine q _ H' m1 (TT1 T a0) (fin (TT1 T a0) (fun _ h => .inl h) (fun a z => ?_) (fun a z => ?_) (fun a z => ?_)) ⟨a0, rfl, P1.step.dom a0 h1, rfl, OwnAt.mv (fun _ _ _ e => e) (fun a z => ?_) (fun _ e => e) h3⟩
    · rcases z with z | rfl
      · exact TB a z
      · exact .inr ta0
    · rcases z with z | rfl
      · exact .inl z
      · exact .inr h1
    · rcases z with z | rfl
      · exact Tn a z
      · exact h3.tr
    · rcases z with z | z | rfl
      · exact .inl (F2 a (.inl z))
      · exact .inl (TB a z)
      · exact .inl (.inr ta0)
theorem pe_call' {tb : Tb} {k : Nat} {g : String} {fd : FD} {x : Str} {p : Pos} {e : Expr} {d : Fr → R (List Arg)} {fa : Addr} {fdat : FuncData} (ht : tb g = some fd) (F : FnOk X.prog X.w X.K X.mg X.base CX0 k fa fdat (fd.ps.map oS) (spF X.K tb k g fd.ps.length)) (hr : Room k X.A)
    (hg : Gl X x) (hp : plainN x = true) (hm : X.mg x = some (.ref fa)) (hk : PySem.W.keepIn X.K (.ref fa) = true) (hb : Binds X.K fdat (fd.ps.map oS) []) (hs : (e :: es).all nst = true) (ha : PA X (e :: es) (tAs X.K d)) :
    PE X (.Call (.Name x p) (e :: es) [] pos) (tD X.K fun f => (d f).bind fun as f1 => doCall ⟨callK tb k⟩ g as f1) := by
  obtain ⟨h1, h2, h3⟩ := plain_of hp
  have hs' : nst e = true ∧ es.all nst = true := by rw [List.all_cons, Bool.and_eq_true] at hs; exact hs
  refine pe_weak (pe_call F hr hg hm hk hb .nil pass0 ha h1 (star_cons hs'.1) (star_plain hs'.2)) fun σ H Q ⟨T, f, m, r, f', S, e, q⟩ => ?_
  obtain ⟨as, f1, ea, e⟩ := bind_ok e
  exact ⟨T, f, m, as, f1, S, ea, fun vs H1 m1 T1 P1 hA nd fr => by
    show spF X.K tb k g fd.ps.length (vs ++ []) H1 Q E0
    rw [List.append_nil]
    exact call_core ht S P1 hA nd fr e q⟩
end
end VI

set_option Elab.async false
set_option linter.all false
set_option maxRecDepth 100000
set_option maxHeartbeats 2000000
set_option autoImplicit false
namespace VI
open PySem PySem.Spec PyProof.Rows L2

/-- a list, a tuple, a text -/
inductive Src where
  | l (a : Addr) | t (a : Addr) | s (x : Str) (tk : Tok)
def Src.val : Src → Value
  | .l a => .ref a | .t a => .ref a | .s x tk => .str x tk
def srcAt (it : Addr) : Src → Nat → Heap → Prop
  | .l a, i, h => h.IsListIter it a i
  | .t a, i, h => h.IsTupleIter it a i
  | .s x tk, i, h => h.IsStrIter it (strIterType x) x tk i
def Src.obj : Src → Obj
  | .l a => { cls := .type "list_iterator", data := .fields #[.ref a, .int 0 0] }
  | .t a => { cls := .type "tuple_iterator", data := .fields #[.ref a, .int 0 0] }
  | .s x tk => { cls := .type (strIterType x), data := .fields #[.str x tk, .int 0 0] }
def chars (x : Str) : List V := x.cps.toList.map fun c => V.str ⟨#[c]⟩
def SrcQ (K : PySem.W.Frag) (H : Hp) : Src → List V → Prop
  | .l a, xs => SqL K H a xs
  | .t a, xs => SqT K H a xs
  | .s x _, xs => xs = chars x
theorem srcLive {it : Addr} {src : Src} {i : Nat} {h : Heap} (st : srcAt it src i h) : ∃ o, h.get? it = some o ∧ (∀ v, o.data ≠ .cell v) ∧ o.cls ≠ .type "enumerate" ∧ o.cls ≠ .type "zip" ∧ o.cls ≠ .type "tuple" ∧ o.cls ≠ .type "list" := by
  cases src with
  | l a => obtain ⟨o, ho, hc, hd⟩ := st; exact ⟨o, ho, fun v z => by rw [hd] at z; (cases z), by rw [hc]; decide, by rw [hc]; decide, by rw [hc]; decide, by rw [hc]; decide⟩
  | t a => obtain ⟨o, ho, hc, hd⟩ := st; exact ⟨o, ho, fun v z => by rw [hd] at z; (cases z), by rw [hc]; decide, by rw [hc]; decide, by rw [hc]; decide, by rw [hc]; decide⟩
  | s x tk =>
    obtain ⟨o, ho, hc, hd⟩ := st
    have hcc : o.cls = .type "str_ascii_iterator" ∨ o.cls = .type "str_iterator" := by
      rw [hc]; unfold strIterType; split
      · exact .inl rfl
      · exact .inr rfl
    exact ⟨o, ho, fun v z => by rw [hd] at z; (cases z), by rcases hcc with e | e <;> rw [e] <;> decide, by rcases hcc with e | e <;> rw [e] <;> decide, by rcases hcc with e | e <;> rw [e] <;> decide, by rcases hcc with e | e <;> rw [e] <;> decide⟩
theorem srcKeep {it : Addr} {src : Src} {i : Nat} {h h' : Heap} (st : srcAt it src i h) (k : ∀ o, h.get? it = some o → h'.get? it = some o) : srcAt it src i h' := by
  cases src with
  | l a => exact Heap.IsListIter.at st k
  | t a => exact Heap.IsTupleIter.at st k
  | s x tk => obtain ⟨o, ho, r⟩ := st; exact ⟨o, k o ho, r⟩
theorem srcMk {it : Addr} {src : Src} {h : Heap} (st : h.get? it = some src.obj) : srcAt it src 0 h := by
  cases src <;> exact ⟨_, st, rfl, rfl⟩
section
variable {X : Cx} {pins : List (Addr × Obj)} {σ : L2.St} {H : Hp} {s : Shared}
theorem src_inj (I : Inv X pins σ H s) {src : Src} {xs ys : List V} (h : SrcQ X.K H src xs) (h' : SrcQ X.K H src ys) : xs = ys := by
  cases src with
  | l a => exact I.list_inj h h'
  | t a => exact I.tuple_inj h h'
  | s x tk => rw [show xs = _ from h, show ys = _ from h']
theorem src_draws (I : Inv X pins σ H s) (hc : X.calm = true) {src : Src} {xs : List V} (hq : SrcQ X.K H src xs) {it : Addr} {i : Nat} (st : srcAt it src i s.heap) :
    ∃ (fp : List Addr) (P : Nat → Value → Prop) (St : Nat → Heap → Prop), Draws X.prog X.w X.A.in1 it fp xs.length P St ∧ St i s.heap ∧ (∀ j v, P j v → ∃ x, xs[j]? = some x ∧ RelV x v) ∧
      (∀ j h, St j h → srcAt it src j h) ∧ it ∈ fp ∧ ∀ b ∈ fp, b = it ∨ ((src = .l b ∨ src = .t b) ∧ ∃ o, s.heap.get? b = some o ∧ (o.cls = .type "list" ∨ o.cls = .type "tuple")) := by
  have hh : X.A.in1.handled = none := I.ok.hd hc
  obtain ⟨oi, hoi, _, _, _, nt, nl⟩ := srcLive st
  cases src with
  | l a =>
    obtain ⟨its, rv, p, hz⟩ := I.list hq
    have hl := rv.length
    obtain ⟨ol, hol, hcl, hdl⟩ := p.isList
    have hne : a ≠ it := fun e => by rw [e, hoi] at hol; cases hol; exact nl hcl
    have D := Draws.list (prog := X.prog) (w := X.w) hh it a hne its.toArray
    rw [List.size_toArray, ← hl] at D
    refine ⟨_, _, _, D, ⟨st, p.isList⟩, fun j v e => ?_, fun j h e => e.1, by simp, fun b hb => ?_⟩
    · have e : its.toArray[j]? = some v := e
      have hj : j < xs.length := by
        have := (Array.getElem?_eq_some_iff.mp e).1
        rw [List.size_toArray] at this; omega
      obtain ⟨u, hu, ru⟩ := rv.get (List.getElem?_eq_getElem hj)
      rw [List.getElem?_toArray, hu] at e
      cases e
      exact ⟨_, List.getElem?_eq_getElem hj, ru⟩
    · simp only [List.mem_cons, List.not_mem_nil, or_false] at hb
      rcases hb with rfl | rfl
      · exact .inl rfl
      · exact .inr ⟨.inl rfl, ol, hol, .inl hcl⟩
  | t a =>
    obtain ⟨its, rv, p, hz⟩ := I.tuple hq
    have hl := rv.length
    have pt : s.heap.IsTuple a its.toArray := p
    obtain ⟨ol, hol, hcl, hdl⟩ := id pt
    have hne : a ≠ it := fun e => by rw [e, hoi] at hol; cases hol; exact nt hcl
    have D := Draws.tuple (prog := X.prog) (w := X.w) hh it a hne its.toArray
    rw [List.size_toArray, ← hl] at D
    refine ⟨_, _, _, D, ⟨st, pt⟩, fun j v e => ?_, fun j h e => e.1, by simp, fun b hb => ?_⟩
    · have e : its.toArray[j]? = some v := e
      have hj : j < xs.length := by
        have := (Array.getElem?_eq_some_iff.mp e).1
        rw [List.size_toArray] at this; omega
      obtain ⟨u, hu, ru⟩ := rv.get (List.getElem?_eq_getElem hj)
      rw [List.getElem?_toArray, hu] at e
      cases e
      exact ⟨_, List.getElem?_eq_getElem hj, ru⟩
    · simp only [List.mem_cons, List.not_mem_nil, or_false] at hb
      rcases hb with rfl | rfl
      · exact .inl rfl
      · exact .inr ⟨.inr rfl, ol, hol, .inr hcl⟩
  | s x tk =>
    have hq : xs = chars x := hq
    have hl : xs.length = x.cps.size := by rw [hq]; simp [chars]
    have D := Draws.text (prog := X.prog) (w := X.w) hh it x tk
    rw [← hl] at D
    refine ⟨_, _, _, D, st, fun j v ⟨c, u, e1, e2⟩ => ⟨.str ⟨#[c]⟩, ?_, u, e2⟩, fun j h e => e, by simp, fun b hb => .inl (by simpa using hb)⟩
    rw [hq]
    simp [chars, e1]
/-- how it begins -/
theorem src_begins (I : Inv X pins σ H s) {src : Src} {xs : List V} (hq : SrcQ X.K H src xs) : ∃ (Hb : Heap → Prop), Begins src.val src.obj Hb ∧ Hb s.heap := by
  cases src with
  | l a => obtain ⟨its, rv, p, hz⟩ := I.list hq; exact ⟨_, begins_list a its.toArray, p.isList⟩
  | t a => obtain ⟨its, rv, p, hz⟩ := I.tuple hq; exact ⟨_, begins_tuple a its.toArray, p⟩
  | s x tk => exact ⟨_, begins_text x tk, trivial⟩
end

/-! ### enumerate -/
def IteU (K : PySem.W.Frag) (src : Src) : L2.It :=
  ⟨fun i H => ∃ (xs : List V) (x : V), SrcQ K H src xs ∧ xs[i]? = some x, fun i H v H' => ∃ T x, v = .ref T ∧ H T = none ∧ H' = upd H T (.tup [.int (i : Nat), x]) ∧ ∀ xs, SrcQ K H src xs → xs[i]? = some x, fun i H => ∃ xs : List V, SrcQ K H src xs ∧ xs.length = i⟩
theorem turn_enumU {P : Program} {w : World} {K : PySem.W.Frag} {elts : List Expr} {kk : Nat} {tpos : Pos} (src : Src) (e it : Addr) :
    Turn P w K (.Tuple elts kk tpos) (IteU K src) [e, it] e (fun i h => (∃ old, IsEnum h e it ((i : Nat) : Int) old) ∧ srcAt it src i h ∧ e ≠ it) where
  mem := by simp
  obj := fun i h st b hb => by
    obtain ⟨⟨old, he⟩, hs, _⟩ := st
    have e' : b = e ∨ b = it := by simpa using hb
    rcases e' with z | z
    · rw [z]; exact ⟨_, he, fun v q => nomatch q⟩
    · rw [z]; obtain ⟨o, ho, hd, _⟩ := srcLive hs; exact ⟨o, ho, hd⟩
  keep := fun i h h' st k => let ⟨⟨old, he⟩, hi, hne⟩ := st; ⟨⟨old, k e (by simp) _ he⟩, srcKeep hi fun o q => k it (by simp) o q, hne⟩
  item := by
    intro X hP hw hK hc i pins s σ H E I hf st hg
    subst hP hw hK
    obtain ⟨⟨old, he⟩, hit, hne⟩ := st
    obtain ⟨xs, x, hq, hx⟩ := hg
    obtain ⟨fp, P, St, D, st0, hP, hSt, _, hfp⟩ := src_draws I hc hq hit
    have hlt : i < xs.length := (List.getElem?_eq_some_iff.mp hx).1
    have hel : e < s.heap.objs.size := Heap.lt_size he
    have hil : it < s.heap.objs.size := by obtain ⟨_, q, _⟩ := srcLive hit; exact Heap.lt_size q
    have hef : e ∉ fp := fun z => by
      rcases hfp e z with z | ⟨_, o, ho, hcl⟩
      · exact hne z
      · rw [show s.heap.get? e = _ from he] at ho; cases ho
        rcases hcl with z | z
        · exact absurd z (by simp)
        · exact absurd z (by simp)
    refine wpAny_pyNext_enum_itemC D he st0 hlt hne hef fun u h' tk hPu ho hit' hT hsz hk => ?_
    obtain ⟨x', hx', ru⟩ := hP i u hPu
    rw [hx] at hx'; cases hx'
    have hit' := hSt _ _ hit'
    refine ⟨_, rfl, wpAny_letOwnedTupleGo_enum (s := { s with heap := h', toks := tk + 1 }) ho fun h'' he' sb => ?_⟩
    have hT2 : h''.get? s.heap.objs.size = some { cls := .type "tuple", data := .seq #[.int i tk, u] } := (sb.2 _ (Nat.ne_of_gt hel)).trans hT
    have new : ObjOk X.prog X.w (upd H s.heap.objs.size (.tup [.int (i : Nat), x])) h'' s.heap.objs.size (.tup [.int (i : Nat), x]) :=
      ⟨by show 2 ≤ sizeLine; decide, [.int i tk, u], .cons ⟨_, rfl⟩ (.cons ru .nil), ⟨_, hT2, rfl, _, rfl⟩⟩
    have I1 : Inv X pins σ (upd H s.heap.objs.size (.tup [.int (i : Nat), x])) { s with heap := h'', toks := tk + 1 } :=
      I.turnedNew (ch := [e, it]) (fun b ob hb q => (sb.2 b (fun z => hb (by simp [z]))).trans (hk b ob (fun z => hb (by simp [z])) (fun z => hb (by simp [z])) q)) hf (Nat.le_refl _) new
    refine ⟨.ref s.heap.objs.size, _, I1, rfl, ⟨_, x, rfl, I.hok.fresh (Nat.le_refl _), rfl, fun ys hy => by rw [src_inj I hy hq]; exact hx⟩, ⟨⟨u, ?_⟩, srcKeep hit' fun o q => (sb.2 it (Ne.symm hne)).trans q, hne⟩, fun b hb => ?_⟩
    · have e1 : ((i + 1 : Nat) : Int) = (i : Int) + 1 := by omega
      rw [e1]; exact he'
    · have hb' : b < s.heap.objs.size := by
        have e' : b = e ∨ b = it := by simpa using hb
        rcases e' with z | z
        · rw [z]; exact hel
        · rw [z]; exact hil
      rw [upd_ne (Nat.ne_of_lt hb')]
      exact (hf b hb).1
  done := by
    intro X hP hw hK hc i pins s σ H E I hf st hg
    subst hP hw hK
    obtain ⟨⟨old, he⟩, hit, hne⟩ := st
    obtain ⟨xs, hq, rfl⟩ := hg
    obtain ⟨fp, P, St, D, st0, hP, hSt, _, hfp⟩ := src_draws I hc hq hit
    obtain ⟨f0, f1, f2, f3, f4, f5⟩ := hf it (by simp)
    exact wpAny_pyNext_enum_endD D he st0 fun h' eb => ⟨rfl, I.turned (t' := s.toks) (fun b o hb q => eb b o hb q) f0 f1 f3 f4 f5⟩
  self := fun A i s Q E st h => let ⟨⟨_, he⟩, _⟩ := st; wpAny_pyIter_enum he h
theorem meets_enumerate_newB1 {v : Value} {o : Obj} {H : Heap → Prop} (B : Begins v o H) :
    Meets (Builtin.«enumerate.__new__» ⟨[.type "enumerate", v], []⟩) (fun _ R s => H s.heap ∧
      R (.ok (.ret (.ref (s.heap.push o).objs.size))) { s with heap := (s.heap.push o).push { cls := .type "enumerate", data := .fields #[.none, .bool false, .ref s.heap.objs.size, rawInt 0, .none, .none] } }) :=
  .of_wp fun prog w A R s h => by
    obtain ⟨hp, g, d, tk, os⟩ := s; obtain ⟨h1, h⟩ := h
    have hsub := sub_enumerate
    have q1 : ∀ {A' : Around} {E : Value → Shared → Prop} {Q : Value → Shared → Prop}, Q (.ref hp.objs.size) ⟨hp.push o, g, d, tk, os⟩ → wpAny (model prog w) A' (pyIter v) Q E ⟨hp, g, d, tk, os⟩ :=
      fun q => B.iter prog w _ _ ⟨hp, g, d, tk, os⟩ _ h1 q
    wp_walk using q1
    refine wpAny_stack_any fun st => wpAny_pure ?_
    split
    · rename_i c _ _ _ _ _
      cases (c == Value.type "enumerate")
      · wp_walk using q1
        exact ⟨_, rfl, h⟩
      · wp_walk using q1
        exact ⟨_, rfl, h⟩
    · wp_walk using q1
      exact ⟨_, rfl, h⟩
section
variable {prog : Program} {w : World} {A : Around} {E : Value → Shared → Prop} {s : Shared}
theorem enum_begins1 {v : Value} {o : Obj} {H : Heap → Prop} {Q : Value → Shared → Prop} (B : Begins v o H) (h1 : H s.heap)
    (h : ∀ h', IsEnum h' (s.heap.objs.size + 1) s.heap.objs.size 0 .none → h'.get? s.heap.objs.size = some o → h'.objs.size = s.heap.objs.size + 2 →
      (∀ b o, s.heap.get? b = some o → h'.get? b = some o) → Q (.ref (s.heap.objs.size + 1)) { s with heap := h' }) :
    wpAny (model prog w) A (call (.type "enumerate") [v]) Q E s := by
  refine callType_new F.called_enumerate (by decide) (F.typeCall_enumerate_1 _) (F.newCall_enumerate_1 _) (fun obj => F.args_object_init_2 obj _) F.entry_enumerate_new
    (meets_enumerate_newB1 B) ⟨h1, ?_⟩
  have hz : (s.heap.push o).objs.size = s.heap.objs.size + 1 := Heap.size_push ..
  show _ ∧ _
  rw [hz]
  have he : IsEnum ((s.heap.push o).push { cls := .type "enumerate", data := .fields #[.none, .bool false, .ref s.heap.objs.size, rawInt 0, .none, .none] }) (s.heap.objs.size + 1) s.heap.objs.size 0 .none := by
    have := Heap.get?_push_size (s.heap.push o) (o := { cls := .type "enumerate", data := .fields #[.none, .bool false, .ref s.heap.objs.size, rawInt 0, .none, .none] }) rfl
    rw [hz] at this; exact this
  refine ⟨⟨_, he, rfl⟩, h _ he (Heap.get?_push_of_some _ (Heap.get?_push_size _ B.free)) (by rw [Heap.size_push, hz]) fun b o x => Heap.get?_push_of_some _ (Heap.get?_push_of_some _ x)⟩
end
/-- v is walked by kind k: 0 list, 1 tuple, 2 text -/
def SrcK (K : PySem.W.Frag) (H : Hp) (v : V) (xs : List V) (R : (Tok → Src) → Prop) : Prop :=
  (∃ a, v = .ref a ∧ SqL K H a xs ∧ R fun _ => .l a) ∨ (∃ a, v = .ref a ∧ SqT K H a xs ∧ R fun _ => .t a) ∨ ∃ x, v = .str x ∧ xs = chars x ∧ R fun t => .s x t
theorem srcK_go {K : PySem.W.Frag} {H : Hp} {v : V} {xs : List V} {R : (Tok → Src) → Prop} {u : Value} (h : SrcK K H v xs R) (r : RelV v u) : ∃ (f : Tok → Src) (t : Tok), (f t).val = u ∧ (∀ t, SrcQ K H (f t) xs) ∧ R f := by
  rcases h with ⟨a, rfl, hq, q⟩ | ⟨a, rfl, hq, q⟩ | ⟨x, rfl, hq, q⟩
  · cases r; exact ⟨fun _ => .l a, 0, rfl, fun _ => hq, q⟩
  · cases r; exact ⟨fun _ => .t a, 0, rfl, fun _ => hq, q⟩
  · obtain ⟨t, rfl⟩ := r; exact ⟨fun t => .s x t, t, rfl, fun _ => hq, q⟩
def iEnumU (K : PySem.W.Frag) (ta : TA) : TI := fun σ H R => ta σ H fun vs H1 => ∃ v xs, vs = [v] ∧ SrcK K H1 v xs fun f => ∀ t, R (IteU K (f t)) H1
theorem pi_enumU {X : Cx} {e : Expr} {ta : TA} {p pos tpos : Pos} {elts : List Expr} {kk : Nat} (hg : Gl X "enumerate") (hm : X.mg "enumerate" = none) (ha : PA X [e] ta) (hs : starEach [e] X.env = [(false, eval e X.env)]) :
    PI X (.Tuple elts kk tpos) (.Call (.Name "enumerate" p) [e] [] pos) (iEnumU X.K ta) := by
  refine ⟨fun pins s σ H R I h => ?_⟩
  refine Call_ (ld_blt I hg hm boot_enumerate (PyProof.Rows.callWith_type1 (thn (ha.run pos pins s σ H _ I h) fun us s1 ⟨vs, H1, I1, r1, q1⟩ => ?_) hs rfl))
  obtain ⟨v, xs, ex, q1⟩ := q1
  subst ex
  cases r1 with
  | cons r rr =>
    cases rr
    obtain ⟨f, t, ev, hq, q⟩ := srcK_go q1 r
    rw [← ev]
    obtain ⟨Hb, B, hb⟩ := src_begins I1 (hq t)
    refine enum_begins1 B hb fun h' he hit hsz hk => wpAny_pyIter_enum he ?_
    have I2 : Inv X pins σ H1 { s1 with heap := h' } := I1.kept (t' := s1.toks) hk
    refine ⟨s1.heap.objs.size + 1, [s1.heap.objs.size + 1, s1.heap.objs.size], _, _, H1, rfl, I2, turn_enumU (f t) (s1.heap.objs.size + 1) s1.heap.objs.size, ⟨⟨.none, he⟩, srcMk hit, Nat.succ_ne_self _⟩, fun b hb => ?_, q t⟩
    have e' : b = s1.heap.objs.size + 1 ∨ b = s1.heap.objs.size := by simpa using hb
    have hle : s1.heap.objs.size ≤ b := by
      rcases e' with z | z
      · rw [z]; exact Nat.le_add_right _ _
      · rw [z]; exact Nat.le_refl _
    exact I1.fpOk hle (I1.hok.fresh hle)

/-! ### zip -/
def ItzU (K : PySem.W.Frag) (a b : Src) : L2.It :=
  ⟨fun i H => ∃ (xs ys : List V) (x y : V), SrcQ K H a xs ∧ SrcQ K H b ys ∧ xs[i]? = some x ∧ ys[i]? = some y,
    fun i H v H' => ∃ T x y, v = .ref T ∧ H T = none ∧ H' = upd H T (.tup [x, y]) ∧ (∀ xs, SrcQ K H a xs → xs[i]? = some x) ∧ ∀ ys, SrcQ K H b ys → ys[i]? = some y,
    fun i H => ∃ xs ys : List V, SrcQ K H a xs ∧ SrcQ K H b ys ∧ i ≤ xs.length ∧ i ≤ ys.length ∧ (i = xs.length ∨ i = ys.length)⟩
def SrcNe (src : Src) (T : Addr) : Prop := ∀ b, src = .l b ∨ src = .t b → T ≠ b
abbrev FpS (s : Shared) (src : Src) (it : Addr) (fp : List Addr) : Prop := ∀ b ∈ fp, b = it ∨ ((src = .l b ∨ src = .t b) ∧ ∃ o, s.heap.get? b = some o ∧ (o.cls = .type "list" ∨ o.cls = .type "tuple"))
theorem zipSep {s : Shared} {z TI TO i1 i2 : Addr} {a b : Src} {i : Nat} {fp1 fp2 : List Addr} {a1 a2 : Value} (hz : IsZip s.heap z TI TO .none) (hTI : IsTupOf2 s.heap TI (.ref i1) (.ref i2)) (hTO : IsTupOf2 s.heap TO a1 a2)
    (h1 : srcAt i1 a i s.heap) (h2 : srcAt i2 b i s.heap) (ne : TI ≠ TO) (ne2 : i1 ≠ i2) (n1 : SrcNe a TO) (n2 : SrcNe b TO) (m1 : i1 ∈ fp1) (m2 : i2 ∈ fp2) (f1 : FpS s a i1 fp1) (f2 : FpS s b i2 fp2) : ZipSep2 z TI TO i1 i2 fp1 fp2 := by
  obtain ⟨o1, e1, _, _, z1, t1, l1⟩ := srcLive h1
  obtain ⟨o2, e2, _, _, z2, t2, l2⟩ := srcLive h2
  have hz' : s.heap.get? z = _ := hz
  have hTI' : s.heap.get? TI = _ := hTI
  have hTO' : s.heap.get? TO = _ := hTO
  refine ⟨fun e => ?_, fun e => ?_, ne, fun e => ?_, m1, fun h => ?_, fun h => ?_, fun e => ?_, m2, fun h => ?_, fun h => ?_, fun h => ?_, fun h => ?_⟩
  · rw [e, hz'] at hTI'; exact absurd (congrArg (fun o => o.map (·.cls)) hTI') (by simp)
  · rw [e, hz'] at hTO'; exact absurd (congrArg (fun o => o.map (·.cls)) hTO') (by simp)
  · rw [e, e1] at hTI'; exact t1 (by rw [Option.some.inj hTI'])
  · rcases f1 z h with q | ⟨_, o, ho, hc⟩
    · rw [q, e1] at hz'; exact z1 (by rw [Option.some.inj hz'])
    · rw [hz'] at ho; cases ho; rcases hc with q | q
      · exact absurd q (by simp)
      · exact absurd q (by simp)
  · rcases f1 TO h with q | ⟨q, _⟩
    · rw [q, e1] at hTO'; exact t1 (by rw [Option.some.inj hTO'])
    · exact n1 TO q rfl
  · rw [e, e2] at hTI'; exact t2 (by rw [Option.some.inj hTI'])
  · rcases f2 z h with q | ⟨_, o, ho, hc⟩
    · rw [q, e2] at hz'; exact z2 (by rw [Option.some.inj hz'])
    · rw [hz'] at ho; cases ho; rcases hc with q | q
      · exact absurd q (by simp)
      · exact absurd q (by simp)
  · rcases f2 TO h with q | ⟨q, _⟩
    · rw [q, e2] at hTO'; exact t2 (by rw [Option.some.inj hTO'])
    · exact n2 TO q rfl
  · rcases f2 i1 h with q | ⟨_, o, ho, hc⟩
    · exact ne2 q
    · rw [e1] at ho; cases ho; exact hc.elim l1 t1
  · rcases f1 i2 h with q | ⟨_, o, ho, hc⟩
    · exact ne2 q.symm
    · rw [e2] at ho; cases ho; exact hc.elim l2 t2
theorem turn_zipU {P : Program} {w : World} {K : PySem.W.Frag} {elts : List Expr} {kk : Nat} {tpos : Pos} {a b : Src} {z TI TO i1 i2 : Addr} (ne : TI ≠ TO) (ne2 : i1 ≠ i2) (n1 : SrcNe a TO) (n2 : SrcNe b TO) :
    Turn P w K (.Tuple elts kk tpos) (ItzU K a b) [z, TI, TO, i1, i2] z
      (fun i h => IsZip h z TI TO .none ∧ IsTupOf2 h TI (.ref i1) (.ref i2) ∧ (∃ a1 a2, IsTupOf2 h TO a1 a2) ∧ srcAt i1 a i h ∧ srcAt i2 b i h) where
  mem := by simp
  obj := fun i h st c hc => by
    obtain ⟨hz, hTI, ⟨a1, a2, hTO⟩, h1, h2⟩ := st
    simp only [List.mem_cons, List.not_mem_nil, or_false] at hc
    rcases hc with rfl | rfl | rfl | rfl | rfl
    · exact ⟨_, hz, fun v q => nomatch q⟩
    · exact ⟨_, hTI, fun v q => nomatch q⟩
    · exact ⟨_, hTO, fun v q => nomatch q⟩
    · obtain ⟨o, ho, hd, _⟩ := srcLive h1; exact ⟨o, ho, hd⟩
    · obtain ⟨o, ho, hd, _⟩ := srcLive h2; exact ⟨o, ho, hd⟩
  keep := fun i h h' st k => by
    obtain ⟨hz, hTI, ⟨a1, a2, hTO⟩, h1, h2⟩ := st
    exact ⟨k z (by simp) _ hz, k TI (by simp) _ hTI, ⟨a1, a2, k TO (by simp) _ hTO⟩, srcKeep h1 fun o q => k i1 (by simp) o q, srcKeep h2 fun o q => k i2 (by simp) o q⟩
  item := by
    intro X hP hw hK hc i pins s σ H E I hf st hg
    subst hP hw hK
    obtain ⟨hz, hTI, ⟨a1, a2, hTO⟩, h1, h2⟩ := st
    obtain ⟨xs, ys, x, y, hqx, hqy, hx, hy⟩ := hg
    obtain ⟨fp1, P1, St1, D1, st1, hP1, hS1, m1, f1⟩ := src_draws I hc hqx h1
    obtain ⟨fp2, P2, St2, D2, st2, hP2, hS2, m2, f2⟩ := src_draws I hc hqy h2
    have S := zipSep hz hTI hTO h1 h2 ne ne2 n1 n2 m1 m2 f1 f2
    have lt : ∀ {c o}, s.heap.get? c = some o → c < s.heap.objs.size := fun e => Heap.lt_size e
    have l1 : i1 < s.heap.objs.size := by obtain ⟨_, q, _⟩ := srcLive h1; exact lt q
    have l2 : i2 < s.heap.objs.size := by obtain ⟨_, q, _⟩ := srcLive h2; exact lt q
    refine wpAny_pyNext_zipD2_item S D1 D2 hz hTI hTO st1 st2 (List.getElem?_eq_some_iff.mp hx).1 (List.getElem?_eq_some_iff.mp hy).1 fun u1 u2 h' tk p1 p2 hz' hTO' st1' st2' hT hsz hk => ?_
    obtain ⟨x', hx', r1⟩ := hP1 i u1 p1
    obtain ⟨y', hy', r2⟩ := hP2 i u2 p2
    rw [hx] at hx'; cases hx'
    rw [hy] at hy'; cases hy'
    refine ⟨_, rfl, wpAny_letOwnedTupleGo_zip (s := { s with heap := h', toks := tk }) hz' fun h'' hz'' sb => ?_⟩
    have hT2 : h''.get? s.heap.objs.size = some { cls := .type "tuple", data := .seq #[u1, u2] } := (sb.2 _ (Nat.ne_of_gt (lt hz))).trans hT
    have new : ObjOk X.prog X.w (upd H s.heap.objs.size (.tup [x, y])) h'' s.heap.objs.size (.tup [x, y]) :=
      ⟨by show 2 ≤ sizeLine; decide, [u1, u2], .cons r1 (.cons r2 .nil), ⟨_, hT2, rfl, _, rfl⟩⟩
    have I1 : Inv X pins σ (upd H s.heap.objs.size (.tup [x, y])) { s with heap := h'', toks := tk } :=
      I.turnedNew (ch := [z, TI, TO, i1, i2]) (fun c ob hb q => (sb.2 c (fun z' => hb (by simp [z']))).trans (hk c ob (fun z' => hb (by simp [z'])) (fun z' => hb (by simp [z'])) (fun z' => hb (by simp [z'])) (fun z' => hb (by simp [z'])) q)) hf (Nat.le_refl _) new
    refine ⟨.ref s.heap.objs.size, _, I1, rfl, ⟨_, x, y, rfl, I.hok.fresh (Nat.le_refl _), rfl, fun zs hy' => by rw [src_inj I hy' hqx]; exact hx, fun zs hy' => by rw [src_inj I hy' hqy]; exact hy⟩,
      ⟨hz'', sb.extBut _ _ S.TIz (hk _ _ S.TIz S.TITO S.TIi1 S.TIi2 hTI), ⟨_, _, sb.extBut _ _ S.TOz hTO'⟩, hS1 _ _ (D1.over st1' sb S.zf1), hS2 _ _ (D2.over st2' sb S.zf2)⟩, fun c hcm => ?_⟩
    have hb' : c < s.heap.objs.size := by
      simp only [List.mem_cons, List.not_mem_nil, or_false] at hcm
      rcases hcm with rfl | rfl | rfl | rfl | rfl
      · exact lt hz
      · exact lt hTI
      · exact lt hTO
      · exact l1
      · exact l2
    rw [upd_ne (Nat.ne_of_lt hb')]
    exact (hf c hcm).1
  done := by
    intro X hP hw hK hc i pins s σ H E I hf st hg
    subst hP hw hK
    obtain ⟨hz, hTI, ⟨a1, a2, hTO⟩, h1, h2⟩ := st
    obtain ⟨xs, ys, hqx, hqy, hi1, hi2, he⟩ := hg
    obtain ⟨fp1, P1, St1, D1, st1, hP1, hS1, m1, f1⟩ := src_draws I hc hqx h1
    obtain ⟨fp2, P2, St2, D2, st2, hP2, hS2, m2, f2⟩ := src_draws I hc hqy h2
    have S := zipSep hz hTI hTO h1 h2 ne ne2 n1 n2 m1 m2 f1 f2
    exact wpAny_pyNext_zipD2_end S D1 D2 hz hTI hTO st1 st2 hi1 hi2 he fun h' tk hk => ⟨rfl, I.turnedL (t' := tk) (ch := [z, TI, TO, i1, i2]) (fun c o hb q =>
      hk c o (fun q' => hb (by simp [q'])) (fun q' => hb (by simp [q'])) (fun q' => hb (by simp [q'])) (fun q' => hb (by simp [q'])) q) hf⟩
  self := fun A i s Q E st h => wpAny_pyIter_zip st.1 h
theorem srcLt {X : Cx} {pins : List (Addr × Obj)} {σ : L2.St} {H : Hp} {s : Shared} (I : Inv X pins σ H s) {src : Src} {xs : List V} (hq : SrcQ X.K H src xs) {b : Addr} (h : src = .l b ∨ src = .t b) : b < s.heap.objs.size := by
  rcases h with rfl | rfl
  · obtain ⟨its, rv, p, hz⟩ := I.list hq; exact p.lt
  · obtain ⟨its, rv, p, hz⟩ := I.tuple hq
    obtain ⟨o, ho, _⟩ := (show s.heap.IsTuple b its.toArray from p)
    exact Heap.lt_size ho
def iZipU (K : PySem.W.Frag) (ta : TA) : TI := fun σ H R => ta σ H fun vs H1 => ∃ v u xs ys, vs = [v, u] ∧ SrcK K H1 v xs fun f => SrcK K H1 u ys fun g => ∀ t t', R (ItzU K (f t) (g t')) H1
theorem pi_zipU {X : Cx} {e e2 : Expr} {ta : TA} {p pos tpos : Pos} {elts : List Expr} {kk : Nat} (hg : Gl X "zip") (hm : X.mg "zip" = none) (ha : PA X [e, e2] ta)
    (hs : starEach [e, e2] X.env = (false, eval e X.env) :: starEach [e2] X.env) (hpl : (backTo pos (starEach [e2] X.env)).any (·.1) = false) :
    PI X (.Tuple elts kk tpos) (.Call (.Name "zip" p) [e, e2] [] pos) (iZipU X.K ta) := by
  refine ⟨fun pins s σ H R I h => ?_⟩
  refine Call_ (ld_blt I hg hm PyProof.Rows.boot_zip (PyProof.Rows.callWith_type1 (thn (ha.run pos pins s σ H _ I h) fun us s1 ⟨vs, H1, I1, r1, q1⟩ => ?_) hs hpl))
  obtain ⟨v, u, xs, ys, ex, q1⟩ := q1
  subst ex
  cases r1 with
  | cons r rr =>
    cases rr with
    | cons r' rr =>
      cases rr
      obtain ⟨f, t, ev, hqx, q1⟩ := srcK_go q1 r
      obtain ⟨g, t', ev', hqy, q⟩ := srcK_go q1 r'
      rw [← ev, ← ev']
      obtain ⟨Hb1, B1, hb1⟩ := src_begins I1 (hqx t)
      obtain ⟨Hb2, B2, hb2⟩ := src_begins I1 (hqy t')
      refine zip_begins2 B1 B2 hb1 hb2 fun h' hz hTI hTO h1 h2 hsz hk => wpAny_pyIter_zip hz ?_
      have I2 : Inv X pins σ H1 { s1 with heap := h' } := I1.kept (t' := s1.toks) hk
      refine ⟨s1.heap.objs.size + 4, [s1.heap.objs.size + 4, s1.heap.objs.size + 2, s1.heap.objs.size + 3, s1.heap.objs.size, s1.heap.objs.size + 1], _, _, H1, rfl, I2,
        turn_zipU (a := f t) (b := g t') (Nat.ne_of_lt (Nat.lt_succ_self _)) (Nat.ne_of_lt (Nat.lt_succ_self _)) (fun b hb z => ?_) (fun b hb z => ?_), ⟨hz, hTI, ⟨_, _, hTO⟩, srcMk h1, srcMk h2⟩, fun c hcm => ?_, q t t'⟩
      · exact absurd (srcLt I1 (hqx t) hb) (by rw [← z]; exact Nat.not_lt.mpr (Nat.le_add_right _ _))
      · exact absurd (srcLt I1 (hqy t') hb) (by rw [← z]; exact Nat.not_lt.mpr (Nat.le_add_right _ _))
      · simp only [List.mem_cons, List.not_mem_nil, or_false] at hcm
        have hle : s1.heap.objs.size ≤ c := by
          rcases hcm with z | z | z | z | z
          · rw [z]; exact Nat.le_add_right _ _
          · rw [z]; exact Nat.le_add_right _ _
          · rw [z]; exact Nat.le_add_right _ _
          · rw [z]; exact Nat.le_refl _
          · rw [z]; exact Nat.le_add_right _ _
        exact I1.fpOk hle (I1.hok.fresh hle)
end VI

set_option Elab.async false
set_option linter.all false
set_option maxRecDepth 100000
set_option maxHeartbeats 2000000
set_option autoImplicit false
namespace VI
open PySem PySem.Spec PyProof.Rows L2

section
variable {K : PySem.W.Frag} {T T' : AP} {σ σ' : L2.St} {H H' : Hp} {m m' : Om} {f f' : Fr}
/-! ### stores -/
theorem Kp.set2 {i : Nat} {s : Slot} {v : Option V} (h : ∀ p l o, f[i]? = some (.own p l o) → p = false ∧ l = false) : Kp f σ (f.set i s) (σ.set i v) where
  pn := fun j l o e => by
    by_cases q : j = i
    · subst q
      exact absurd (h true l o e).1 (by simp)
    · exact ⟨List.getElem?_set_ne (Ne.symm q), l, o, by rw [List.getElem?_set_ne (Ne.symm q)]; exact e⟩
  lk := fun j p o e => by
    by_cases q : j = i
    · subst q
      exact absurd (h p true o e).2 (by simp)
    · exact ⟨List.getElem?_set_ne (Ne.symm q), by rw [List.getElem?_set_ne (Ne.symm q)]; exact e⟩
def slotR : Rt → Slot
  | .v d => .val d
  | .o ob => .own false false ob
theorem sto_is {i : Nat} {r : Rt} (e : sto i r f = some f') : i < f.length ∧ (∀ p l o, f[i]? = some (.own p l o) → p = false ∧ l = false) ∧ f' = f.set i (slotR r) := by
  unfold sto at e
  split at e
  · cases e
  · cases e
  · rename_i s h1 h2 h3
    refine ⟨(List.getElem?_eq_some_iff.mp h3).1, fun p l o q => ?_, by cases e; cases r <;> rfl⟩
    cases p with
    | true => exact (h1 l o (Option.some.inj (h3.symm.trans q))).elim
    | false =>
      cases l with
      | true => exact (h2 false o (Option.some.inj (h3.symm.trans q))).elim
      | false => exact ⟨rfl, rfl⟩
  · cases e
theorem out_less (i : Nat) : ∀ b, BB (m.out i) T b → BB m T b ∨ H b = none := fun b z => .inl (z.elim (fun z => .inl (Om.out_own z)) .inr)
/-- a value is stored -/
theorem Sim.stoV {i : Nat} {d : D} {v : V} {s : Slot} (S : Sim K T σ H f m) (hi : i < f.length) (hs : s = .no ∨ (s = .val d ∧ Rep K (BB m T) H d v)) {o : Option V} (ho : s = .no ∨ o = some v) : Sim K T (σ.set i o) H (f.set i s) (m.out i) := by
  have hσ : i < σ.length := by rw [← S.len]; exact hi
  refine ⟨by rw [List.length_set, List.length_set]; exact S.len, fun j d' q => ?_, fun j p l ob q => ?_, fun j b q => ?_, fun j k b q1 q2 => S.inj j k b (Om.out_some q1).2 (Om.out_some q2).2, fun j b q => S.tmp j b (Om.out_some q).2, S.tr, S.ntp⟩
  · by_cases hj : j = i
    · subst hj
      rw [List.getElem?_set_self hi] at q
      rcases hs with rfl | ⟨rfl, r⟩
      · cases q
      · cases q
        rcases ho with z | rfl
        · cases z
        · exact ⟨v, List.getElem?_set_self hσ, Rep.mv (fun _ _ _ e => e) (out_less j) _ _ r⟩
    · rw [List.getElem?_set_ne (Ne.symm hj)] at q ⊢
      obtain ⟨w, q1, q2⟩ := S.val j d' q
      exact ⟨w, q1, Rep.mv (fun _ _ _ e => e) (out_less i) _ _ q2⟩
  · by_cases hj : j = i
    · subst hj
      rw [List.getElem?_set_self hi] at q
      rcases hs with rfl | ⟨rfl, r⟩ <;> cases q
    · rw [List.getElem?_set_ne (Ne.symm hj)] at q ⊢
      obtain ⟨b, q1, q2, q3⟩ := S.own j p l ob q
      exact ⟨b, by rw [Om.out_ne hj]; exact q1, q2, OwnAt.mv (fun _ _ _ e => e) (out_less i) (fun _ e => e) q3⟩
  · obtain ⟨h1, h2⟩ := Om.out_some q
    obtain ⟨p, l, ob, q1⟩ := S.dom j b h2
    exact ⟨p, l, ob, by rw [List.getElem?_set_ne (Ne.symm h1)]; exact q1⟩
/-- an owned thing, a temporary until now, is stored -/
theorem Sim.stoO {i : Nat} {ob : Ob} {a : Addr} {T2 : AP} (S : Sim K T σ H f m) (ha : T a) (sub : ∀ b, T2 b → T b ∧ b ≠ a) (hi : i < f.length) (ho : OwnAt K (BB m T) H a ob) :
    Sim K T2 (σ.set i (some (.ref a))) H (f.set i (.own false false ob)) ((m.out i).put i a) := by
  have hσ : i < σ.length := by rw [← S.len]; exact hi
  have less : ∀ b, BB ((m.out i).put i a) T2 b → BB m T b ∨ H b = none := fun b z => by
    rcases z with ⟨j, z⟩ | z
    · rcases Om.put_some z with ⟨_, rfl⟩ | ⟨_, z⟩
      · exact .inl (.inr ha)
      · exact .inl (.inl ⟨j, (Om.out_some z).2⟩)
    · exact .inl (.inr (sub b z).1)
  have nm : ∀ j, m j ≠ some a := fun j e => S.tmp j a e ha
  refine ⟨by rw [List.length_set, List.length_set]; exact S.len, fun j d' q => ?_, fun j p l o q => ?_, fun j b q => ?_, fun j k b q1 q2 => ?_, fun j b q => ?_, fun b hb => S.tr b (sub b hb).1, fun b xs hb => S.ntp b xs (sub b hb).1⟩
  · by_cases hj : j = i
    · subst hj
      rw [List.getElem?_set_self hi] at q
      cases q
    · rw [List.getElem?_set_ne (Ne.symm hj)] at q ⊢
      obtain ⟨w, q1, q2⟩ := S.val j d' q
      exact ⟨w, q1, Rep.mv (fun _ _ _ e => e) less _ _ q2⟩
  · by_cases hj : j = i
    · subst hj
      rw [List.getElem?_set_self hi] at q
      cases q
      exact ⟨a, Om.put_same, List.getElem?_set_self hσ, OwnAt.mv (fun _ _ _ e => e) less (fun _ e => e) ho⟩
    · rw [List.getElem?_set_ne (Ne.symm hj)] at q ⊢
      obtain ⟨b, q1, q2, q3⟩ := S.own j p l o q
      exact ⟨b, by rw [Om.put_ne hj, Om.out_ne hj]; exact q1, q2, OwnAt.mv (fun _ _ _ e => e) less (fun _ e => e) q3⟩
  · by_cases hj : j = i
    · subst hj
      exact ⟨false, false, ob, List.getElem?_set_self hi⟩
    · rw [Om.put_ne hj, Om.out_ne hj] at q
      obtain ⟨p, l, o, q1⟩ := S.dom j b q
      exact ⟨p, l, o, by rw [List.getElem?_set_ne (Ne.symm hj)]; exact q1⟩
  · rcases Om.put_some q1 with ⟨h1, e1⟩ | ⟨h1, q1⟩
    · rcases Om.put_some q2 with ⟨h2, e2⟩ | ⟨h2, q2⟩
      · exact h1.trans h2.symm
      · exact absurd (e1 ▸ (Om.out_some q2).2) (nm k)
    · rcases Om.put_some q2 with ⟨h2, e2⟩ | ⟨h2, q2⟩
      · exact absurd (e2 ▸ (Om.out_some q1).2) (nm j)
      · exact S.inj j k b (Om.out_some q1).2 (Om.out_some q2).2
  · intro hb
    rcases Om.put_some q with ⟨_, rfl⟩ | ⟨_, q⟩
    · exact (sub b hb).2 rfl
    · exact S.tmp j b (Om.out_some q).2 (sub b hb).1
theorem step_less (h : ∀ i a, m' i = some a → m i = some a) : Step m T H m' T H := ⟨fun _ _ h _ => h, fun _ ⟨i, e⟩ => .inl ⟨i, h i _ e⟩, fun _ h => .inl h, fun _ h => h⟩

/-! ### targets -/
structure PostT (K : PySem.W.Frag) (T : AP) (σ : L2.St) (H : Hp) (f : Fr) (m : Om) (σ' : L2.St) (f' : Fr) (m' : Om) (mem : Nat → Prop) : Prop where
  sim : Sim K T σ' H f' m'
  ml : ∀ i a, m' i = some a → m i = some a
  kp : Kp f σ f' σ'
  fr : ∀ j, ¬ mem j → σ'[j]? = σ[j]?
  len : σ'.length = σ.length
def tG (K : PySem.W.Frag) (den : D → Fr → Option Fr) (mem : Nat → Prop) : TG := fun v σ H Q => ∃ T f m d f', Sim K T σ H f m ∧ Rep K (BB m T) H d v ∧ den d f = some f' ∧
  ∀ σ' m', PostT K T σ H f m σ' f' m' mem → Q σ' H
def tGs (K : PySem.W.Frag) (den : List D → Fr → Option Fr) (mem : Nat → Prop) : TGs := fun vs σ H Q => ∃ T f m ds f', Sim K T σ H f m ∧ Reps K (BB m T) H ds vs ∧ den ds f = some f' ∧
  ∀ σ' m', PostT K T σ H f m σ' f' m' mem → Q σ' H
theorem PostT.refl {mem : Nat → Prop} (S : Sim K T σ H f m) : PostT K T σ H f m σ f m mem := ⟨S, fun _ _ h => h, Kp.refl, fun _ _ => rfl, rfl⟩
theorem PostT.trans {mem mem2 : Nat → Prop} {σ1 σ2 : L2.St} {f1 f2 : Fr} {m1 m2 : Om} (a : PostT K T σ H f m σ1 f1 m1 mem) (b : PostT K T σ1 H f1 m1 σ2 f2 m2 mem2) : PostT K T σ H f m σ2 f2 m2 fun j => mem j ∨ mem2 j :=
  ⟨b.sim, fun i c h => a.ml i c (b.ml i c h), a.kp.trans b.kp, fun j n => (b.fr j fun z => n (.inr z)).trans (a.fr j fun z => n (.inl z)), b.len.trans a.len⟩
end
mutual
def hasT : Tg → Nat → Prop
  | .nm i, j => j = i
  | .tp ts, j => hasTs ts j
def hasTs : Tgs → Nat → Prop
  | .nil, _ => False
  | .cons t r, j => hasT t j ∨ hasTs r j
end
mutual
theorem tgIn_has {own : List Nat} : ∀ {t : Tg}, tgIn own t = true → ∀ j, hasT t j → j ∈ own
  | .nm i, h, j, e => by
    have e : j = i := e
    rw [e]; simpa [tgIn] using h
  | .tp ts, h, j, e => tgsIn_has (by simpa [tgIn] using h) j e
theorem tgsIn_has {own : List Nat} : ∀ {ts : Tgs}, tgsIn own ts = true → ∀ j, hasTs ts j → j ∈ own
  | .nil, _, _, e => False.elim e
  | .cons t r, h, j, e => by
    simp only [tgsIn, Bool.and_eq_true] at h
    rcases e with e | e
    · exact tgIn_has h.1 j e
    · exact tgsIn_has h.2 j e
end
section
variable {X : Cx} {sx : Sx}
theorem pg_name' {i : Nat} {x : Str} {pos : Pos} (hN : X.N = sx.N.map oS) (nd : X.N.Nodup) (hs : X.env.scope = sx.sc) (hf : ∀ x, sx.top x = true → X.fn x = true) (h1 : slotC sx i x = true) (h2 : stoC sx x = true) : PG X (.Name x pos) (tG X.K (setT (.nm i)) (hasT (.nm i))) := by
  obtain ⟨k1, k2⟩ := VI.sto_of h2
  refine pg_weak (pg_name nd (by rw [hN]; exact slot_of h1) (by rw [hs]; exact k1) (k2.elim (fun z => .inl (hf _ z)) fun z => .inr (by rw [hs]; exact z))) fun v σ H Q ⟨T, f, m, d, f', S, r, e, q⟩ => ?_
  have e : sto i (.v d) f = some f' := e
  obtain ⟨hi, hn, rfl⟩ := sto_is e
  refine q _ (m.out i) ⟨S.stoV hi (.inr ⟨rfl, r⟩) (.inr rfl), fun j a z => (Om.out_some z).2, Kp.set2 hn, fun j n => List.getElem?_set_ne (Ne.symm n), List.length_set ..⟩
theorem assignEach_len {env : Env} : ∀ {es : List Expr}, es.all nst = true → (assignEach es env).length = es.length
  | [], _ => rfl
  | e :: es, h => by
    rw [List.all_cons, Bool.and_eq_true] at h
    cases e <;> first
      | (show (_ :: assignEach es env).length = _; rw [List.length_cons, List.length_cons, assignEach_len h.2])
      | (exfalso; exact Bool.false_ne_true h.1)
theorem assignEach_no {env : Env} : ∀ {es : List Expr}, es.all nst = true → (assignEach es env).findIdx? (·.1) = none
  | [], _ => rfl
  | e :: es, h => by
    rw [List.all_cons, Bool.and_eq_true] at h
    cases e <;> first
      | (show ((false, _) :: assignEach es env).findIdx? (·.1) = none; rw [List.findIdx?_cons]; simp [assignEach_no h.2])
      | (exfalso; exact Bool.false_ne_true h.1)
theorem assignEach_cons {env : Env} {e : Expr} {es : List Expr} (h : nst e = true) : (assignEach (e :: es) env).map (·.2) = assign e env :: (assignEach es env).map (·.2) := by
  cases e <;> first | rfl | (exfalso; exact Bool.false_ne_true h)
theorem mG_nst {t : Tg} {e : Expr} (h : mG sx t e = true) : nst e = true := by
  cases t <;> cases e <;> first | rfl | simp [mG] at h
theorem mGs_nst : ∀ {ts : Tgs} {es : List Expr}, mGs sx ts es = true → es.all nst = true
  | .nil, [], _ => rfl
  | .cons t r, e :: es, h => by
    simp only [mGs, Bool.and_eq_true] at h
    rw [List.all_cons, mG_nst h.1, mGs_nst h.2]; rfl
  | .nil, _ :: _, h => by simp [mGs] at h
  | .cons _ _, [], h => by simp [mGs] at h
theorem setTs_len : ∀ {ts : Tgs} {es : List Expr} {ds : List D} {f f' : Fr}, mGs sx ts es = true → setTs ts ds f = some f' → ds.length = es.length
  | .nil, [], ds, _, _, _, e => by
    cases ds with
    | nil => rfl
    | cons _ _ => simp [setTs] at e
  | .cons t r, x :: es, ds, f, f', h, e => by
    simp only [mGs, Bool.and_eq_true] at h
    cases ds with
    | nil => simp [setTs] at e
    | cons d ds =>
      simp only [setTs, Option.bind_eq_some_iff] at e
      obtain ⟨f1, _, e⟩ := e
      rw [List.length_cons, List.length_cons, setTs_len h.2 e]
  | .nil, _ :: _, _, _, _, h, _ => by simp [mGs] at h
  | .cons _ _, [], _, _, _, h, _ => by simp [mGs] at h
mutual
theorem pg_all (hN : X.N = sx.N.map oS) (nd : X.N.Nodup) (hs : X.env.scope = sx.sc) (hf : ∀ x, sx.top x = true → X.fn x = true) (hc : X.calm = true) : ∀ (t : Tg) (e : Expr), mG sx t e = true → PG X e (tG X.K (setT t) (hasT t))
  | t, e, h => by
    cases t <;> cases e <;> simp [mG] at h
    · exact pg_name' hN nd hs hf h.1 h.2
    · rename_i ts es kk pos
      refine pg_weak (pg_tup (n := es.length) hc (pgs_all hN nd hs hf hc ts es h) (assignEach_len (mGs_nst h)) (assignEach_no (mGs_nst h))) fun v σ H Q ⟨T, f, m, d, f', S, r, e, q⟩ => ?_
      cases d with
      | tup ds =>
        obtain ⟨a, vs, rfl, hb, r⟩ := r
        have e : setTs ts ds f = some f' := e
        exact ⟨a, vs, rfl, hb.sq, by rw [r.length]; exact setTs_len h e, T, f, m, ds, f', S, r, e, q⟩
      | _ => simp [setT] at e
theorem pgs_all (hN : X.N = sx.N.map oS) (nd : X.N.Nodup) (hs : X.env.scope = sx.sc) (hf : ∀ x, sx.top x = true → X.fn x = true) (hc : X.calm = true) : ∀ (ts : Tgs) (es : List Expr), mGs sx ts es = true → PGs X es (tGs X.K (setTs ts) (hasTs ts))
  | .nil, [], h => pgs_weak pgs_nil fun vs σ H Q ⟨T, f, m, ds, f', S, r, e, q⟩ => by
    cases ds with
    | nil =>
      simp only [setTs, Option.some.injEq] at e
      subst e
      exact ⟨r, q σ m (.refl S)⟩
    | cons _ _ => simp [setTs] at e
  | .cons t rt, x :: es, h => by
    simp only [mGs, Bool.and_eq_true] at h
    refine pgs_weak (pgs_cons (pg_all hN nd hs hf hc t x h.1) (pgs_all hN nd hs hf hc rt es h.2) (assignEach_cons (mG_nst h.1))) fun vs σ H Q ⟨T, f, m, ds, f', S, r, e, q⟩ => ?_
    cases ds with
    | nil => simp [setTs] at e
    | cons d ds =>
      simp only [setTs, Option.bind_eq_some_iff] at e
      obtain ⟨f1, e1, e2⟩ := e
      obtain ⟨v, w, rfl, r1, r2⟩ := r
      exact ⟨v, w, rfl, T, f, m, d, f1, S, r1, e1, fun σ1 m1 P1 => ⟨T, f1, m1, ds, f', P1.sim, r2.st (step_less P1.ml), e2, fun σ2 m2 P2 => q σ2 m2 (P1.trans P2)⟩⟩
  | .nil, _ :: _, h => by simp [mGs] at h
  | .cons _ _, [], h => by simp [mGs] at h
end
end
end VI

set_option Elab.async false
set_option linter.all false
set_option maxRecDepth 100000
set_option maxHeartbeats 2000000
set_option autoImplicit false
namespace VI
open PySem PySem.Spec PyProof.Rows L2

section
variable {K : PySem.W.Frag} {T T' : AP} {σ σ' : L2.St} {H H' : Hp} {m m' : Om} {f f' : Fr}
/-! ### locks -/
theorem Sim.flag {i : Nat} {p l l' : Bool} {o : Ob} (S : Sim K T σ H f m) (e : f[i]? = some (.own p l o)) : Sim K T σ H (f.set i (.own p l' o)) m where
  len := by rw [List.length_set]; exact S.len
  val := fun j d q => by
    by_cases hj : j = i
    · subst hj
      rw [List.getElem?_set_self (List.getElem?_eq_some_iff.mp e).1] at q
      cases q
    · rw [List.getElem?_set_ne (Ne.symm hj)] at q
      exact S.val j d q
  own := fun j p2 l2 o2 q => by
    by_cases hj : j = i
    · subst hj
      rw [List.getElem?_set_self (List.getElem?_eq_some_iff.mp e).1] at q
      cases q
      exact S.own j _ _ _ e
    · rw [List.getElem?_set_ne (Ne.symm hj)] at q
      exact S.own j _ _ _ q
  dom := fun j b q => by
    obtain ⟨p2, l2, o2, q1⟩ := S.dom j b q
    by_cases hj : j = i
    · subst hj
      exact ⟨p, l', o, List.getElem?_set_self (List.getElem?_eq_some_iff.mp e).1⟩
    · exact ⟨p2, l2, o2, by rw [List.getElem?_set_ne (Ne.symm hj)]; exact q1⟩
  inj := S.inj
  tmp := S.tmp
  tr := S.tr
  ntp := S.ntp
theorem Kp.flag {i : Nat} {p l : Bool} {o : Ob} (e : f[i]? = some (.own p false o)) : Kp f σ (f.set i (.own p l o)) σ where
  pn := fun j l' o' z => by
    refine ⟨rfl, ?_⟩
    by_cases q : j = i
    · subst q
      rw [e] at z; cases z
      exact ⟨l, o, List.getElem?_set_self (List.getElem?_eq_some_iff.mp e).1⟩
    · exact ⟨l', o', by rw [List.getElem?_set_ne (Ne.symm q)]; exact z⟩
  lk := fun j p' o' z => by
    refine ⟨rfl, ?_⟩
    by_cases q : j = i
    · subst q
      rw [e] at z; cases z
    · rw [List.getElem?_set_ne (Ne.symm q)]; exact z
theorem unlk_get (f : Fr) : ∀ (ls : List Nat) (i : Nat), (unlk f ls)[i]? = f[i]? ∨ (i ∈ ls ∧ ∃ p o, f[i]? = some (.own p true o) ∧ (unlk f ls)[i]? = some (.own p false o))
  | [], i => .inl rfl
  | j :: r, i => by
    have ih := unlk_get f r
    unfold unlk
    split
    · rename_i p o hj
      by_cases hi : i = j
      · subst hi
        have hlt := (List.getElem?_eq_some_iff.mp hj).1
        rw [List.getElem?_set_self hlt]
        rcases ih i with h | ⟨_, p', o', h1, h2⟩
        · exact .inr ⟨List.mem_cons_self .., p, o, h.symm.trans hj, rfl⟩
        · rw [hj] at h2; cases h2
      · rw [List.getElem?_set_ne (Ne.symm hi)]
        rcases ih i with h | ⟨h0, p', o', h1, h2⟩
        · exact .inl h
        · exact .inr ⟨List.mem_cons_of_mem _ h0, p', o', h1, h2⟩
    · rcases ih i with h | ⟨h0, p', o', h1, h2⟩
      · exact .inl h
      · exact .inr ⟨List.mem_cons_of_mem _ h0, p', o', h1, h2⟩
theorem Sim.unlk (S : Sim K T σ H f m) : ∀ (ls : List Nat), Sim K T σ H (unlk f ls) m
  | [] => S
  | j :: r => by
    have ih := Sim.unlk S r
    unfold VI.unlk
    split
    · rename_i p o hj
      exact ih.flag hj
    · exact ih
/-- the locks of a walk are given back: those of the entry stay -/
theorem Kp.unlk {σ2 : L2.St} {f1 f2 : Fr} {ls : List Nat} (a : Kp f σ f1 σ) (b : Kp f1 σ f2 σ2) (n : ∀ i ∈ ls, ∀ p o, f[i]? ≠ some (.own p true o)) : Kp f σ (unlk f2 ls) σ2 where
  pn := fun i l o e => by
    obtain ⟨e1, l1, o1, h1⟩ := (a.trans b).pn i l o e
    refine ⟨e1, ?_⟩
    rcases unlk_get f2 ls i with h | ⟨_, p, o', h2, h3⟩
    · exact ⟨l1, o1, h.trans h1⟩
    · rw [h1] at h2; cases h2
      exact ⟨_, _, h3⟩
  lk := fun i p o e => by
    obtain ⟨e1, h1⟩ := (a.trans b).lk i p o e
    refine ⟨e1, ?_⟩
    rcases unlk_get f2 ls i with h | ⟨h0, _⟩
    · exact h.trans h1
    · exact absurd e (n i h0 p o)

/-! ### a later state -/
/-- a step that may change what is owned or a temporary -/
structure WStep (m : Om) (T : AP) (H : Hp) (m' : Om) (T' : AP) (H' : Hp) : Prop where
  kb : ∀ a o, ¬ BB m T a → H a = some o → H' a = some o
  bb : ∀ a, BB m' T' a → BB m T a ∨ H a = none
  dom : ∀ a, H' a = none → H a = none
theorem Step.w (s : Step m T H m' T' H') : WStep m T H m' T' H' := ⟨s.kb, s.bb, s.dom⟩
theorem WStep.refl : WStep m T H m T H := Step.refl.w
theorem WStep.trans {m1 m2 m3 : Om} {T1 T2 T3 : AP} {H1 H2 H3 : Hp} (a : WStep m1 T1 H1 m2 T2 H2) (b : WStep m2 T2 H2 m3 T3 H3) : WStep m1 T1 H1 m3 T3 H3 where
  kb := fun c o n h => b.kb c o (fun z => (a.bb c z).elim n fun z => by rw [h] at z; cases z) (a.kb c o n h)
  bb := fun c h => by
    rcases b.bb c h with h | h
    · exact a.bb c h
    · exact .inr (a.dom c h)
  dom := fun c h => a.dom c (b.dom c h)
theorem Rep.ws {d : D} {v : V} (h : Rep K (BB m T) H d v) (s : WStep m T H m' T' H') : Rep K (BB m' T') H' d v := Rep.mv s.kb s.bb d v h
structure Lat (K : PySem.W.Frag) (σ : L2.St) (f : Fr) (m : Om) (T : AP) (H : Hp) (ls : List Nat) (σ' : L2.St) (f' : Fr) (m' : Om) (T' : AP) (H' : Hp) : Prop where
  sim : Sim K T' σ' H' f' m'
  step : WStep m T H m' T' H'
  lk : ∀ (i : Nat) (p : Bool) (o : Ob), f[i]? = some (.own p true o) → f'[i]? = f[i]? ∧ σ'[i]? = σ[i]?
theorem Lat.refl {ls : List Nat} (S : Sim K T σ H f m) : Lat K σ f m T H ls σ f m T H := ⟨S, WStep.refl, fun _ _ _ _ => ⟨rfl, rfl⟩⟩
abbrev LP := L2.St → Fr → Om → AP → Hp → Prop
def KindV (v : V) (f : Tok → Src) : Prop := (∃ a, v = .ref a ∧ f = fun _ => .l a) ∨ (∃ a, v = .ref a ∧ f = fun _ => .t a) ∨ ∃ x, v = .str x ∧ f = fun t => .s x t
/-- v is walked over ds at each later state -/
def SrcP (K : PySem.W.Frag) (L : LP) (v : V) (ds : List D) : Prop := ∃ f : Tok → Src, KindV v f ∧ ∀ σ' f' m' T' H', L σ' f' m' T' H' → ∃ xs, (∀ t, SrcQ K H' (f t) xs) ∧ Reps K (BB m' T') H' ds xs
theorem KindV.k {v : V} {fs : Tok → Src} {xs : List V} {R : (Tok → Src) → Prop} (h : KindV v fs) (q : ∀ t, SrcQ K H (fs t) xs) (r : R fs) : SrcK K H v xs R := by
  rcases h with ⟨a, e, rfl⟩ | ⟨a, e, rfl⟩ | ⟨x, e, rfl⟩
  · exact .inl ⟨a, e, q 0, r⟩
  · exact .inr (.inl ⟨a, e, q 0, r⟩)
  · exact .inr (.inr ⟨x, e, q 0, r⟩)
theorem chars_rep {B : AP} (s : List Nat) : Reps K B H (s.map fun c => .str [c]) (chars (tS s)) := by
  have : ∀ s : List Nat, Reps K B H (s.map fun c => .str [c]) (s.map fun c => V.str ⟨#[c]⟩) := fun s => by
    induction s with
    | nil => rfl
    | cons c s ih => exact ⟨_, _, rfl, ⟨rfl, by show 1 ≤ 16777216; decide⟩, ih⟩
  simpa [chars, tS] using this s
theorem src_val {L : LP} {v : V} {d : D} {ds : List D} (r : Rep K (BB m T) H d v) (hL : ∀ σ' f' m' T' H', L σ' f' m' T' H' → WStep m T H m' T' H') (e : walkR (.v d) = some ds) : SrcP K L v ds := by
  cases d with
  | str s =>
    cases e
    obtain ⟨rfl, _⟩ := r
    exact ⟨_, .inr (.inr ⟨_, rfl, rfl⟩), fun _ _ _ _ _ _ => ⟨_, fun _ => rfl, chars_rep s⟩⟩
  | tup es =>
    have e : es = ds := Option.some.inj e
    subst e
    obtain ⟨a, vs, rfl, _⟩ := id r
    refine ⟨_, .inr (.inl ⟨a, rfl, rfl⟩), fun σ' f' m' T' H' h => ?_⟩
    obtain ⟨a', vs', e, hb, rr⟩ := r.ws (hL _ _ _ _ _ h)
    cases e
    exact ⟨vs', fun _ => hb.sq, rr⟩
  | lst es =>
    have e : es = ds := Option.some.inj e
    subst e
    obtain ⟨a, vs, rfl, _⟩ := id r
    refine ⟨_, .inl ⟨a, rfl, rfl⟩, fun σ' f' m' T' H' h => ?_⟩
    obtain ⟨a', vs', e, hb, rr⟩ := r.ws (hL _ _ _ _ _ h)
    cases e
    exact ⟨vs', fun _ => hb.sq, rr⟩
  | non => cases e
  | bl _ => cases e
  | int _ => cases e
theorem SrcP.imp {L L' : LP} {v : V} {ds : List D} (h : SrcP K L v ds) (i : ∀ σ' f' m' T' H', L' σ' f' m' T' H' → L σ' f' m' T' H') : SrcP K L' v ds := by
  obtain ⟨fs, k, q⟩ := h
  exact ⟨fs, k, fun σ' f' m' T' H' h => q σ' f' m' T' H' (i _ _ _ _ _ h)⟩
def tW (K : PySem.W.Frag) (den : Fr → R (List D × List Nat)) : TE := fun σ H Q => ∃ T f m x f', Sim K T σ H f m ∧ den f = .ok x f' ∧
  ∀ v H' m', PostX K T σ H f m f' H' m' T → SrcP K (Lat K σ f' m' T H' x.2) v x.1 → (∀ i ∈ x.2, (∀ p o, f[i]? ≠ some (.own p true o)) ∧ ∃ p o, f'[i]? = some (.own p true o)) → Q v H'
end
section
variable {X : Cx}
theorem pe_evW {e : Expr} {a : Ex} {d : Fr → R Rt} (hv : ∀ i, a = .var i → PE X e (tVar i)) (h : PE X e (tD X.K d)) : PE X e (tW X.K (evW a d)) := by
  by_cases hx : ∃ i, a = .var i
  · obtain ⟨i, rfl⟩ := hx
    refine pe_weak (hv i rfl) fun σ H Q ⟨T, f, m, x, f', S, e, q⟩ => ?_
    unfold evW at e
    simp only at e
    split at e
    · rename_i d hd
      obtain ⟨e5, rfl⟩ := ofO_ok e
      obtain ⟨ds, e6, rfl⟩ := Option.map_eq_some_iff.mp e5
      obtain ⟨v, h1, h2⟩ := S.val i d hd
      exact ⟨v, h1, q v H m (.refl S) (src_val h2 (fun _ _ _ _ _ h => h.step) e6) fun _ h => nomatch h⟩
    · rename_i p ds hd
      cases e
      obtain ⟨ad, e1, e2, r⟩ := S.own i _ _ _ hd
      have hi := (List.getElem?_eq_some_iff.mp hd).1
      refine ⟨_, e2, q _ H m ⟨S.flag hd, Step.refl, fun _ _ h => h, fun _ h => h, Kp.flag hd⟩ ⟨fun _ => .l ad, .inl ⟨ad, rfl, rfl⟩, fun σ' f' m' T' H' L => ?_⟩ fun j hj => ?_⟩
      · obtain ⟨k1, k2⟩ := L.lk i p _ (List.getElem?_set_self hi)
        rw [List.getElem?_set_self hi] at k1
        obtain ⟨b, h1, h2, vs, h3, h4⟩ := L.sim.own i _ _ _ k1
        rw [k2, e2] at h2; cases h2
        exact ⟨vs, fun _ => SqL.of h3, h4⟩
      · have hj : j = i := by simpa using hj
        subst hj
        refine ⟨fun p' o' z => ?_, p, _, List.getElem?_set_self hi⟩
        rw [hd] at z; cases z
    · rename_i p ds hd
      cases e
      obtain ⟨ad, e1, e2, r⟩ := S.own i _ _ _ hd
      refine ⟨_, e2, q _ H m (.refl S) ⟨fun _ => .l ad, .inl ⟨ad, rfl, rfl⟩, fun σ' f' m' T' H' L => ?_⟩ fun _ h => nomatch h⟩
      obtain ⟨k1, k2⟩ := L.lk i p _ hd
      rw [hd] at k1
      obtain ⟨b, h1, h2, vs, h3, h4⟩ := L.sim.own i _ _ _ k1
      rw [k2, e2] at h2; cases h2
      exact ⟨vs, fun _ => SqL.of h3, h4⟩
    · cases e
  · have ea : evW a d = fun f => (d f).bind fun x f1 => ofO f1 ((walkR x).map fun ds => (ds, [])) := by
      funext f
      cases a <;> first | rfl | exact absurd ⟨_, rfl⟩ hx
    rw [ea]
    refine pe_weak h fun σ H Q ⟨T, f, m, x, f', S, e, q⟩ => ?_
    obtain ⟨r, f1, er, e⟩ := bind_ok e
    obtain ⟨e5, rfl⟩ := ofO_ok e
    obtain ⟨ds, e6, rfl⟩ := Option.map_eq_some_iff.mp e5
    refine ⟨T, f, m, r, f', S, er, fun v H' m' T' P hr => q v H' m' P.drop ?_ fun _ h => nomatch h⟩
    cases r with
    | v d => exact src_val (fz_rep S P hr rfl) (fun _ _ _ _ _ h => h.step) e6
    | o ob =>
      cases ob with
      | lst es => exact src_val (fz_rep S P hr rfl) (fun _ _ _ _ _ h => h.step) (d := .lst es) e6
      | dK _ => cases e6
      | dT _ => cases e6
end

/-! ### iterators -/
structure Jd (K : PySem.W.Frag) (L : LP) (J : L2.It) (ds : List D) : Prop where
  go : ∀ σ' f' m' T' H', L σ' f' m' T' H' → ∀ i d, ds[i]? = some d → J.go i H' ∧ ∀ x H'', J.yld i H' x H'' → NewR K (BB m' T') H' (.v d) x H''
  stop : ∀ σ' f' m' T' H', L σ' f' m' T' H' → J.stop ds.length H'
def tI (K : PySem.W.Frag) (den : Fr → R (List D × List Nat)) : TI := fun σ H RR => ∃ T f m x f', Sim K T σ H f m ∧ den f = .ok x f' ∧
  ∀ J H' m', PostX K T σ H f m f' H' m' T → Jd K (Lat K σ f' m' T H' x.2) J x.1 → (∀ i ∈ x.2, (∀ p o, f[i]? ≠ some (.own p true o)) ∧ ∃ p o, f'[i]? = some (.own p true o)) → RR J H'
section
variable {K : PySem.W.Frag} {L : LP}
def ItU (K : PySem.W.Frag) : Src → L2.It
  | .l a => Itl K a
  | .t a => Itt K a
  | .s x _ => Its x
theorem jd_any {v : V} {ds : List D} {fs : Tok → Src} (hk : KindV v fs) (h : ∀ σ' f' m' T' H', L σ' f' m' T' H' → ∃ xs, (∀ t, SrcQ K H' (fs t) xs) ∧ Reps K (BB m' T') H' ds xs) (t : Tok) : Jd K L (ItU K (fs t)) ds where
  go := fun σ' f' m' T' H' l i d e => by
    obtain ⟨xs, hq, r⟩ := h _ _ _ _ _ l
    obtain ⟨x, hx, rx⟩ := r.get e
    have hq := hq t
    rcases hk with ⟨a, _, rfl⟩ | ⟨a, _, rfl⟩ | ⟨s, _, rfl⟩
    · refine ⟨⟨xs, x, hq, hx⟩, fun y H'' ⟨e1, e2⟩ => ?_⟩
      subst e1
      have := e2 xs hq
      rw [hx] at this; cases this
      exact .old rx
    · refine ⟨⟨xs, x, hq, hx⟩, fun y H'' ⟨e1, e2⟩ => ?_⟩
      subst e1
      have := e2 xs hq
      rw [hx] at this; cases this
      exact .old rx
    · have hq : xs = chars s := hq
      subst hq
      simp only [chars, List.getElem?_map, Option.map_eq_some_iff, Array.getElem?_toList] at hx
      obtain ⟨c, hc, rfl⟩ := hx
      refine ⟨?_, fun y H'' ⟨e1, c', hc', e2⟩ => ?_⟩
      · exact (Array.getElem?_eq_some_iff.mp hc).1
      · subst e1
        rw [hc] at hc'; cases hc'
        rw [e2]
        exact .old rx
  stop := fun σ' f' m' T' H' l => by
    obtain ⟨xs, hq, r⟩ := h _ _ _ _ _ l
    have hl := r.length
    have hq := hq t
    rcases hk with ⟨a, _, rfl⟩ | ⟨a, _, rfl⟩ | ⟨s, _, rfl⟩
    · exact ⟨xs, hq, Nat.le_of_eq hl⟩
    · exact ⟨xs, hq, Nat.le_of_eq hl⟩
    · have hq : xs = chars s := hq
      subst hq
      show s.cps.size ≤ ds.length
      rw [← hl]; simp [chars]
theorem enumD_get : ∀ {ds : List D} {n i : Nat} {d : D}, (enumD n ds)[i]? = some d → ∃ e, ds[i]? = some e ∧ d = .tup [.int (n + i : Nat), e]
  | [], _, _, _, h => by simp [enumD] at h
  | e :: ds, n, 0, d, h => by simp [enumD] at h; exact ⟨e, rfl, h.symm⟩
  | e :: ds, n, i + 1, d, h => by
    obtain ⟨e', h1, h2⟩ := enumD_get (ds := ds) (n := n + 1) (i := i) (d := d) (by simpa [enumD] using h)
    exact ⟨e', by simpa using h1, by rw [h2]; congr 4; omega⟩
theorem enumD_len : ∀ (ds : List D) (n : Nat), (enumD n ds).length = ds.length
  | [], _ => rfl
  | _ :: ds, n => by simp [enumD, enumD_len ds]
theorem jd_enum {ds : List D} {fs : Tok → Src} (h : ∀ σ' f' m' T' H', L σ' f' m' T' H' → ∃ xs, (∀ t, SrcQ K H' (fs t) xs) ∧ Reps K (BB m' T') H' ds xs) (t : Tok) : Jd K L (IteU K (fs t)) (enumD 0 ds) where
  go := fun σ' f' m' T' H' l i d e => by
    obtain ⟨xs, hq, r⟩ := h _ _ _ _ _ l
    obtain ⟨d', e', rfl⟩ := enumD_get e
    obtain ⟨x, hx, rx⟩ := r.get e'
    refine ⟨⟨xs, x, hq t, hx⟩, fun y H'' ⟨q, x', e1, hq0, e2, e3⟩ => ?_⟩
    subst e1 e2
    have := e3 xs (hq t)
    rw [hx] at this; cases this
    refine .tup hq0 ⟨_, _, rfl, ?_, _, _, rfl, rx, rfl⟩
    show _ = _
    rw [Nat.zero_add]
  stop := fun σ' f' m' T' H' l => by
    obtain ⟨xs, hq, r⟩ := h _ _ _ _ _ l
    exact ⟨xs, hq t, by rw [enumD_len, r.length]⟩
theorem zipD_get : ∀ {ds es : List D} {i : Nat} {d : D}, (zipD ds es)[i]? = some d → ∃ a b, ds[i]? = some a ∧ es[i]? = some b ∧ d = .tup [a, b]
  | [], _, _, _, h => by simp [zipD] at h
  | _ :: _, [], _, _, h => by simp [zipD] at h
  | a :: ds, b :: es, 0, d, h => by simp [zipD] at h; exact ⟨a, b, rfl, rfl, h.symm⟩
  | a :: ds, b :: es, i + 1, d, h => by
    obtain ⟨x, y, h1, h2, h3⟩ := zipD_get (ds := ds) (es := es) (i := i) (d := d) (by simpa [zipD] using h)
    exact ⟨x, y, by simpa using h1, by simpa using h2, h3⟩
theorem zipD_len : ∀ (ds es : List D), (zipD ds es).length = min ds.length es.length
  | [], _ => by simp [zipD]
  | _ :: _, [] => by simp [zipD]
  | _ :: ds, _ :: es => by simp [zipD, zipD_len ds es, Nat.succ_min_succ]
theorem jd_zip {ds es : List D} {fs gs : Tok → Src} (h : ∀ σ' f' m' T' H', L σ' f' m' T' H' → ∃ xs, (∀ t, SrcQ K H' (fs t) xs) ∧ Reps K (BB m' T') H' ds xs)
    (h' : ∀ σ' f' m' T' H', L σ' f' m' T' H' → ∃ xs, (∀ t, SrcQ K H' (gs t) xs) ∧ Reps K (BB m' T') H' es xs) (t t' : Tok) : Jd K L (ItzU K (fs t) (gs t')) (zipD ds es) where
  go := fun σ' f' m' T' H' l i d e => by
    obtain ⟨xs, hq, r⟩ := h _ _ _ _ _ l
    obtain ⟨ys, hq', r'⟩ := h' _ _ _ _ _ l
    obtain ⟨a, b, e1, e2, rfl⟩ := zipD_get e
    obtain ⟨x, hx, rx⟩ := r.get e1
    obtain ⟨y, hy, ry⟩ := r'.get e2
    refine ⟨⟨xs, ys, x, y, hq t, hq' t', hx, hy⟩, fun z H'' ⟨q, x', y', e1, hq0, e2, e3, e4⟩ => ?_⟩
    subst e1 e2
    have := e3 xs (hq t)
    rw [hx] at this; cases this
    have := e4 ys (hq' t')
    rw [hy] at this; cases this
    exact .tup hq0 ⟨_, _, rfl, rx, _, _, rfl, ry, rfl⟩
  stop := fun σ' f' m' T' H' l => by
    obtain ⟨xs, hq, r⟩ := h _ _ _ _ _ l
    obtain ⟨ys, hq', r'⟩ := h' _ _ _ _ _ l
    have l1 := r.length
    have l2 := r'.length
    refine ⟨xs, ys, hq t, hq' t', ?_⟩
    rw [zipD_len, l1, l2]
    omega
theorem jd_rng (i j : Int) : Jd K L (Itr i (j - i).toNat) (rng i j) where
  go := fun σ' f' m' T' H' l k d e => by
    simp only [rng, List.getElem?_map, Option.map_eq_some_iff] at e
    obtain ⟨n, hn, rfl⟩ := e
    have hl : k < (j - i).toNat := by
      have := (List.getElem?_eq_some_iff.mp hn).1
      simpa using this
    rw [List.getElem?_range hl] at hn
    cases hn
    refine ⟨hl, fun x H'' ⟨e1, e2⟩ => ?_⟩
    subst e1 e2
    exact .old rfl
  stop := fun σ' f' m' T' H' l => by show _ ≤ _; simp [rng]
theorem jd_rngD (i j : Int) : Jd K L (Itc i (-1) (i - j).toNat) (rngD i j) where
  go := fun σ' f' m' T' H' l k d e => by
    simp only [rngD, List.getElem?_map, Option.map_eq_some_iff] at e
    obtain ⟨n, hn, rfl⟩ := e
    have hl : k < (i - j).toNat := by
      have := (List.getElem?_eq_some_iff.mp hn).1
      simpa using this
    rw [List.getElem?_range hl] at hn
    cases hn
    refine ⟨hl, fun x H'' ⟨e1, e2⟩ => ?_⟩
    subst e1 e2
    refine .old ?_
    show V.int _ = V.int _
    congr 1; omega
  stop := fun σ' f' m' T' H' l => by show _ ≤ _; simp [rngD]
end
section
variable {X : Cx} {tg : Expr}
def iAnyU (K : PySem.W.Frag) (te : TE) : TI := fun σ H RR => te σ H fun v H1 => ∃ xs, SrcK K H1 v xs fun f => ∀ t, RR (ItU K (f t)) H1
theorem pi_anyU {e : Expr} {te : TE} (he : PE X e te) : PI X tg e (iAnyU X.K te) := by
  refine ⟨fun pins s σ H R I h => ?_⟩
  refine thn (he.run pins s σ H _ I h) fun v s1 ⟨x, H1, I1, r1, xs, q1⟩ => ?_
  rcases q1 with ⟨a, rfl, hq, q⟩ | ⟨a, rfl, hq, q⟩ | ⟨y, rfl, hq, q⟩
  · cases r1
    obtain ⟨its, rv, p, hz⟩ := I1.list hq
    exact wpAny_pyIter_list p.isList (pi_one (tk := s1.toks) I1 _ (turn_list a _) ⟨_, Heap.get?_push_size _ rfl, rfl, rfl⟩ (q 0))
  · cases r1
    obtain ⟨its, rv, p, hz⟩ := I1.tuple hq
    exact wpAny_pyIter_tuple (show s1.heap.IsTuple a its.toArray from p) (pi_one (tk := s1.toks) I1 _ (turn_tuple a _) ⟨_, Heap.get?_push_size _ rfl, rfl, rfl⟩ (q 0))
  · obtain ⟨t, rfl⟩ := r1
    cases ha : y.cps.all (· < 128)
    · exact wpAny_pyIter_wide ha (pi_one (tk := s1.toks) I1 _ (turn_str _ y t "str_iterator" (.inr rfl)) ⟨_, Heap.get?_push_size _ rfl, rfl, rfl⟩ (q t))
    · exact wpAny_pyIter_ascii ha (pi_one (tk := s1.toks) I1 _ (turn_str _ y t "str_ascii_iterator" (.inl rfl)) ⟨_, Heap.get?_push_size _ rfl, rfl, rfl⟩ (q t))
theorem SrcP.now {K : PySem.W.Frag} {σ : L2.St} {f : Fr} {m : Om} {T : AP} {H : Hp} {ls : List Nat} {v : V} {ds : List D} {RR : (Tok → Src) → Prop} (S : Sim K T σ H f m) (h : SrcP K (Lat K σ f m T H ls) v ds)
    (q : ∀ fs, KindV v fs → (∀ σ' f' m' T' H', Lat K σ f m T H ls σ' f' m' T' H' → ∃ xs, (∀ t, SrcQ K H' (fs t) xs) ∧ Reps K (BB m' T') H' ds xs) → RR fs) : ∃ xs, SrcK K H v xs RR := by
  obtain ⟨fs, hk, hl⟩ := h
  obtain ⟨xs, hq, _⟩ := hl _ _ _ _ _ (.refl S)
  exact ⟨xs, hk.k hq (q fs hk hl)⟩
theorem pi_ex' {e : Expr} {d : Fr → R (List D × List Nat)} (he : PE X e (tW X.K d)) : PI X tg e (tI X.K d) :=
  pi_weak (pi_anyU he) fun σ H RR ⟨T, f, m, x, f', S, e, q⟩ => ⟨T, f, m, x, f', S, e, fun v H' m' P hs hn => hs.now P.sim fun fs hk hl t => q _ H' m' P (jd_any hk hl t) hn⟩
theorem pi_en' {e : Expr} {d : Fr → R (List D × List Nat)} {p pos tpos : Pos} {elts : List Expr} {kk : Nat} (hg : Gl X "enumerate") (hm : X.mg "enumerate" = none) (hn : nst e = true) (he : PE X e (tW X.K d)) :
    PI X (.Tuple elts kk tpos) (.Call (.Name "enumerate" p) [e] [] pos) (tI X.K fun f => (d f).bind fun x f1 => .ok (enumD 0 x.1, x.2) f1) :=
  pi_weak (pi_enumU hg hm (pa_cons he pa_nil (star_cons hn)) (star_cons hn)) fun σ H RR ⟨T, f, m, x, f', S, e, q⟩ => by
    obtain ⟨y, f1, ey, e⟩ := bind_ok e
    cases e
    refine ⟨T, f, m, y, f', S, ey, fun v H' m' P hs hn => ?_⟩
    obtain ⟨xs, h⟩ := hs.now (RR := fun fs => ∀ t, RR (IteU X.K (fs t)) H') P.sim fun fs hk hl t => q _ H' m' P (jd_enum hl t) hn
    exact ⟨v, xs, rfl, h⟩
end

section
variable {X : Cx} {tg : Expr}
theorem pi_zp' {a b : Expr} {da db : Fr → R (List D × List Nat)} {p pos tpos : Pos} {elts : List Expr} {kk : Nat} (hg : Gl X "zip") (hm : X.mg "zip" = none) (hn : nst a = true) (hn2 : nst b = true) (ha : PE X a (tW X.K da)) (hb : PE X b (tW X.K db)) :
    PI X (.Tuple elts kk tpos) (.Call (.Name "zip" p) [a, b] [] pos) (tI X.K fun f => (da f).bind fun x f1 => (db f1).bind fun y f2 => .ok (zipD x.1 y.1, x.2 ++ y.2) f2) :=
  pi_weak (pi_zipU hg hm (pa_cons ha (pa_cons hb pa_nil (star_cons hn2)) (star_cons hn)) (star_cons hn) (star_plain (by rw [List.all_cons, hn2]; rfl))) fun σ H RR ⟨T, f, m, z, f', S, e, q⟩ => by
    obtain ⟨x, f1, ex, e⟩ := bind_ok e
    obtain ⟨y, f2, ey, e⟩ := bind_ok e
    cases e
    refine ⟨T, f, m, x, f1, S, ex, fun v H1 m1 P1 hs1 hn1 => ⟨T, f1, m1, y, f', P1.sim, ey, fun u H2 m2 P2 hs2 hn2 => ?_⟩⟩
    have lkx : ∀ i ∈ x.2, f'[i]? = f1[i]? ∧ ∃ p o, f'[i]? = some (.own p true o) := fun i hi => by
      obtain ⟨_, p', o', h⟩ := hn1 i hi
      have h2 := (P2.kp.lk i p' o' h).2
      exact ⟨h2.trans h.symm, p', o', h2⟩
    have hs1' : SrcP X.K (Lat X.K σ f' m2 T H2 (x.2 ++ y.2)) v x.1 := hs1.imp fun σ' f3 m3 T3 H3 L => ⟨L.sim, P2.step.w.trans L.step, fun i p' o' hi => have h2 := (P2.kp.lk i p' o' hi).2; ⟨(L.lk i p' o' h2).1.trans (h2.trans hi.symm), (L.lk i p' o' h2).2⟩⟩
    have hs2' : SrcP X.K (Lat X.K σ f' m2 T H2 (x.2 ++ y.2)) u y.1 := hs2.imp fun σ' f3 m3 T3 H3 L => ⟨L.sim, L.step, fun i p' o' hi => L.lk i p' o' hi⟩
    have fin : ∀ i ∈ x.2 ++ y.2, (∀ p o, f[i]? ≠ some (.own p true o)) ∧ ∃ p o, f'[i]? = some (.own p true o) := fun i hi => by
      rcases List.mem_append.mp hi with hi | hi
      · exact ⟨(hn1 i hi).1, (lkx i hi).2⟩
      · exact ⟨fun p' o' z => (hn2 i hi).1 p' o' (P1.kp.lk i p' o' z).2, (hn2 i hi).2⟩
    obtain ⟨xs, h⟩ := hs1'.now (RR := fun fs => ∃ ys, SrcK X.K H2 u ys fun gs => ∀ t t', RR (ItzU X.K (fs t) (gs t')) H2) P2.sim fun fs hk hl => hs2'.now P2.sim fun gs hk' hl' t t' => q _ H2 m2 (P1.trans P2) (jd_zip hl hl' t t') fin
    rcases h with ⟨a, e1, h1, ys, h2⟩ | ⟨a, e1, h1, ys, h2⟩ | ⟨a, e1, h1, ys, h2⟩
    · exact ⟨v, u, xs, ys, rfl, .inl ⟨a, e1, h1, h2⟩⟩
    · exact ⟨v, u, xs, ys, rfl, .inr (.inl ⟨a, e1, h1, h2⟩)⟩
    · exact ⟨v, u, xs, ys, rfl, .inr (.inr ⟨a, e1, h1, h2⟩)⟩
theorem pi_r1' {a : Expr} {da : Fr → R Opd} {p pos : Pos} (hg : Gl X "range") (hm : X.mg "range" = none) (hn : nst a = true) (ha : PE X a (tO X.K da)) :
    PI X tg (.Call (.Name "range" p) [a] [] pos) (tI X.K fun f => (da f).bind fun x f1 => match rd f1 x with
      | some (.v (.int j)) => if bnd j = true then .ok (rng 0 j, []) f1 else .bad
      | _ => .bad) :=
  pi_weak (pi_range1 hg hm (pa_cons ha pa_nil (star_cons hn)) (star_cons hn)) fun σ H RR ⟨T, f, m, z, f', S, e, q⟩ => by
    obtain ⟨x, f1, ex, e⟩ := bind_ok e
    split at e
    · rename_i j e1
      split at e
      · rename_i hj
        have hj := bnd_of hj
        cases e
        refine ⟨T, f, m, x, f', S, ex, fun v H' m' T' P hx => ⟨j, ?_, hj.1, hj.2, ?_⟩⟩
        · have h : v = .int j := hx.rd P.sim e1
          rw [h]
        · have := q (Itr 0 (j - 0).toNat) H' m' P.drop (jd_rng 0 j) (fun _ h => nomatch h)
          rw [Int.sub_zero] at this
          exact this
      · cases e
    · cases e
theorem pi_r2' {a b : Expr} {da db : Fr → R Opd} {p pos : Pos} (hg : Gl X "range") (hm : X.mg "range" = none) (hn : nst a = true) (hn2 : nst b = true) (ha : PE X a (tO X.K da)) (hb : PE X b (tO X.K db)) :
    PI X tg (.Call (.Name "range" p) [a, b] [] pos) (tI X.K fun f => (da f).bind fun x f1 => (db f1).bind fun y f2 => match rd f2 x, rd f2 y with
      | some (.v (.int i)), some (.v (.int j)) => if (bnd i && bnd j) = true then .ok (rng i j, []) f2 else .bad
      | _, _ => .bad) :=
  pi_weak (pi_range2 hg hm (pa_cons ha (pa_cons hb pa_nil (star_cons hn2)) (star_cons hn)) (by rw [star_cons hn, star_cons hn2]; rfl) (star_cons hn2)) fun σ H RR ⟨T, f, m, z, f', S, e, q⟩ => by
    obtain ⟨x, f1, ex, e⟩ := bind_ok e
    obtain ⟨y, f2, ey, e⟩ := bind_ok e
    split at e
    · rename_i i j e1 e2
      split at e
      · rename_i hj
        rw [Bool.and_eq_true] at hj
        have hj := And.intro (bnd_of hj.1).1 (And.intro (bnd_of hj.1).2 (bnd_of hj.2))
        cases e
        refine ⟨T, f, m, x, f1, S, ex, fun v H1 m1 T1 P1 h1 => ⟨T1, f1, m1, y, f', P1.sim, ey, fun u H2 m2 T2 P2 h2 => ⟨i, j, ?_, hj, ?_⟩⟩⟩
        · have k1 : v = .int i := (h1.st P1.sim P2).rd P2.sim e1
          have k2 : u = .int j := h2.rd P2.sim e2
          rw [k1, k2]
        · exact q _ H2 m2 (P1.trans P2).drop (jd_rng i j) (fun _ h => nomatch h)
      · cases e
    · cases e
theorem pi_r3' {a b c : Expr} {da db dc : Fr → R Opd} {p pos : Pos} (hg : Gl X "range") (hm : X.mg "range" = none) (hn : nst a = true) (hn2 : nst b = true) (hn3 : nst c = true) (ha : PE X a (tO X.K da)) (hb : PE X b (tO X.K db)) (hc : PE X c (tO X.K dc)) :
    PI X tg (.Call (.Name "range" p) [a, b, c] [] pos) (tI X.K fun f => (da f).bind fun x f1 => (db f1).bind fun y f2 => (dc f2).bind fun z f3 => match rd f3 x, rd f3 y, rd f3 z with
      | some (.v (.int i)), some (.v (.int j)), some (.v (.int k)) => if (decide (k = -1) && bnd i && bnd j) = true then .ok (rngD i j, []) f3 else .bad
      | _, _, _ => .bad) :=
  pi_weak (pi_range3 hg hm (pa_cons ha (pa_cons hb (pa_cons hc pa_nil (star_cons hn3)) (star_cons hn2)) (star_cons hn)) (star_cons hn) (star_plain (by rw [List.all_cons, List.all_cons, hn2, hn3]; rfl))) fun σ H RR ⟨T, f, m, w, f', S, e, q⟩ => by
    obtain ⟨x, f1, ex, e⟩ := bind_ok e
    obtain ⟨y, f2, ey, e⟩ := bind_ok e
    obtain ⟨z, f3, ez, e⟩ := bind_ok e
    split at e
    · rename_i i j k e1 e2 e3
      split at e
      · rename_i hj
        rw [Bool.and_eq_true, Bool.and_eq_true] at hj
        have hj := And.intro (of_decide_eq_true hj.1.1) (And.intro (bnd_of hj.1.2).1 (And.intro (bnd_of hj.1.2).2 (bnd_of hj.2)))
        cases e
        obtain ⟨rfl, b1, b2, b3, b4⟩ := hj
        refine ⟨T, f, m, x, f1, S, ex, fun v H1 m1 T1 P1 h1 => ⟨T1, f1, m1, y, f2, P1.sim, ey, fun u H2 m2 T2 P2 h2 => ⟨T2, f2, m2, z, f', P2.sim, ez, fun w H3 m3 T3 P3 h3 => ⟨i, j, -1, (i - j).toNat, ?_, RgC.neg b1 b2 b3 b4, ?_⟩⟩⟩⟩
        · have k1 : v = .int i := ((h1.st P1.sim P2).st P2.sim P3).rd P3.sim e1
          have k2 : u = .int j := (h2.st P2.sim P3).rd P3.sim e2
          have k3 : w = .int (-1) := h3.rd P3.sim e3
          rw [k1, k2, k3]
        · exact q _ H3 m3 ((P1.trans P2).trans P3).drop (jd_rngD i j) (fun _ h => nomatch h)
      · cases e
    · cases e
end
end VI

set_option Elab.async false
set_option linter.all false
set_option maxRecDepth 100000
set_option maxHeartbeats 2000000
set_option autoImplicit false
namespace VI
open PySem PySem.Spec PyProof.Rows L2

/-! ### wiped slots -/
theorem wipeF_len (f : Fr) : ∀ vs : List Nat, (wipeF f vs).length = f.length
  | [] => rfl
  | v :: vs => by unfold wipeF; rw [List.length_set, wipeF_len f vs]
theorem wipeF_out {f : Fr} {j : Nat} : ∀ {vs : List Nat}, j ∉ vs → (wipeF f vs)[j]? = f[j]?
  | [], _ => rfl
  | v :: vs, h => by
    simp only [List.mem_cons, not_or] at h
    unfold wipeF
    rw [List.getElem?_set_ne (Ne.symm h.1)]
    exact wipeF_out h.2
theorem wipeF_in {f : Fr} {j : Nat} : ∀ {vs : List Nat}, j ∈ vs → ∀ s, (wipeF f vs)[j]? = some s → s = .no
  | v :: vs, h, s, e => by
    unfold wipeF at e
    by_cases hv : v = j
    · subst hv
      by_cases hl : v < (wipeF f vs).length
      · rw [List.getElem?_set_self hl] at e; exact (Option.some.inj e).symm
      · rw [List.getElem?_eq_none (by rw [List.length_set]; omega)] at e; cases e
    · rw [List.getElem?_set_ne hv] at e
      rcases List.mem_cons.mp h with z | z
      · exact absurd z.symm hv
      · exact wipeF_in z s e
theorem wipe_out' {σ : L2.St} {j : Nat} : ∀ {vs : List Nat}, j ∉ vs → (wipe σ vs)[j]? = σ[j]?
  | [], _ => rfl
  | v :: vs, h => by
    simp only [List.mem_cons, not_or] at h
    unfold wipe
    rw [List.getElem?_set_ne (Ne.symm h.1)]
    exact wipe_out' h.2
theorem wipe_in {σ : L2.St} {j : Nat} : ∀ {vs : List Nat}, j ∈ vs → (wipe σ vs)[j]? = if j < σ.length then some none else none
  | v :: vs, h => by
    unfold wipe
    have hl := wipe_length σ vs
    by_cases hv : v = j
    · subst hv
      by_cases hj : v < σ.length
      · rw [List.getElem?_set_self (by rw [hl]; exact hj), if_pos hj]
      · rw [List.getElem?_eq_none (by rw [List.length_set, hl]; omega), if_neg hj]
    · rw [List.getElem?_set_ne hv]
      rcases List.mem_cons.mp h with z | z
      · exact absurd z.symm hv
      · exact wipe_in z
theorem wipe_ext {σ σ' : L2.St} {vs : List Nat} (hl : σ.length = σ'.length) (h : ∀ j, j ∉ vs → σ[j]? = σ'[j]?) : wipe σ vs = wipe σ' vs := by
  apply List.ext_getElem?
  intro j
  by_cases hj : j ∈ vs
  · rw [wipe_in hj, wipe_in hj, hl]
  · rw [wipe_out' hj, wipe_out' hj, h j hj]
theorem wipe_wipe (σ : L2.St) (vs : List Nat) : wipe (wipe σ vs) vs = wipe σ vs := wipe_ext (wipe_length σ vs) fun j hj => wipe_out' hj
theorem unwipe_len (f0 f : Fr) : ∀ vs : List Nat, (unwipe f0 f vs).length = f.length
  | [] => rfl
  | v :: vs => by
    unfold unwipe
    split
    · rw [List.length_set, unwipe_len f0 f vs]
    · exact unwipe_len f0 f vs
theorem unwipe_out {f0 f : Fr} {j : Nat} : ∀ {vs : List Nat}, j ∉ vs → (unwipe f0 f vs)[j]? = f[j]?
  | [], _ => rfl
  | v :: vs, h => by
    simp only [List.mem_cons, not_or] at h
    unfold unwipe
    split
    · rw [List.getElem?_set_ne (Ne.symm h.1)]; exact unwipe_out h.2
    · exact unwipe_out h.2
theorem unwipe_in {f0 f : Fr} (hl : f0.length = f.length) {j : Nat} : ∀ {vs : List Nat}, j ∈ vs → (unwipe f0 f vs)[j]? = f0[j]?
  | v :: vs, h => by
    unfold unwipe
    have hu := unwipe_len f0 f vs
    by_cases hv : v = j
    · subst hv
      split
      · rename_i s hs
        rw [List.getElem?_set_self (by rw [hu, ← hl]; exact (List.getElem?_eq_some_iff.mp hs).1), hs]
      · rename_i hs
        rw [hs, List.getElem?_eq_none]
        rw [hu, ← hl]; exact List.getElem?_eq_none_iff.mp hs
    · have ih : (unwipe f0 f vs)[j]? = f0[j]? := unwipe_in hl ((List.mem_cons.mp h).resolve_left fun z => hv z.symm)
      split
      · rw [List.getElem?_set_ne hv]; exact ih
      · exact ih

section
variable {K : PySem.W.Frag} {T T' : AP} {σ σ' : L2.St} {H H' : Hp} {m m' : Om} {f f' : Fr}
theorem Sim.wipe {vs : List Nat} (S : Sim K T σ H f m) (n : ∀ v ∈ vs, m v = none) (hl : σ'.length = σ.length) (he : ∀ j, j ∉ vs → σ'[j]? = σ[j]?) : Sim K T σ' H (wipeF f vs) m where
  len := by rw [wipeF_len, hl]; exact S.len
  val := fun i d e => by
    by_cases hi : i ∈ vs
    · cases wipeF_in hi _ e
    · rw [wipeF_out hi] at e
      rw [he i hi]
      exact S.val i d e
  own := fun i p l o e => by
    by_cases hi : i ∈ vs
    · cases wipeF_in hi _ e
    · rw [wipeF_out hi] at e
      rw [he i hi]
      exact S.own i p l o e
  dom := fun i a e => by
    have hi : i ∉ vs := fun z => by rw [n i z] at e; cases e
    rw [wipeF_out hi]
    exact S.dom i a e
  inj := S.inj
  tmp := S.tmp
  tr := S.tr
  ntp := S.ntp
theorem noOwn_of {vs : List Nat} (S : Sim K T σ H f m) (h : noOwn f vs = true) : (∀ v ∈ vs, m v = none) ∧ ∀ v ∈ vs, ∀ p l o, f[v]? ≠ some (.own p l o) := by
  have k : ∀ v ∈ vs, ∀ p l o, f[v]? ≠ some (.own p l o) := fun v hv p l o e => by
    have := List.all_eq_true.mp h v hv
    rw [e] at this
    cases this
  refine ⟨fun v hv => ?_, k⟩
  cases e : m v with
  | none => rfl
  | some a =>
    obtain ⟨p, l, o, h2⟩ := S.dom v a e
    exact absurd h2 (k v hv p l o)
/-- a turn's item has come -/
theorem yld_ok {d : D} {x : V} {H'' : Hp} (S : Sim K T σ H f m) (h : NewR K (BB m T) H (.v d) x H'') : Sim K T σ H'' f m ∧ Step m T H m T H'' ∧ Rep K (BB m T) H'' d x := by
  cases h with
  | old r => exact ⟨S, Step.refl, r⟩
  | tup hq r =>
    rename_i ds vs q
    refine ⟨S.new hq, Step.new hq T fun _ h => .inl h, q, vs, rfl, ⟨fun z => ?_, upd_same⟩, Reps.mv (fun a o _ e => by rw [upd_ne (ne_of_none e hq)]; exact e) (fun _ z => .inl z) _ _ r⟩
    rcases z with z | z
    · exact S.owned z hq
    · exact S.tr q z hq
/-- a temporary is changed -/
theorem Sim.wrT {a : Addr} {ho : HO} (S : Sim K T σ H f m) (ha : T a) (hm : ∀ xs, ho ≠ .tup xs := by intro xs z; cases z) : Sim K T σ (upd H a ho) f m where
  len := S.len
  val := fun j d q => by
    obtain ⟨v, q1, q2⟩ := S.val j d q
    exact ⟨v, q1, rep_wr (.inr ha) q2⟩
  own := fun j p l o q => by
    obtain ⟨b, q1, q2, q3⟩ := S.own j p l o q
    have hb : b ≠ a := fun z => S.tmp j b q1 (z ▸ ha)
    exact ⟨b, q1, q2, OwnAt.mv (fun c u nb e => by rw [upd_ne (bb_ne (.inr ha) nb)]; exact e) (fun _ z => .inl z) (fun u e => by rw [upd_ne hb]; exact e) q3⟩
  dom := S.dom
  inj := S.inj
  tmp := S.tmp
  tr := fun b hb => upd_tr (S.tr b hb)
  ntp := fun b xs hb => by
    by_cases hb2 : b = a
    · rw [hb2, upd_same]; intro z; exact hm xs (Option.some.inj z)
    · rw [upd_ne hb2]; exact S.ntp b xs hb
/-- .. behind a state where it was not -/
theorem Step.wr0 {a : Addr} {ho : HO} (s : Step m T H m' T' H') (ha : H a = none) : Step m T H m' T' (upd H' a ho) where
  keep := fun b u e n => by rw [upd_ne (ne_of_none e ha)]; exact s.keep b u e n
  own := s.own
  tmp := s.tmp
  dom := fun b h => by
    by_cases e : b = a
    · rw [e]; exact ha
    · rw [upd_ne e] at h; exact s.dom b h
theorem WStep.wrT {a : Addr} {ho : HO} (s : WStep m T H m' T' H') (hw : T a) : WStep m T H m' T' (upd H' a ho) where
  kb := fun b u n e => by
    have : b ≠ a := fun z => n (.inr (z ▸ hw))
    rw [upd_ne this]; exact s.kb b u n e
  bb := s.bb
  dom := fun b h => by
    by_cases e : b = a
    · subst e; rw [upd_same] at h; cases h
    · rw [upd_ne e] at h; exact s.dom b h
theorem WStep.wr0 {a : Addr} {ho : HO} (s : WStep m T H m' T' H') (ha : H a = none) : WStep m T H m' T' (upd H' a ho) where
  kb := fun b u n e => by rw [upd_ne (ne_of_none e ha)]; exact s.kb b u n e
  bb := s.bb
  dom := fun b h => by
    by_cases e : b = a
    · rw [e]; exact ha
    · rw [upd_ne e] at h; exact s.dom b h
end

/-! ### the states of a comprehension's loop -/
/-- what a loop stands on: the whole's entry, this loop's entry -/
structure LB where
  D : Addr
  T : AP
  σw : L2.St
  fw : Fr
  mb : Om
  Tb : AP
  Hb : Hp
  m0 : Om
  T0 : AP
  H0 : Hp
  vs : List Nat
structure LB.Ok (b : LB) : Prop where
  D0 : b.H0 b.D = none
  DT : b.T b.D
  Db : b.Hb b.D = none ∨ b.Tb b.D
  nv : ∀ v ∈ b.vs, b.mb v = none
/-- within a turn (σ2: the targets stored) -/
structure LM (K : PySem.W.Frag) (b : LB) (σ2 : L2.St) (f : Fr) (m : Om) (acc : List D) (H : Hp) : Prop where
  sim : Sim K b.T σ2 H f m
  st : Step b.m0 b.T0 b.H0 m b.T H
  ws : WStep b.mb b.Tb b.Hb m b.T H
  ml : ∀ i a, m i = some a → b.mb i = some a
  kp : Kp b.fw b.σw f σ2
  ow : OwnAt K (BB m b.T) H b.D (.lst acc)
  off : ∀ j, j ∉ b.vs → σ2[j]? = b.σw[j]?
  len : σ2.length = b.σw.length
section
variable {K : PySem.W.Frag} {b : LB} {σ2 : L2.St} {H H' : Hp} {m m' : Om} {f f' : Fr} {acc : List D}
theorem LM.no (h : LM K b σ2 f m acc H) (ok : b.Ok) : ∀ v ∈ b.vs, m v = none := fun v hv => by
  cases e : m v with
  | none => rfl
  | some a => rw [← h.ml v a e, ok.nv v hv]
theorem LM.step (h : LM K b σ2 f m acc H) (ok : b.Ok) (P : PostX K b.T σ2 H f m f' H' m' b.T) : LM K b σ2 f' m' acc H' :=
  ⟨P.sim, h.st.trans P.step, h.ws.trans P.step.w, fun i a e => h.ml i a (P.ml i a e), h.kp.trans P.kp, h.ow.st (h.sim.nt ok.DT) P.step, h.off, h.len⟩
theorem LM.yld {d : D} {x : V} (h : LM K b σ2 f m acc H) (ok : b.Ok) (y : NewR K (BB m b.T) H (.v d) x H') : LM K b σ2 f m acc H' ∧ Rep K (BB m b.T) H' d x := by
  obtain ⟨h1, h2, h3⟩ := yld_ok h.sim y
  exact ⟨⟨h1, h.st.trans h2, h.ws.trans h2.w, h.ml, h.kp, h.ow.st (h.sim.nt ok.DT) h2, h.off, h.len⟩, h3⟩
/-- the loop's own slots forgotten, in one store or another -/
theorem LM.wipe {σ3 : L2.St} (h : LM K b σ2 f m acc H) (ok : b.Ok) (hl : σ3.length = b.σw.length) (he : ∀ j, j ∉ b.vs → σ3[j]? = b.σw[j]?) : LM K b σ3 (wipeF f b.vs) m acc H := by
  have no := h.no ok
  have nf : ∀ v ∈ b.vs, ∀ p l o, f[v]? ≠ some (.own p l o) := fun v hv p l o e => by
    obtain ⟨a, e1, _⟩ := h.sim.own v p l o e
    rw [no v hv] at e1; cases e1
  have he' : ∀ j, j ∉ b.vs → σ3[j]? = σ2[j]? := fun j hj => (he j hj).trans (h.off j hj).symm
  refine ⟨h.sim.wipe no (hl.trans h.len.symm) he', h.st, h.ws, h.ml, h.kp.trans ⟨fun i l o e => ?_, fun i p o e => ?_⟩, h.ow, he, hl⟩
  · have hi : i ∉ b.vs := fun z => nf i z _ _ _ e
    exact ⟨he' i hi, l, o, by rw [wipeF_out hi]; exact e⟩
  · have hi : i ∉ b.vs := fun z => nf i z _ _ _ e
    exact ⟨he' i hi, by rw [wipeF_out hi]; exact e⟩
/-- a target is stored -/
theorem LM.tgt {mem : Nat → Prop} {σ3 : L2.St} (h : LM K b σ2 f m acc H) (ok : b.Ok) (hm : ∀ j, mem j → j ∈ b.vs) (P : PostT K b.T σ2 H f m σ3 f' m' mem) : LM K b σ3 f' m' acc H :=
  ⟨P.sim, h.st.trans (step_less P.ml), h.ws.trans (step_less P.ml).w, fun i a e => h.ml i a (P.ml i a e), h.kp.trans P.kp, h.ow.st (h.sim.nt ok.DT) (step_less P.ml), fun j hj => (P.fr j fun z => hj (hm j z)).trans (h.off j hj), P.len.trans h.len⟩
/-- an item is appended -/
theorem LM.app {d : D} {y : V} (h : LM K b σ2 f m acc H) (ok : b.Ok) (r : Rep K (BB m b.T) H d y) : ∃ xs, H b.D = some (.lst xs) ∧ xs.length = acc.length ∧ LM K b σ2 f m (acc ++ [d]) (upd H b.D (.lst (xs ++ [y]))) := by
  obtain ⟨xs, e, rr⟩ := h.ow
  refine ⟨xs, e, rr.length, h.sim.wrT ok.DT, h.st.wr0 ok.D0, ?_, h.ml, h.kp, ⟨_, upd_same, reps_wr (.inr ok.DT) (rr.append (.one r))⟩, h.off, h.len⟩
  rcases ok.Db with z | z
  · exact h.ws.wr0 z
  · exact h.ws.wrT z
/-- at a turn's beginning -/
abbrev LI (K : PySem.W.Frag) (b : LB) (f : Fr) (m : Om) (acc : List D) (H : Hp) : Prop := LM K b b.σw f m acc H
theorem LM.li (h : LM K b σ2 f m acc H) (ok : b.Ok) : LI K b (wipeF f b.vs) m acc H := h.wipe ok rfl fun _ _ => rfl
end

/-! ### the turns -/
section
variable {K : PySem.W.Frag} {b : LB}
/-- the store and the tests of a turn -/
theorem lc_pre {tg : Tg} {dc : Fr → R Bool} {d : D} {x : V} {f f2 f3 : Fr} {m : Om} {acc : List D} {H : Hp} {k : Bool} {Z : L2.St → Bool → Hp → Prop} (ok : b.Ok) (ht : ∀ j, hasT tg j → j ∈ b.vs) (hσ : wipe b.σw b.vs = b.σw) (h : LI K b f m acc H) (r : Rep K (BB m b.T) H d x)
    (e2 : setT tg d (wipeF f b.vs) = some f2) (e3 : dc f2 = .ok k f3) (q : ∀ σ2 m3 H3, LM K b σ2 f3 m3 acc H3 → Z σ2 k H3) :
    tG K (setT tg) (hasT tg) x b.σw H fun σ2 H2 => wipe σ2 b.vs = b.σw ∧ tTD K dc σ2 H2 fun k H3 => Z σ2 k H3 := by
  have h1 := h.li ok
  refine ⟨b.T, wipeF f b.vs, m, d, f2, h1.sim, r, e2, fun σ2 m2 P2 => ⟨?_, ?_⟩⟩
  · exact (wipe_ext P2.len fun j hj => P2.fr j fun z => hj (ht j z)).trans hσ
  · have h2 := h1.tgt ok ht P2
    exact ⟨b.T, f2, m2, k, f3, h2.sim, e3, fun H3 m3 P3 => q σ2 m3 H3 (h2.step ok P3)⟩
/-- the item of a turn -/
theorem lc_elt {de : Fr → R Rt} {σ2 : L2.St} {f3 f4 : Fr} {m3 : Om} {acc : List D} {H3 : Hp} {r : Rt} {y : D} {Nx : Hp → Prop} (ok : b.Ok) (h : LM K b σ2 f3 m3 acc H3) (e4 : de f3 = .ok r f4) (e5 : fz r = some y) (hl : acc.length < Lm)
    (q : ∀ m4 H4, LM K b σ2 f4 m4 (acc ++ [y]) H4 → Nx H4) : tD K de σ2 H3 fun v H4 => ∃ xs, H4 b.D = some (.lst xs) ∧ xs.length < sizeLine ∧ Nx (upd H4 b.D (.lst (xs ++ [v]))) :=
  ⟨b.T, f3, m3, r, f4, h.sim, e4, fun v H4 m4 T4 P4 hr => by
    have r1 := fz_rep h.sim P4 hr e5
    obtain ⟨xs, h1, h2, h3⟩ := (h.step ok P4.drop).app ok r1
    exact ⟨xs, h1, by rw [h2, lm_eq]; exact hl, q m4 _ h3⟩⟩
abbrev lcTurn (own : List Nat) (tg : Tg) (dc : Fr → R Bool) (de : Fr → R Rt) (d : D) (f : Fr) : R (Option D) := match setT tg d (wipeF f own) with
  | none => .bad
  | some f2 => (dc f2).bind fun k f3 => if k then (de f3).bind fun r f4 => (match fz r with | some y => .ok (some y) (wipeF f4 own) | none => .bad) else .ok none (wipeF f3 own)
/-- a whole loop -/
theorem lc_loop {tg : Tg} {dc : Fr → R Bool} {de : Fr → R Rt} {J : L2.It} {ls : List Nat} {ds accF : List D} {fF : Fr} {σb : L2.St} {fb : Fr} {Qe : Hp → Prop} (ok : b.Ok) (ht : ∀ j, hasT tg j → j ∈ b.vs) (hσ : b.σw = wipe σb b.vs)
    (hfw : b.fw = wipeF fb b.vs) (hno : ∀ v ∈ b.vs, ∀ p l o, fb[v]? ≠ some (.own p l o)) (jd : Jd K (Lat K σb fb b.mb b.Tb b.Hb ls) J ds) (hls : ∀ i ∈ ls, ∃ p o, fb[i]? = some (.own p true o))
    {f1 : Fr} {m1 : Om} {acc1 : List D} {H1 : Hp} (h1 : LI K b f1 m1 acc1 H1) (e : lcGo (lcTurn b.vs tg dc de) ds acc1 f1 = .ok accF fF)
    (q : ∀ m2 H2, LI K b fF m2 accF H2 → Qe H2) :
    ∃ W : Nat → Nat → Hp → Prop, (∃ n, W 0 n H1) ∧ ∀ i n H, W i n H →
      (J.stop i H ∧ Qe H) ∨ (J.go i H ∧ ∃ Nx : Hp → Prop, (∀ H', Nx H' → ∃ n', n' < n ∧ W (i + 1) n' H') ∧ ∀ x H', J.yld i H x H' → tG K (setT tg) (hasT tg) x b.σw H' fun σ2 H2 => wipe σ2 b.vs = b.σw ∧ tTD K dc σ2 H2 fun k H3 =>
        if k = true then tD K de σ2 H3 fun y H4 => ∃ acc, H4 b.D = some (.lst acc) ∧ acc.length < sizeLine ∧ Nx (upd H4 b.D (.lst (acc ++ [y]))) else Nx H3) := by
  have hσ2 : wipe b.σw b.vs = b.σw := by rw [hσ, wipe_wipe]
  have lat : ∀ {f m acc H}, LI K b f m acc H → Lat K σb fb b.mb b.Tb b.Hb ls b.σw f m b.T H := fun {f m acc H} h => ⟨h.sim, h.ws, fun i p o ei => by
    have hv : i ∉ b.vs := fun z => hno i z _ _ _ ei
    have e2 : b.fw[i]? = some (.own p true o) := by rw [hfw, wipeF_out hv]; exact ei
    exact ⟨(h.kp.lk i p o e2).2.trans ei.symm, by rw [hσ, wipe_out' hv]⟩⟩
  refine ⟨fun i n H => n = ds.length - i ∧ i ≤ ds.length ∧ ∃ f m acc, LI K b f m acc H ∧ lcGo (lcTurn b.vs tg dc de) (ds.drop i) acc f = .ok accF fF, ⟨ds.length, rfl, Nat.zero_le _, f1, m1, acc1, h1, by simpa using e⟩, ?_⟩
  rintro i n H ⟨rfl, hi, f, m, acc, h, e⟩
  by_cases hlt : i < ds.length
  · have ei := List.getElem?_eq_getElem hlt
    obtain ⟨g1, g2⟩ := jd.go _ _ _ _ _ (lat h) i _ ei
    rw [List.drop_eq_getElem_cons hlt] at e
    simp only [lcGo] at e
    obtain ⟨o, f5, e1, e⟩ := bind_ok e
    unfold lcTurn at e1
    split at e1
    · cases e1
    · rename_i f2 e2
      obtain ⟨k, f3, e3, e1⟩ := bind_ok e1
      refine .inr ⟨g1, fun H' => (∃ f m acc, LI K b f m acc H' ∧ lcGo (lcTurn b.vs tg dc de) (ds.drop (i + 1)) acc f = .ok accF fF), fun H' ⟨f', m', acc', h', e'⟩ => ⟨ds.length - (i + 1), by omega, rfl, hlt, f', m', acc', h', e'⟩, fun x H' y => ?_⟩
      obtain ⟨h', r⟩ := h.yld ok (g2 x H' y)
      refine lc_pre ok ht hσ2 h' r e2 e3 fun σ2 m3 H3 h3 => ?_
      cases k with
      | true =>
        simp only [if_true] at e1 ⊢
        obtain ⟨r4, f4, e4, e1⟩ := bind_ok e1
        split at e1
        · rename_i y5 e5
          cases e1
          simp only at e
          split at e
          · rename_i hl
            exact lc_elt (Nx := fun H' => ∃ f m acc, LI K b f m acc H' ∧ lcGo (lcTurn b.vs tg dc de) (ds.drop (i + 1)) acc f = .ok accF fF) ok h3 e4 e5 hl fun m4 H4 h4 => ⟨_, m4, _, h4.li ok, e⟩
          · cases e
        · cases e1
      | false =>
        simp only [Bool.false_eq_true, if_false] at e1 ⊢
        cases e1
        exact ⟨_, m3, acc, h3.li ok, e⟩
  · have hi' : i = ds.length := by omega
    subst hi'
    rw [List.drop_length] at e
    cases e
    exact .inl ⟨jd.stop _ _ _ _ _ (lat h), q m H h⟩
end
section
variable {K : PySem.W.Frag} {T : AP} {σ : L2.St} {H H1 H2 : Hp} {m m1 m2 : Om} {f f1 f2 : Fr} {vs ls : List Nat} {D0 : Addr} {acc : List D}
/-- the first loop's base -/
def lb0 (D0 : Addr) (T : AP) (σ : L2.St) (f1 : Fr) (m1 : Om) (H1 : Hp) (vs : List Nat) : LB := ⟨D0, TT1 T D0, wipe σ vs, wipeF f1 vs, m1, T, H1, m1, T, H1, vs⟩
theorem lb0_ok (S : Sim K T σ H1 f1 m1) (hD : H1 D0 = none) (n : ∀ v ∈ vs, m1 v = none) : (lb0 D0 T σ f1 m1 H1 vs).Ok := ⟨hD, .inr rfl, .inl hD, n⟩
theorem lb0_li (S : Sim K T σ H1 f1 m1) (hD : H1 D0 = none) (n : ∀ v ∈ vs, m1 v = none) : LI K (lb0 D0 T σ f1 m1 H1 vs) (wipeF f1 vs) m1 [] (upd H1 D0 (.lst [])) := by
  have s : Step m1 T H1 m1 (TT1 T D0) (upd H1 D0 (.lst [])) := Step.new hD _ fun _ h => h
  exact ⟨(S.newT hD).wipe n (wipe_length σ vs) fun j hj => wipe_out' hj, s, s.w, fun _ _ h => h, Kp.refl, ⟨[], upd_same, rfl⟩, fun _ _ => rfl, rfl⟩
/-- the comprehension's end -/
theorem lc_fin (S : Sim K T σ H f m) (P : PostX K T σ H f m f1 H1 m1 T) (hD : H1 D0 = none) (no : ∀ v ∈ vs, ∀ p l o, f1[v]? ≠ some (.own p l o)) (hls : ∀ i ∈ ls, (∀ p o, f[i]? ≠ some (.own p true o)) ∧ ∃ p o, f1[i]? = some (.own p true o))
    (h : LI K (lb0 D0 T σ f1 m1 H1 vs) f2 m2 acc H2) : PostX K T σ H f m (unlk (unwipe f1 f2 vs) ls) H2 m2 (TT1 T D0) ∧ RtP K T H H2 m2 (TT1 T D0) (.ref D0) (.o (.lst acc)) := by
  have S1 := P.sim
  have hs := h.sim
  have hl : f1.length = f2.length := by rw [S1.len, hs.len]; exact (wipe_length σ vs).symm
  have st : Step m1 T H1 m2 (TT1 T D0) H2 := h.st
  have w : ∀ j, j ∉ vs → (wipe σ vs)[j]? = σ[j]? := fun j hj => wipe_out' hj
  have sim : Sim K (TT1 T D0) σ H2 (unwipe f1 f2 vs) m2 := by
    refine ⟨by rw [unwipe_len, ← hl]; exact S1.len, fun j d q => ?_, fun j p l o q => ?_, fun j a q => ?_, hs.inj, hs.tmp, hs.tr, hs.ntp⟩
    · by_cases hj : j ∈ vs
      · rw [unwipe_in hl hj] at q
        obtain ⟨v, h1, h2⟩ := S1.val j d q
        exact ⟨v, h1, h2.st st⟩
      · rw [unwipe_out hj] at q
        obtain ⟨v, h1, h2⟩ := hs.val j d q
        exact ⟨v, (w j hj).symm.trans h1, h2⟩
    · by_cases hj : j ∈ vs
      · rw [unwipe_in hl hj] at q
        exact absurd q (no j hj p l o)
      · rw [unwipe_out hj] at q
        obtain ⟨a, h1, h2, h3⟩ := hs.own j p l o q
        exact ⟨a, h1, (w j hj).symm.trans h2, h3⟩
    · obtain ⟨p, l, o, h1⟩ := hs.dom j a q
      have hj : j ∉ vs := fun z => by
        obtain ⟨p2, l2, o2, h2⟩ := S1.dom j a (h.ml j a q)
        exact no j z p2 l2 o2 h2
      exact ⟨p, l, o, by rw [unwipe_out hj]; exact h1⟩
  have kp : Kp f1 σ (unwipe f1 f2 vs) σ := by
    refine ⟨fun i l o e => ?_, fun i p o e => ?_⟩
    · have hi : i ∉ vs := fun z => no i z _ _ _ e
      obtain ⟨_, l', o', h2⟩ := h.kp.pn i l o (by show (wipeF f1 vs)[i]? = _; rw [wipeF_out hi]; exact e)
      exact ⟨rfl, l', o', by rw [unwipe_out hi]; exact h2⟩
    · have hi : i ∉ vs := fun z => no i z _ _ _ e
      obtain ⟨_, h2⟩ := h.kp.lk i p o (by show (wipeF f1 vs)[i]? = _; rw [wipeF_out hi]; exact e)
      exact ⟨rfl, by rw [unwipe_out hi]; exact h2⟩
  exact ⟨⟨sim.unlk ls, P.step.trans st, fun i a e => P.ml i a (h.ml i a e), fun a z => .inl z, Kp.unlk P.kp kp fun i hi => (hls i hi).1⟩, D0, rfl, P.step.dom D0 hD, rfl, h.ow⟩
end
section
variable {X : Cx}
theorem lc_weak {K : PySem.W.Frag} {own : List (Str × Nat)} {t : Tg} {di : Fr → R (List D × List Nat)} {dc : Fr → R Bool} {de : Fr → R Rt} (hown : tgIn (own.map (·.2)) t = true) {σ : L2.St} {H : Hp} {Q : VK} (w : tD K (fun f => (di f).bind fun dl f1 => if noOwn f1 (own.map (·.2)) then
      (lcGo (lcTurn (own.map (·.2)) t dc de) dl.1 [] (wipeF f1 (own.map (·.2)))).bind fun acc f5 => .ok (.o (.lst acc)) (unlk (unwipe f1 f5 (own.map (·.2))) dl.2)
      else .bad) σ H Q) : tLc (tI K di) (tG K (setT t) (hasT t)) (tTD K dc) (tD K de) (own.map (·.2)) σ H Q := by
    obtain ⟨T, f, m, r, f', S, e, q⟩ := w
    obtain ⟨dl, f1, e1, e⟩ := bind_ok e
    split at e
    · rename_i hno
      obtain ⟨acc, f5, e2, e⟩ := bind_ok e
      cases e
      refine ⟨T, f, m, dl, f1, S, e1, fun J H1 m1 P1 jd hn D0 hD => ?_⟩
      obtain ⟨n1, n2⟩ := noOwn_of P1.sim hno
      exact lc_loop (b := lb0 D0 T σ f1 m1 H1 (own.map fun (x : Str × Nat) => x.2)) (lb0_ok P1.sim hD n1) (show ∀ j, hasT t j → j ∈ own.map (·.2) from tgIn_has hown) rfl rfl n2 jd (fun i hi => (hn i hi).2) (lb0_li P1.sim hD n1) e2
        fun m2 H2 h2 => by
          obtain ⟨p1, p2⟩ := lc_fin S P1 hD n2 hn h2
          exact q _ H2 m2 _ p1 p2
    · cases e
theorem pe_lc' {elt tg iter : Expr} {ifs : List Expr} {scope : Scope} {own : List (Str × Nat)} {pos : Pos} {t : Tg} {di : Fr → R (List D × List Nat)} {dc : Fr → R Bool} {de : Fr → R Rt} (hc : X.calm = true) (hN : X.N.Nodup) (hi : PI X tg iter (tI X.K di)) (ok : BlkOk X.N X.env.scope scope own)
    (hown : tgIn (own.map (·.2)) t = true)
    (hg : ∀ (s : Shared) (H : Hp) (C : Addr) (cl : List (Str × Addr)) (fp : List Addr), PG (X.blk s H scope (compEnvC scope cl C X.env) fp) tg (tG X.K (setT t) (hasT t))) (ht : ∀ (s : Shared) (H : Hp) (C : Addr) (cl : List (Str × Addr)) (fp : List Addr), PTs (X.blk s H scope (compEnvC scope cl C X.env) fp) ifs (tTD X.K dc))
    (he : ∀ (s : Shared) (H : Hp) (C : Addr) (cl : List (Str × Addr)) (fp : List Addr), PE (X.blk s H scope (compEnvC scope cl C X.env) fp) elt (tD X.K de)) (hs : ∀ x, foldedSetIterable iter X.env x = pure x) :
    PE X (.ListComp elt [⟨tg, iter, ifs, 0⟩] scope pos) (tD X.K fun f => (di f).bind fun dl f1 => if noOwn f1 (own.map (·.2)) then
      (lcGo (lcTurn (own.map (·.2)) t dc de) dl.1 [] (wipeF f1 (own.map (·.2)))).bind fun acc f5 => .ok (.o (.lst acc)) (unlk (unwipe f1 f5 (own.map (·.2))) dl.2)
      else .bad) :=
  pe_weak (pe_lc hc hN hi ok hg ht he hs) fun σ H Q w => lc_weak hown w
end

/-! ### two clauses -/
abbrev lcTurn2 (own own1 : List Nat) (tg tg1 : Tg) (dc : Fr → R Bool) (di : Fr → R (List D × List Nat)) (dc1 : Fr → R Bool) (de : Fr → R Rt) (d : D) (acc : List D) (f : Fr) : R (List D) := match setT tg d (wipeF f own) with
  | none => .bad
  | some f2 => (dc f2).bind fun k f3 => if k then (di f3).bind fun el f4 =>
      (lcGo (lcTurn own1 tg1 dc1 de) el.1 acc (wipeF f4 own1)).bind fun acc1 f8 => .ok acc1 (wipeF (unlk f8 el.2) own)
    else .ok acc (wipeF f3 own)
section
variable {K : PySem.W.Frag} {b : LB}
/-- the second loop's base -/
def lb1 (b : LB) (σ2 : L2.St) (f4 : Fr) (m4 : Om) (H4 : Hp) (vs1 : List Nat) : LB := ⟨b.D, b.T, wipe σ2 vs1, wipeF f4 vs1, m4, b.T, H4, b.m0, b.T0, b.H0, vs1⟩
theorem lb1_ok {σ2 : L2.St} {f4 : Fr} {m4 : Om} {acc : List D} {H4 : Hp} {vs1 : List Nat} (ok : b.Ok) (hv : ∀ v ∈ vs1, v ∈ b.vs) (h : LM K b σ2 f4 m4 acc H4) : (lb1 b σ2 f4 m4 H4 vs1).Ok := ⟨ok.D0, ok.DT, .inr ok.DT, fun v z => h.no ok v (hv v z)⟩
theorem lb1_li {σ2 : L2.St} {f4 : Fr} {m4 : Om} {acc : List D} {H4 : Hp} {vs1 : List Nat} (ok : b.Ok) (hv : ∀ v ∈ vs1, v ∈ b.vs) (h : LM K b σ2 f4 m4 acc H4) : LI K (lb1 b σ2 f4 m4 H4 vs1) (wipeF f4 vs1) m4 acc H4 :=
  ⟨h.sim.wipe (fun v z => h.no ok v (hv v z)) (wipe_length σ2 vs1) fun j hj => wipe_out' hj, h.st, WStep.refl, fun _ _ h => h, Kp.refl, h.ow, fun _ _ => rfl, rfl⟩
theorem lb1_end {σ2 : L2.St} {f3 f4 f8 : Fr} {m3 m4 m8 : Om} {acc acc8 : List D} {H3 H4 H8 : Hp} {vs1 ls : List Nat} (ok : b.Ok) (hv : ∀ v ∈ vs1, v ∈ b.vs) (h3 : LM K b σ2 f3 m3 acc H3) (P : PostX K b.T σ2 H3 f3 m3 f4 H4 m4 b.T) (hls : ∀ i ∈ ls, (∀ p o, f3[i]? ≠ some (.own p true o)) ∧ ∃ p o, f4[i]? = some (.own p true o))
    (h8 : LI K (lb1 b σ2 f4 m4 H4 vs1) f8 m8 acc8 H8) : LI K b (wipeF (unlk f8 ls) b.vs) m8 acc8 H8 := by
  have h4 := h3.step ok P
  have w4 : ∀ {i : Nat} {p l : Bool} {o : Ob}, f4[i]? = some (Slot.own p l o) → (wipeF f4 vs1)[i]? = some (Slot.own p l o) := fun {i p l o} e => by
    rw [wipeF_out fun z => ?_]
    · exact e
    · obtain ⟨a, e1, _⟩ := h4.sim.own i p l o e
      rw [h4.no ok i (hv i z)] at e1; cases e1
  have off : ∀ j, j ∉ b.vs → (wipe σ2 vs1)[j]? = b.σw[j]? := fun j hj => by
    rw [wipe_out' fun z => hj (hv j z)]
    exact h4.off j hj
  have len : (wipe σ2 vs1).length = b.σw.length := (wipe_length σ2 vs1).trans h4.len
  have k8 : Kp f4 σ2 f8 (wipe σ2 vs1) := by
    have nn : ∀ {i : Nat} {p l : Bool} {o : Ob}, f4[i]? = some (Slot.own p l o) → i ∉ vs1 := fun {i p l o} e z => by
      obtain ⟨a, e1, _⟩ := h4.sim.own i p l o e
      rw [h4.no ok i (hv i z)] at e1; cases e1
    exact ⟨fun i l o e => ⟨wipe_out' (nn e), (h8.kp.pn i l o (w4 e)).2⟩, fun i p o e => ⟨wipe_out' (nn e), (h8.kp.lk i p o (w4 e)).2⟩⟩
  have kp : Kp b.fw b.σw (unlk f8 ls) (wipe σ2 vs1) := by
    refine ⟨fun i l o e => ?_, fun i p o e => ?_⟩
    · obtain ⟨e1, l1, o1, z⟩ := (h4.kp.trans k8).pn i l o e
      refine ⟨e1, ?_⟩
      rcases unlk_get f8 ls i with h | ⟨_, p, o', h2, h3⟩
      · exact ⟨l1, o1, h.trans z⟩
      · rw [z] at h2; cases h2
        exact ⟨_, _, h3⟩
    · obtain ⟨e1, z⟩ := (h4.kp.trans k8).lk i p o e
      refine ⟨e1, ?_⟩
      rcases unlk_get f8 ls i with h | ⟨h0, _⟩
      · exact h.trans z
      · exact absurd (h3.kp.lk i p o e).2 ((hls i h0).1 p o)
  have mid : LM K b (wipe σ2 vs1) (unlk f8 ls) m8 acc8 H8 := ⟨h8.sim.unlk ls, h8.st, h4.ws.trans h8.ws, fun i a e => h4.ml i a (h8.ml i a e), kp, h8.ow, off, len⟩
  exact mid.li ok
theorem lc_loop2 {tg tg1 : Tg} {dc dc1 : Fr → R Bool} {di1 : Fr → R (List D × List Nat)} {de : Fr → R Rt} {vs1 : List Nat} {J : L2.It} {ls : List Nat} {ds accF : List D} {fF : Fr} {σb : L2.St} {fb : Fr} {Qe : Hp → Prop} (ok : b.Ok) (hv : ∀ v ∈ vs1, v ∈ b.vs) (ht : ∀ j, hasT tg j → j ∈ b.vs) (ht1 : ∀ j, hasT tg1 j → j ∈ vs1) (hσ : b.σw = wipe σb b.vs)
    (hfw : b.fw = wipeF fb b.vs) (hno : ∀ v ∈ b.vs, ∀ p l o, fb[v]? ≠ some (.own p l o)) (jd : Jd K (Lat K σb fb b.mb b.Tb b.Hb ls) J ds) (hls : ∀ i ∈ ls, ∃ p o, fb[i]? = some (.own p true o))
    {f1 : Fr} {m1 : Om} {acc1 : List D} {H1 : Hp} (h1 : LI K b f1 m1 acc1 H1) (e : lcGo2 (lcTurn2 b.vs vs1 tg tg1 dc di1 dc1 de) ds acc1 f1 = .ok accF fF)
    (q : ∀ m2 H2, LI K b fF m2 accF H2 → Qe H2) :
    ∃ W : Nat → Nat → Hp → Prop, (∃ n, W 0 n H1) ∧ ∀ i n H, W i n H →
      (J.stop i H ∧ Qe H) ∨ (J.go i H ∧ ∃ Nx : Hp → Prop, (∀ H', Nx H' → ∃ n', n' < n ∧ W (i + 1) n' H') ∧ ∀ x H', J.yld i H x H' → tG K (setT tg) (hasT tg) x b.σw H' fun σ2 H2 => wipe σ2 b.vs = b.σw ∧ tTD K dc σ2 H2 fun k H3 =>
        if k = true then tI K di1 σ2 H3 fun J1 H4 => ∃ W1 : Nat → Nat → Hp → Prop, (∃ m, W1 0 m H4) ∧ ∀ j k H, W1 j k H →
            (J1.stop j H ∧ Nx H) ∨ (J1.go j H ∧ ∃ Nx1 : Hp → Prop, (∀ H', Nx1 H' → ∃ k', k' < k ∧ W1 (j + 1) k' H') ∧ ∀ x H', J1.yld j H x H' → tG K (setT tg1) (hasT tg1) x (wipe σ2 vs1) H' fun σ3 H5 => wipe σ3 vs1 = wipe σ2 vs1 ∧ tTD K dc1 σ3 H5 fun b' H6 =>
              if b' = true then tD K de σ3 H6 fun y H7 => ∃ acc, H7 b.D = some (.lst acc) ∧ acc.length < sizeLine ∧ Nx1 (upd H7 b.D (.lst (acc ++ [y]))) else Nx1 H6)
        else Nx H3) := by
  have hσ2 : wipe b.σw b.vs = b.σw := by rw [hσ, wipe_wipe]
  have lat : ∀ {f m acc H}, LI K b f m acc H → Lat K σb fb b.mb b.Tb b.Hb ls b.σw f m b.T H := fun {f m acc H} h => ⟨h.sim, h.ws, fun i p o ei => by
    have hv : i ∉ b.vs := fun z => hno i z _ _ _ ei
    have e2 : b.fw[i]? = some (.own p true o) := by rw [hfw, wipeF_out hv]; exact ei
    exact ⟨(h.kp.lk i p o e2).2.trans ei.symm, by rw [hσ, wipe_out' hv]⟩⟩
  refine ⟨fun i n H => n = ds.length - i ∧ i ≤ ds.length ∧ ∃ f m acc, LI K b f m acc H ∧ lcGo2 (lcTurn2 b.vs vs1 tg tg1 dc di1 dc1 de) (ds.drop i) acc f = .ok accF fF, ⟨ds.length, rfl, Nat.zero_le _, f1, m1, acc1, h1, by simpa using e⟩, ?_⟩
  rintro i n H ⟨rfl, hi, f, m, acc, h, e⟩
  by_cases hlt : i < ds.length
  · have ei := List.getElem?_eq_getElem hlt
    obtain ⟨g1, g2⟩ := jd.go _ _ _ _ _ (lat h) i _ ei
    rw [List.drop_eq_getElem_cons hlt] at e
    simp only [lcGo2] at e
    obtain ⟨acc5, f5, e1, e⟩ := bind_ok e
    unfold lcTurn2 at e1
    split at e1
    · cases e1
    · rename_i f2 e2
      obtain ⟨k, f3, e3, e1⟩ := bind_ok e1
      refine .inr ⟨g1, fun H' => (∃ f m acc, LI K b f m acc H' ∧ lcGo2 (lcTurn2 b.vs vs1 tg tg1 dc di1 dc1 de) (ds.drop (i + 1)) acc f = .ok accF fF), fun H' ⟨f', m', acc', h', e'⟩ => ⟨ds.length - (i + 1), by omega, rfl, hlt, f', m', acc', h', e'⟩, fun x H' y => ?_⟩
      obtain ⟨h', r⟩ := h.yld ok (g2 x H' y)
      refine lc_pre ok ht hσ2 h' r e2 e3 fun σ2 m3 H3 h3 => ?_
      cases k with
      | true =>
        simp only [if_true] at e1 ⊢
        obtain ⟨el, f4, e4, e1⟩ := bind_ok e1
        obtain ⟨acc8, f8, e8, e1⟩ := bind_ok e1
        cases e1
        refine ⟨b.T, f3, m3, el, f4, h3.sim, e4, fun J1 H4 m4 P4 jd1 hn1 => ?_⟩
        have h4 := h3.step ok P4
        have n4 : ∀ v ∈ vs1, ∀ p l o, f4[v]? ≠ some (.own p l o) := fun v z p l o e => by
          obtain ⟨a, e1, _⟩ := h4.sim.own v p l o e
          rw [h4.no ok v (hv v z)] at e1; cases e1
        exact lc_loop (b := lb1 b σ2 f4 m4 H4 vs1) (σb := σ2) (fb := f4) (lb1_ok ok hv h4) (show ∀ j, hasT tg1 j → j ∈ vs1 from ht1) rfl rfl n4 jd1 (fun i hi => (hn1 i hi).2) (lb1_li ok hv h4) e8
          fun m8 H8 h8 => ⟨_, m8, _, lb1_end ok hv h3 P4 hn1 h8, e⟩
      | false =>
        simp only [Bool.false_eq_true, if_false] at e1 ⊢
        cases e1
        exact ⟨_, m3, _, h3.li ok, e⟩
  · have hi' : i = ds.length := by omega
    subst hi'
    rw [List.drop_length] at e
    cases e
    exact .inl ⟨jd.stop _ _ _ _ _ (lat h), q m H h⟩
end
section
variable {X : Cx}
theorem lc2_weak {K : PySem.W.Frag} {own : List (Str × Nat)} {vs1 : List Nat} {t t1 : Tg} {di di1 : Fr → R (List D × List Nat)} {dc dc1 : Fr → R Bool} {de : Fr → R Rt} (hv : ∀ i ∈ vs1, i ∈ own.map (·.2)) (hown : tgIn (own.map (·.2)) t = true) (hown1 : tgIn vs1 t1 = true) {σ : L2.St} {H : Hp} {Q : VK} (w : tD K (fun f => (di f).bind fun dl f1 => if noOwn f1 (own.map (·.2)) then
      (lcGo2 (lcTurn2 (own.map (·.2)) vs1 t t1 dc di1 dc1 de) dl.1 [] (wipeF f1 (own.map (·.2)))).bind fun acc f5 => .ok (.o (.lst acc)) (unlk (unwipe f1 f5 (own.map (·.2))) dl.2)
      else .bad) σ H Q) : tLc2 (tI K di) (tG K (setT t) (hasT t)) (tTD K dc) (tI K di1) (tG K (setT t1) (hasT t1)) (tTD K dc1) (tD K de) (own.map (·.2)) vs1 σ H Q := by
    obtain ⟨T, f, m, r, f', S, e, q⟩ := w
    obtain ⟨dl, f1, e1, e⟩ := bind_ok e
    split at e
    · rename_i hno
      obtain ⟨acc, f5, e2, e⟩ := bind_ok e
      cases e
      refine ⟨T, f, m, dl, f1, S, e1, fun J H1 m1 P1 jd hn D0 hD => ?_⟩
      obtain ⟨n1, n2⟩ := noOwn_of P1.sim hno
      exact lc_loop2 (b := lb0 D0 T σ f1 m1 H1 (own.map fun (x : Str × Nat) => x.2)) (lb0_ok P1.sim hD n1) hv (show ∀ j, hasT t j → j ∈ own.map (·.2) from tgIn_has hown) (tgIn_has hown1) rfl rfl n2 jd (fun i hi => (hn i hi).2) (lb0_li P1.sim hD n1) e2
        fun m2 H2 h2 => by
          obtain ⟨p1, p2⟩ := lc_fin S P1 hD n2 hn h2
          exact q _ H2 m2 _ p1 p2
    · cases e
theorem pe_lc2' {elt tg iter tg1 iter1 : Expr} {ifs ifs1 : List Expr} {scope : Scope} {own : List (Str × Nat)} {vs1 : List Nat} {pos : Pos} {t t1 : Tg} {di di1 : Fr → R (List D × List Nat)} {dc dc1 : Fr → R Bool} {de : Fr → R Rt} (hc : X.calm = true) (hN : X.N.Nodup) (hi : PI X tg iter (tI X.K di)) (ok : BlkOk X.N X.env.scope scope own) (hv : ∀ i ∈ vs1, i ∈ own.map (·.2))
    (hown : tgIn (own.map (·.2)) t = true) (hown1 : tgIn vs1 t1 = true)
    (hg : ∀ (s : Shared) (H : Hp) (C : Addr) (cl : List (Str × Addr)) (fp : List Addr), PG (X.blk s H scope (compEnvC scope cl C X.env) fp) tg (tG X.K (setT t) (hasT t))) (ht : ∀ (s : Shared) (H : Hp) (C : Addr) (cl : List (Str × Addr)) (fp : List Addr), PTs (X.blk s H scope (compEnvC scope cl C X.env) fp) ifs (tTD X.K dc))
    (hi1 : ∀ (s : Shared) (H : Hp) (C : Addr) (cl : List (Str × Addr)) (fp : List Addr), PI (X.blk s H scope (compEnvC scope cl C X.env) fp) tg1 iter1 (tI X.K di1))
    (hg1 : ∀ (s : Shared) (H : Hp) (C : Addr) (cl : List (Str × Addr)) (fp : List Addr), PG (X.blk s H scope (compEnvC scope cl C X.env) fp) tg1 (tG X.K (setT t1) (hasT t1))) (ht1 : ∀ (s : Shared) (H : Hp) (C : Addr) (cl : List (Str × Addr)) (fp : List Addr), PTs (X.blk s H scope (compEnvC scope cl C X.env) fp) ifs1 (tTD X.K dc1))
    (he : ∀ (s : Shared) (H : Hp) (C : Addr) (cl : List (Str × Addr)) (fp : List Addr), PE (X.blk s H scope (compEnvC scope cl C X.env) fp) elt (tD X.K de)) (hs : ∀ x, foldedSetIterable iter X.env x = pure x) (hs1 : ∀ env x, foldedSetIterable iter1 env x = pure x) :
    PE X (.ListComp elt [⟨tg, iter, ifs, 0⟩, ⟨tg1, iter1, ifs1, 0⟩] scope pos) (tD X.K fun f => (di f).bind fun dl f1 => if noOwn f1 (own.map (·.2)) then
      (lcGo2 (lcTurn2 (own.map (·.2)) vs1 t t1 dc di1 dc1 de) dl.1 [] (wipeF f1 (own.map (·.2)))).bind fun acc f5 => .ok (.o (.lst acc)) (unlk (unwipe f1 f5 (own.map (·.2))) dl.2)
      else .bad) :=
  pe_weak (pe_lc2 hc hN hi ok hv hg ht hi1 hg1 ht1 he hs hs1) fun σ H Q w => lc2_weak hv hown hown1 w
end
end VI

set_option Elab.async false
set_option linter.all false
set_option maxRecDepth 100000
set_option maxHeartbeats 2000000
set_option autoImplicit false
namespace VI
open PySem PySem.Spec PyProof.Rows L2

section
variable {X : Cx} {a b c d : Expr} {pos : Pos}
/-! ### chains -/
abbrev cmpF (o : CO) (x y : Opd) (f : Fr) : R Bool := ofO f ((rd f x).bind fun u => (rd f y).bind fun v => cmpD o u v)
abbrev cmpV (o : CO) (x y : Opd) (f : Fr) : R Rt := ofO f ((rd f x).bind fun u => (rd f y).bind fun v => (cmpD o u v).map fun k => .v (.bl k))
theorem cmpF_ok {o : CO} {x y : Opd} {f f' : Fr} {k : Bool} (e : cmpF o x y f = .ok k f') : f' = f ∧ ∃ u v, rd f x = some u ∧ rd f y = some v ∧ cmpD o u v = some k := by
  obtain ⟨e, rfl⟩ := ofO_ok e
  simp only [Option.bind_eq_some_iff] at e
  obtain ⟨u, e1, v, e2, e3⟩ := e
  exact ⟨rfl, u, v, e1, e2, e3⟩
theorem cmpV_ok {o : CO} {x y : Opd} {f f' : Fr} {r : Rt} (e : cmpV o x y f = .ok r f') : f' = f ∧ ∃ u v k, rd f x = some u ∧ rd f y = some v ∧ cmpD o u v = some k ∧ r = .v (.bl k) := by
  obtain ⟨e, rfl⟩ := ofO_ok e
  simp only [Option.bind_eq_some_iff, Option.map_eq_some_iff] at e
  obtain ⟨u, e1, v, e2, k, e3, rfl⟩ := e
  exact ⟨rfl, u, v, k, e1, e2, e3, rfl⟩
abbrev ch2D (o o1 : CO) (da db dc : Fr → R Opd) (f : Fr) : R Rt := (da f).bind fun x f1 => (db f1).bind fun y f2 => (cmpF o x y f2).bind fun k f3 =>
  if k then (dc f3).bind fun z f4 => cmpV o1 y z f4 else .ok (.v (.bl false)) f3
theorem ch2_core {K : PySem.W.Frag} {o o1 : CO} {da db dc : Fr → R Opd} {T : AP} {σ : L2.St} {H : Hp} {f f' : Fr} {m : Om} {r : Rt} {Q : VK} (S : Sim K T σ H f m) (e : ch2D o o1 da db dc f = .ok r f')
    (q : ∀ k H' m', r = .v (.bl k) → PostX K T σ H f m f' H' m' T → Q (.bl k) H') : tChain (rCm K o) (rCm K o1) (tO K da) (tO K db) (tO K dc) σ H Q := by
  obtain ⟨x, f1, ex, e⟩ := bind_ok e
  obtain ⟨y, f2, ey, e⟩ := bind_ok e
  obtain ⟨k, f3, ek, e⟩ := bind_ok e
  obtain ⟨rfl, u, v, e1, e2, e3⟩ := cmpF_ok ek
  refine ⟨T, f, m, x, f1, S, ex, fun xv H1 m1 T1 P1 h1 => ⟨T1, f1, m1, y, f3, P1.sim, ey, fun yv H2 m2 T2 P2 h2 => ⟨_, u, v, k, (h1.st P1.sim P2).rd P2.sim e1, h2.rd P2.sim e2, e3, k, rfl, ?_⟩⟩⟩
  cases k with
  | false => cases e; exact q false H2 m2 rfl (P1.trans P2).drop
  | true =>
    rw [if_pos rfl] at e ⊢
    obtain ⟨z, f4, ez, e⟩ := bind_ok e
    obtain ⟨rfl, u', v', k', e4, e5, e6, rfl⟩ := cmpV_ok e
    exact ⟨T2, f3, m2, z, f', P2.sim, ez, fun zv H3 m3 T3 P3 h3 => ⟨_, u', v', k', (h2.st P2.sim P3).rd P3.sim e4, h3.rd P3.sim e5, e6, q k' H3 m3 rfl ((P1.trans P2).trans P3).drop⟩⟩
theorem pe_ch2' (hu : X.A.units + 65 < cLine) {o o1 : CO} {p p1 : CmpOp} {da db dc : Fr → R Opd} (hp : mC o p = true) (hp1 : mC o1 p1 = true) (hs : notSet c = true) (ha : PE X a (tO X.K da)) (hb : PE X b (tO X.K db)) (hc : PE X c (tO X.K dc)) :
    PE X (.Compare a [p, p1] [b, c] pos) (tD X.K (ch2D o o1 da db dc)) ∧ PT X (.Compare a [p, p1] [b, c] pos) (tTD X.K fun f => (ch2D o o1 da db dc f).bind fun r f3 => ofO f3 (truth r)) := by
  rw [mC_eq hp, mC_eq hp1]
  have hm : lastMarks [cmOf o, cmOf o1] [b, c] = false := by
    simp only [lastMarks]
    exact bmarks_of hs
  constructor
  · refine pe_weak (pe_chain (op_cm hu o) (op_cm hu o1) ha hb hc hm) fun σ H Q ⟨T, f, m, r, f', S, e, q⟩ => ?_
    exact ch2_core S e fun k H' m' er P => by
      subst er
      exact q _ H' m' T P ⟨rfl, rfl⟩
  · refine pt_weak (pt_chain (op_cm hu o) (op_cm hu o1) ha hb hc hm) fun σ H Q ⟨T, f, m, k, f', S, e, q⟩ => ?_
    obtain ⟨r, f0, e, et⟩ := bind_ok e
    obtain ⟨et, rfl⟩ := ofO_ok et
    exact ch2_core S e fun k' H' m' er P => by
      subst er
      cases et
      exact ⟨_, rfl, q H' m' P⟩
/-- a op1 b op2 c op3 d -/
def tChain3 (r r' r'' : R2) (ta tb tc td : TE) : TE := fun σ H Q => ta σ H fun x H1 => tb σ H1 fun y H2 => r x y H2 fun z H3 => ∃ k, z = .bl k ∧
  (if k = true then tc σ H3 fun w' H4 => r' y w' H4 fun z2 H5 => ∃ k, z2 = .bl k ∧ (if k = true then td σ H5 fun w2 H6 => r'' w' w2 H6 Q else Q (.bl false) H5) else Q (.bl false) H3)
theorem pe_chain3 {op op' op'' : CmpOp} {r r' r'' : R2} {ta tb tc td : TE} (ho : OpR X (compareOp op) r) (ho' : OpR X (compareOp op') r') (ho'' : OpR X (compareOp op'') r'') (ha : PE X a ta) (hb : PE X b tb) (hc : PE X c tc) (hd : PE X d td)
    (hm : lastMarks [op, op', op''] [b, c, d] = false) : PE X (.Compare a [op, op', op''] [b, c, d] pos) (tChain3 r r' r'' ta tb tc td) := by
  refine ⟨fun pins s σ H Q I h => ?_⟩
  refine Compare_chain (thn (ha.run pins s σ H _ I h) fun v s1 ⟨x, H1, I1, r1, q1⟩ => chain_link (thn (hb.run pins s1 σ H1 _ I1 q1) fun u s2 ⟨y, H2, I2, r2, q2⟩ =>
    thn (ho pins s2 σ H2 x y v u _ I2 r1 r2 q2) fun d s3 ⟨z, H3, I3, r3, k, e, q3⟩ => ?_)) hm
  subst e
  cases r3
  refine wpAny_truthy_bool ?_
  cases k with
  | false => exact ite_ff ⟨.bl false, H3, I3, rfl, q3⟩
  | true =>
    refine ite_tt (chain_link (thn (hc.run pins s3 σ H3 _ I3 q3) fun w' s4 ⟨z', H4, I4, r4, q4⟩ => thn (ho' pins s4 σ H4 y z' u w' _ I4 r2 r4 q4) fun d s5 ⟨z2, H5, I5, r5, k2, e2, q5⟩ => ?_))
    subst e2
    cases r5
    refine wpAny_truthy_bool ?_
    cases k2 with
    | false => exact ite_ff ⟨.bl false, H5, I5, rfl, q5⟩
    | true => exact ite_tt (chain_last (thn (hd.run pins s5 σ H5 _ I5 q5) fun w2 s6 ⟨z3, H6, I6, r6, q6⟩ => ho'' pins s6 σ H6 z' z3 w' w2 Q I6 r4 r6 q6))
theorem pt_chain3 {op op' op'' : CmpOp} {r r' r'' : R2} {ta tb tc td : TE} (ho : OpR X (compareOp op) r) (ho' : OpR X (compareOp op') r') (ho'' : OpR X (compareOp op'') r'') (ha : PE X a ta) (hb : PE X b tb) (hc : PE X c tc) (hd : PE X d td)
    (hm : lastMarks [op, op', op''] [b, c, d] = false) : PT X (.Compare a [op, op', op''] [b, c, d] pos) (tTest (tChain3 r r' r'' ta tb tc td)) := by
  refine ⟨fun pins s σ H Q I h => ?_⟩
  refine isTrue_chain (thn (ha.run pins s σ H _ I h) fun v s1 ⟨x, H1, I1, r1, q1⟩ => test_link (thn (hb.run pins s1 σ H1 _ I1 q1) fun u s2 ⟨y, H2, I2, r2, q2⟩ =>
    thn (ho pins s2 σ H2 x y v u _ I2 r1 r2 q2) fun d s3 ⟨z, H3, I3, r3, k, e, q3⟩ => ?_)) hm
  subst e
  cases r3
  refine wpAny_truthy_bool ?_
  cases k with
  | false =>
    obtain ⟨k', e', q'⟩ := q3
    cases e'
    exact ite_ff ⟨H3, I3, q'⟩
  | true =>
    refine ite_tt (test_link (thn (hc.run pins s3 σ H3 _ I3 q3) fun w' s4 ⟨z', H4, I4, r4, q4⟩ => thn (ho' pins s4 σ H4 y z' u w' _ I4 r2 r4 q4) fun d s5 ⟨z2, H5, I5, r5, k2, e2, q5⟩ => ?_))
    subst e2
    cases r5
    refine wpAny_truthy_bool ?_
    cases k2 with
    | false =>
      obtain ⟨k', e', q'⟩ := q5
      cases e'
      exact ite_ff ⟨H5, I5, q'⟩
    | true =>
      refine ite_tt (test_last (thn (hd.run pins s5 σ H5 _ I5 q5) fun w2 s6 ⟨z3, H6, I6, r6, q6⟩ => thn (ho'' pins s6 σ H6 z' z3 w' w2 _ I6 r4 r6 q6) fun d' s7 ⟨z4, H7, I7, r7, k4, e4, q7⟩ => ?_))
      subst e4
      cases r7
      exact wpAny_truthy_bool ⟨H7, I7, q7⟩
abbrev ch3D (o o1 o2 : CO) (da db dc dd : Fr → R Opd) (f : Fr) : R Rt := (da f).bind fun x f1 => (db f1).bind fun y f2 => (cmpF o x y f2).bind fun k f3 =>
  if k then (dc f3).bind fun z f4 => (cmpF o1 y z f4).bind fun k1 f5 => if k1 then (dd f5).bind fun w f6 => cmpV o2 z w f6 else .ok (.v (.bl false)) f5
  else .ok (.v (.bl false)) f3
theorem ch3_core {K : PySem.W.Frag} {o o1 o2 : CO} {da db dc dd : Fr → R Opd} {T : AP} {σ : L2.St} {H : Hp} {f f' : Fr} {m : Om} {r : Rt} {Q : VK} (S : Sim K T σ H f m) (e : ch3D o o1 o2 da db dc dd f = .ok r f')
    (q : ∀ k H' m', r = .v (.bl k) → PostX K T σ H f m f' H' m' T → Q (.bl k) H') : tChain3 (rCm K o) (rCm K o1) (rCm K o2) (tO K da) (tO K db) (tO K dc) (tO K dd) σ H Q := by
  obtain ⟨x, f1, ex, e⟩ := bind_ok e
  obtain ⟨y, f2, ey, e⟩ := bind_ok e
  obtain ⟨k, f3, ek, e⟩ := bind_ok e
  obtain ⟨rfl, u, v, e1, e2, e3⟩ := cmpF_ok ek
  refine ⟨T, f, m, x, f1, S, ex, fun xv H1 m1 T1 P1 h1 => ⟨T1, f1, m1, y, f3, P1.sim, ey, fun yv H2 m2 T2 P2 h2 => ⟨_, u, v, k, (h1.st P1.sim P2).rd P2.sim e1, h2.rd P2.sim e2, e3, k, rfl, ?_⟩⟩⟩
  cases k with
  | false => cases e; exact q false H2 m2 rfl (P1.trans P2).drop
  | true =>
    rw [if_pos rfl] at e ⊢
    obtain ⟨z, f4, ez, e⟩ := bind_ok e
    obtain ⟨k1, f5, ek1, e⟩ := bind_ok e
    obtain ⟨rfl, u', v', e4, e5, e6⟩ := cmpF_ok ek1
    refine ⟨T2, f3, m2, z, f5, P2.sim, ez, fun zv H3 m3 T3 P3 h3 => ⟨_, u', v', k1, (h2.st P2.sim P3).rd P3.sim e4, h3.rd P3.sim e5, e6, k1, rfl, ?_⟩⟩
    cases k1 with
    | false => cases e; exact q false H3 m3 rfl ((P1.trans P2).trans P3).drop
    | true =>
      rw [if_pos rfl] at e ⊢
      obtain ⟨w, f6, ew, e⟩ := bind_ok e
      obtain ⟨rfl, u2, v2, k2, e7, e8, e9, rfl⟩ := cmpV_ok e
      exact ⟨T3, f5, m3, w, f', P3.sim, ew, fun wv H4 m4 T4 P4 h4 => ⟨_, u2, v2, k2, (h3.st P3.sim P4).rd P4.sim e7, h4.rd P4.sim e8, e9, q k2 H4 m4 rfl (((P1.trans P2).trans P3).trans P4).drop⟩⟩
theorem pe_ch3' (hu : X.A.units + 65 < cLine) {o o1 o2 : CO} {p p1 p2 : CmpOp} {da db dc dd : Fr → R Opd} (hp : mC o p = true) (hp1 : mC o1 p1 = true) (hp2 : mC o2 p2 = true) (hs : notSet d = true) (ha : PE X a (tO X.K da)) (hb : PE X b (tO X.K db)) (hc : PE X c (tO X.K dc)) (hd : PE X d (tO X.K dd)) :
    PE X (.Compare a [p, p1, p2] [b, c, d] pos) (tD X.K (ch3D o o1 o2 da db dc dd)) ∧ PT X (.Compare a [p, p1, p2] [b, c, d] pos) (tTD X.K fun f => (ch3D o o1 o2 da db dc dd f).bind fun r f3 => ofO f3 (truth r)) := by
  rw [mC_eq hp, mC_eq hp1, mC_eq hp2]
  have hm : lastMarks [cmOf o, cmOf o1, cmOf o2] [b, c, d] = false := by
    simp only [lastMarks]
    exact bmarks_of hs
  constructor
  · refine pe_weak (pe_chain3 (op_cm hu o) (op_cm hu o1) (op_cm hu o2) ha hb hc hd hm) fun σ H Q ⟨T, f, m, r, f', S, e, q⟩ => ?_
    exact ch3_core S e fun k H' m' er P => by
      subst er
      exact q _ H' m' T P ⟨rfl, rfl⟩
  · refine pt_weak (pt_chain3 (op_cm hu o) (op_cm hu o1) (op_cm hu o2) ha hb hc hd hm) fun σ H Q ⟨T, f, m, k, f', S, e, q⟩ => ?_
    obtain ⟨r, f0, e, et⟩ := bind_ok e
    obtain ⟨et, rfl⟩ := ofO_ok et
    exact ch3_core S e fun k' H' m' er P => by
      subst er
      cases et
      exact ⟨_, rfl, q H' m' P⟩

/-! ### constants -/
theorem pe_lit' {d : D} {c : Const} {kk : Nat} (h : mLit d c = true) : PE X (.Constant c kk pos) (tD X.K fun f => .ok (.v d) f) := by
  have fin : ∀ {v : V}, PE X (.Constant c kk pos) (tC v) → (∀ B H, Rep X.K B H d v) → PE X (.Constant c kk pos) (tD X.K fun f => .ok (.v d) f) := fun h r => pe_weak h fun σ H Q ⟨T, f, m, w, f', S, e, q⟩ => by
    cases e
    exact q _ H m T (.refl S) ⟨rfl, r _ _⟩
  unfold mLit at h
  split at h
  · exact fin pe_non fun _ _ => rfl
  · rename_i a b
    rw [beq_iff_eq] at h; subst h
    exact fin pe_bl fun _ _ => rfl
  · have h := of_decide_eq_true h
    subst h
    exact fin pe_int fun _ _ => rfl
  · simp only [Bool.and_eq_true, decide_eq_true_eq] at h
    obtain ⟨h1, h2⟩ := h
    subst h1
    exact fin pe_str fun _ _ => ⟨rfl, Nat.le_trans h2 (by decide)⟩
  · cases h
theorem pe_cst' {x : Str} {y : String} {d : D} (hx : decide (oS y = x) = true) (hg : Gl X x) (hp : plainN x = true) (hm : ∃ v u, X.mg (oS y) = some u ∧ RelV v u ∧ ∀ B H, Rep X.K B H d v) : PE X (.Name x pos) (tD X.K fun f => .ok (.v d) f) := by
  have hx := of_decide_eq_true hx
  subst hx
  obtain ⟨v, u, h1, h2, h3⟩ := hm
  refine pe_weak (pe_glob hg h1 h2 (plain_of hp).1) fun σ H Q ⟨T, f, m, w, f', S, e, q⟩ => ?_
  cases e
  exact q _ H m T (.refl S) ⟨rfl, h3 _ _⟩
end

/-! ### the context -/
structure Stc (X : Cx) (sx : Sx) (tb : Tb) (k : Nat) : Prop where
  N : X.N = sx.N.map oS
  nd : X.N.Nodup
  sc : X.env.scope = sx.sc
  calm : X.calm = true
  fn : ∀ x, sx.top x = true → X.fn x = true
  room : Room k X.A
  bl : ∀ g, sx.bl.contains g = true → X.mg (oS g) = none
  cs : ∀ y d, sx.cs.lookup y = some d → ∃ v u, X.mg (oS y) = some u ∧ RelV v u ∧ ∀ B H, Rep X.K B H d v
  fns : ∀ g fd, tb g = some fd → ∃ fa fdat, X.mg (oS g) = some (.ref fa) ∧ PySem.W.keepIn X.K (.ref fa) = true ∧ Binds X.K fdat (fd.ps.map oS) [] ∧ FnOk X.prog X.w X.K X.mg X.base CX0 k fa fdat (fd.ps.map oS) (spF X.K tb k g fd.ps.length)
section
variable {X : Cx} {sx : Sx} {tb : Tb} {k : Nat}
theorem Stc.hu (st : Stc X sx tb k) : X.A.units + 65 < cLine := by
  have := st.room.un
  omega
theorem Stc.gl (st : Stc X sx tb k) {x : Str} (h : glC sx.sc x = true) : Gl X x := by
  unfold Gl Env.kindOf
  rw [st.sc]; exact gl_of h
theorem Stc.blk (st : Stc X sx tb k) (s : Shared) (H : Hp) (scope : Scope) (C : Addr) (cl : List (Str × Addr)) (fp : List Addr) : Stc (X.blk s H scope (compEnvC scope cl C X.env) fp) (inC sx scope) tb k where
  N := st.N
  nd := st.nd
  sc := by show relS scope X.env.scope = relS scope sx.sc; rw [st.sc]
  calm := st.calm
  fn := fun x h => h
  room := st.room
  bl := st.bl
  cs := st.cs
  fns := st.fns
end
end VI

set_option Elab.async false
set_option linter.all false
set_option maxRecDepth 100000
set_option maxHeartbeats 4000000
set_option autoImplicit false
namespace VI
open PySem PySem.Spec PyProof.Rows L2

section
variable {sx : Sx} {x : Expr}
theorem ff {P : Prop} (h : false = true) : P := (Bool.false_ne_true h).elim
theorem inv_var {i : Nat} (h : mE sx (.var i) x = true) : ∃ n pos, x = .Name n pos ∧ slotC sx i n = true ∧ visC sx.sc n = true ∧ plainN n = true := by
  cases x <;> first
    | exact ff h
    | (have h : (slotC sx i _ && visC sx.sc _ && plainN _) = true := h
       simp only [Bool.and_eq_true] at h
       exact ⟨_, _, rfl, h.1.1, h.1.2, h.2⟩)
theorem inv_cst {y : String} {d : D} (h : mE sx (.cst y d) x = true) : ∃ n pos, x = .Name n pos ∧ decide (oS y = n) = true ∧ glC sx.sc n = true ∧ plainN n = true ∧ sx.cs.lookup y = some d := by
  cases x <;> first
    | exact ff h
    | (have h : (decide (oS y = _) && glC sx.sc _ && plainN _ && (match (generalizing := false) sx.cs.lookup y with | some d' => sameD d d' | none => false)) = true := h
       simp only [Bool.and_eq_true] at h
       refine ⟨_, _, rfl, h.1.1.1, h.1.1.2, h.1.2, ?_⟩
       have h2 := h.2
       split at h2
       · rename_i d' e
         rw [e, sameD_eq h2]
       · cases h2)
theorem inv_lit {d : D} (h : mE sx (.lit d) x = true) : ∃ c kk pos, x = .Constant c kk pos ∧ mLit d c = true := by
  cases x <;> first | exact ff h | exact ⟨_, _, _, rfl, h⟩
theorem inv_op {o : BO} {a b : Ex} (h : mE sx (.op o a b) x = true) : ∃ p y z pos, x = .BinOp y p z pos ∧ mO o p = true ∧ mE sx a y = true ∧ mE sx b z = true := by
  cases x <;> first
    | exact ff h
    | (have h : (mO o _ && mE sx a _ && mE sx b _) = true := h
       simp only [Bool.and_eq_true] at h
       exact ⟨_, _, _, _, rfl, h.1.1, h.1.2, h.2⟩)
theorem inv_neg {a : Ex} (h : mE sx (.neg a) x = true) : ∃ y pos, x = .UnaryOp .USub y pos ∧ mE sx a y = true := by
  cases x <;> first
    | exact ff h
    | (rename_i op _ _
       cases op <;> first | exact ff h | exact ⟨_, _, rfl, h⟩)
theorem inv_nt {a : Ex} (h : mE sx (.nt a) x = true) : ∃ y pos, x = .UnaryOp .Not y pos ∧ mE sx a y = true := by
  cases x <;> first
    | exact ff h
    | (rename_i op _ _
       cases op <;> first | exact ff h | exact ⟨_, _, rfl, h⟩)
theorem inv_cmp {o : CO} {a b : Ex} (h : mE sx (.cmp o a b) x = true) : ∃ p y z pos, x = .Compare y [p] [z] pos ∧ mC o p = true ∧ mE sx a y = true ∧ mE sx b z = true ∧ notSet z = true := by
  cases x <;> first
    | exact ff h
    | (rename_i y ps zs pos
       rcases ps with _ | ⟨p, _ | ⟨_, _⟩⟩ <;> rcases zs with _ | ⟨z, _ | ⟨_, _⟩⟩ <;> first
         | exact ff h
         | (have h : (mC o p && mE sx a y && mE sx b z && notSet z) = true := h
            simp only [Bool.and_eq_true] at h
            exact ⟨_, _, _, _, rfl, h.1.1.1, h.1.1.2, h.1.2, h.2⟩))
theorem inv_ch2 {o o1 : CO} {a b d : Ex} (h : mE sx (.ch2 o o1 a b d) x = true) : ∃ p p1 y z w pos, x = .Compare y [p, p1] [z, w] pos ∧ mC o p = true ∧ mC o1 p1 = true ∧ mE sx a y = true ∧ mE sx b z = true ∧ mE sx d w = true ∧ notSet w = true := by
  cases x <;> first
    | exact ff h
    | (rename_i y ps zs pos
       rcases ps with _ | ⟨p, _ | ⟨p1, _ | ⟨_, _⟩⟩⟩ <;> rcases zs with _ | ⟨z, _ | ⟨w, _ | ⟨_, _⟩⟩⟩ <;> first
         | exact ff h
         | (have h : (mC o p && mC o1 p1 && mE sx a y && mE sx b z && mE sx d w && notSet z && notSet w) = true := h
            simp only [Bool.and_eq_true] at h
            exact ⟨_, _, _, _, _, _, rfl, h.1.1.1.1.1.1, h.1.1.1.1.1.2, h.1.1.1.1.2, h.1.1.1.2, h.1.1.2, h.2⟩))
theorem inv_ch3 {o o1 o2 : CO} {a b d e : Ex} (h : mE sx (.ch3 o o1 o2 a b d e) x = true) : ∃ p p1 p2 y z w u pos, x = .Compare y [p, p1, p2] [z, w, u] pos ∧ mC o p = true ∧ mC o1 p1 = true ∧ mC o2 p2 = true ∧ mE sx a y = true ∧ mE sx b z = true ∧ mE sx d w = true ∧ mE sx e u = true ∧ notSet u = true := by
  cases x <;> first
    | exact ff h
    | (rename_i y ps zs pos
       rcases ps with _ | ⟨p, _ | ⟨p1, _ | ⟨p2, _ | ⟨_, _⟩⟩⟩⟩ <;> rcases zs with _ | ⟨z, _ | ⟨w, _ | ⟨u, _ | ⟨_, _⟩⟩⟩⟩ <;> first
         | exact ff h
         | (have h : (mC o p && mC o1 p1 && mC o2 p2 && mE sx a y && mE sx b z && mE sx d w && mE sx e u && notSet z && notSet w && notSet u) = true := h
            simp only [Bool.and_eq_true] at h
            exact ⟨_, _, _, _, _, _, _, _, rfl, h.1.1.1.1.1.1.1.1.1, h.1.1.1.1.1.1.1.1.2, h.1.1.1.1.1.1.1.2, h.1.1.1.1.1.1.2, h.1.1.1.1.1.2, h.1.1.1.1.2, h.1.1.1.2, h.2⟩))
theorem con_of {con : Bool} {p : BoolOp} (h : (match p with | .And => con | .Or => !con) = true) : p = if con then .And else .Or := by
  cases p <;> cases con <;> first | rfl | cases h
theorem inv_bool {con : Bool} {es : Exs} (h : mE sx (.bool con es) x = true) : ∃ xs pos, x = .BoolOp (if con then .And else .Or) xs pos ∧ xs ≠ [] ∧ mEs sx es xs = true := by
  cases x <;> first
    | exact ff h
    | (rename_i p xs pos
       have h : ((match (generalizing := false) p with | .And => con | .Or => !con) && !xs.isEmpty && mEs sx es xs) = true := h
       simp only [Bool.and_eq_true] at h
       exact ⟨xs, pos, by rw [con_of h.1.1], fun z => by rw [z] at h; simp at h, h.2⟩)
theorem inv_boolT {con : Bool} {es : Txs} (h : mT sx (.bool con es) x = true) : ∃ xs pos, x = .BoolOp (if con then .And else .Or) xs pos ∧ xs ≠ [] ∧ mTs sx es xs = true := by
  cases x <;> first
    | exact ff h
    | (rename_i p xs pos
       have h : ((match (generalizing := false) p with | .And => con | .Or => !con) && !xs.isEmpty && mTs sx es xs) = true := h
       simp only [Bool.and_eq_true] at h
       exact ⟨xs, pos, by rw [con_of h.1.1], fun z => by rw [z] at h; simp at h, h.2⟩)
theorem inv_iteT {a b d : Tx} (h : mT sx (.ite a b d) x = true) : ∃ y z w pos, x = .IfExp y z w pos ∧ mT sx a y = true ∧ mT sx b z = true ∧ mT sx d w = true := by
  cases x <;> first
    | exact ff h
    | (have h : (mT sx a _ && mT sx b _ && mT sx d _) = true := h
       simp only [Bool.and_eq_true] at h
       exact ⟨_, _, _, _, rfl, h.1.1, h.1.2, h.2⟩)
theorem inv_ntT {a : Tx} (h : mT sx (.nt a) x = true) : ∃ y pos, x = .UnaryOp .Not y pos ∧ mT sx a y = true := by
  cases x <;> first
    | exact ff h
    | (rename_i op _ _
       cases op <;> first | exact ff h | exact ⟨_, _, rfl, h⟩)
theorem inv_ite {c : Tx} {a b : Ex} (h : mE sx (.ite c a b) x = true) : ∃ y z w pos, x = .IfExp y z w pos ∧ mT sx c y = true ∧ mE sx a z = true ∧ mE sx b w = true := by
  cases x <;> first
    | exact ff h
    | (have h : (mT sx c _ && mE sx a _ && mE sx b _) = true := h
       simp only [Bool.and_eq_true] at h
       exact ⟨_, _, _, _, rfl, h.1.1, h.1.2, h.2⟩)
theorem inv_tup {es : Exs} (h : mE sx (.tup es) x = true) : ∃ xs kk pos, x = .Tuple xs kk pos ∧ mEs sx es xs = true := by
  cases x <;> first | exact ff h | exact ⟨_, _, _, rfl, h⟩
theorem inv_lst {es : Exs} (h : mE sx (.lst es) x = true) : ∃ xs pos, x = .List xs pos ∧ mEs sx es xs = true := by
  cases x <;> first | exact ff h | exact ⟨_, _, rfl, h⟩
theorem inv_dct {t : Bool} {ks vs : Exs} (h : mE sx (.dct t ks vs) x = true) : ∃ pos, x = .Dict [] [] pos ∧ ks = .nil ∧ vs = .nil := by
  cases ks <;> cases vs <;> cases x <;> first
    | exact ff h
    | (rename_i xs ys pos
       cases xs <;> cases ys <;> first | exact ff h | exact ⟨_, rfl, rfl, rfl⟩)
theorem inv_dsp {t : Bool} {ps : Kvs} (h : mE sx (.dsp t ps) x = true) : ∃ ks vs pos, x = .Dict ks vs pos ∧ mKv sx ps ks vs = true ∧ ks ≠ [] ∧ ks.length ≤ 15 := by
  cases x <;> first
    | exact ff h
    | (rename_i ks vs pos
       have h : (mKv sx ps ks vs && !ks.isEmpty && decide (ks.length ≤ 15)) = true := h
       simp only [Bool.and_eq_true, decide_eq_true_eq] at h
       exact ⟨ks, vs, pos, rfl, h.1.1, fun z => by (rw [z] at h; simp at h), h.2⟩)
theorem mKv_len : ∀ {ps : Kvs} {ks : List (Option Expr)} {vs : List Expr}, mKv sx ps ks vs = true → ks.all (·.isSome) = true ∧ ks.length = vs.length
  | .nil, ks, vs, h => by
    cases ks <;> cases vs <;> first | exact ff h | exact ⟨rfl, rfl⟩
  | .cons k v r, ks, vs, h => by
    rcases ks with _ | ⟨_ | x, ks⟩ <;> cases vs <;> first
      | exact ff h
      | (rename_i y vs
         have h : (mE sx k x && mE sx v y && mKv sx r ks vs) = true := h
         simp only [Bool.and_eq_true] at h
         obtain ⟨h1, h2⟩ := mKv_len h.2
         exact ⟨by simpa using h1, by simp [h2]⟩)
theorem inv_sit {a : Ex} (h : mE sx (.sit a) x = true) : ∃ n p o y ap mp pos, x = .Call (.Name n p) [.Call (.Attribute o y ap) [] [] mp] [] pos ∧ oS "sorted" = n ∧ glC sx.sc n = true ∧ sx.bl.contains "sorted" = true ∧ oS "items" = y ∧ mE sx a o = true ∧ notC0 o = true ∧ (ap.endLine == mp.line) = true := by
  cases x <;> first
    | exact ff h
    | (rename_i f xs ks pos
       cases f <;> first
         | exact ff h
         | (rcases xs with _ | ⟨y, _ | ⟨_, _⟩⟩ <;> cases ks <;> first
              | exact ff h
              | (cases y <;> first
                   | exact ff h
                   | (rename_i n p g xs ks mp
                      cases g <;> first
                        | exact ff h
                        | (cases xs <;> cases ks <;> first
                             | exact ff h
                             | (rename_i o y ap
                                have h : (decide (oS "sorted" = n) && glC sx.sc n && sx.bl.contains "sorted" && decide (oS "items" = y) && mE sx a o && notC0 o && (ap.endLine == mp.line)) = true := h
                                simp only [Bool.and_eq_true, decide_eq_true_eq] at h
                                exact ⟨n, p, o, y, ap, mp, pos, rfl, h.1.1.1.1.1.1, h.1.1.1.1.1.2, h.1.1.1.1.2, h.1.1.1.2, h.1.1.2, h.1.2, h.2⟩))))))
theorem inv_lr1 {a : Ex} (h : mE sx (.lr1 a) x = true) : ∃ n p y q z mp pos, x = .Call (.Name n p) [.Call (.Name y q) [z] [] mp] [] pos ∧ oS "list" = n ∧ glC sx.sc n = true ∧ sx.bl.contains "list" = true ∧ oS "range" = y ∧ glC sx.sc y = true ∧ sx.bl.contains "range" = true ∧ mE sx a z = true ∧ nst z = true := by
  cases x <;> first
    | exact ff h
    | (rename_i f xs ks pos
       cases f <;> first
         | exact ff h
         | (rcases xs with _ | ⟨y, _ | ⟨_, _⟩⟩ <;> cases ks <;> first
              | exact ff h
              | (cases y <;> first
                   | exact ff h
                   | (rename_i n p g xs ks mp
                      cases g <;> first
                        | exact ff h
                        | (rcases xs with _ | ⟨z, _ | ⟨_, _⟩⟩ <;> cases ks <;> first
                             | exact ff h
                             | (rename_i y q
                                have h : (decide (oS "list" = n) && glC sx.sc n && sx.bl.contains "list" && decide (oS "range" = y) && glC sx.sc y && sx.bl.contains "range" && mE sx a z && nst z) = true := h
                                simp only [Bool.and_eq_true, decide_eq_true_eq] at h
                                exact ⟨n, p, y, q, z, mp, pos, rfl, h.1.1.1.1.1.1.1, h.1.1.1.1.1.1.2, h.1.1.1.1.1.2, h.1.1.1.1.2, h.1.1.1.2, h.1.1.2, h.1.2, h.2⟩))))))
theorem inv_lr2 {a b : Ex} (h : mE sx (.lr2 a b) x = true) : ∃ n p y q z w mp pos, x = .Call (.Name n p) [.Call (.Name y q) [z, w] [] mp] [] pos ∧ oS "list" = n ∧ glC sx.sc n = true ∧ sx.bl.contains "list" = true ∧ oS "range" = y ∧ glC sx.sc y = true ∧ sx.bl.contains "range" = true ∧ mE sx a z = true ∧ nst z = true ∧ mE sx b w = true ∧ nst w = true := by
  cases x <;> first
    | exact ff h
    | (rename_i f xs ks pos
       cases f <;> first
         | exact ff h
         | (rcases xs with _ | ⟨y, _ | ⟨_, _⟩⟩ <;> cases ks <;> first
              | exact ff h
              | (cases y <;> first
                   | exact ff h
                   | (rename_i n p g xs ks mp
                      cases g <;> first
                        | exact ff h
                        | (rcases xs with _ | ⟨z, _ | ⟨w, _ | ⟨_, _⟩⟩⟩ <;> cases ks <;> first
                             | exact ff h
                             | (rename_i y q
                                have h : (decide (oS "list" = n) && glC sx.sc n && sx.bl.contains "list" && decide (oS "range" = y) && glC sx.sc y && sx.bl.contains "range" && mE sx a z && nst z && mE sx b w && nst w) = true := h
                                simp only [Bool.and_eq_true, decide_eq_true_eq] at h
                                exact ⟨n, p, y, q, z, w, mp, pos, rfl, h.1.1.1.1.1.1.1.1.1, h.1.1.1.1.1.1.1.1.2, h.1.1.1.1.1.1.1.2, h.1.1.1.1.1.1.2, h.1.1.1.1.1.2, h.1.1.1.1.2, h.1.1.1.2, h.1.1.2, h.1.2, h.2⟩))))))
theorem inv_ix {a i : Ex} (h : mE sx (.ix a i) x = true) : ∃ y z pos, x = .Subscript y z pos ∧ mE sx a y = true ∧ mE sx i z = true ∧ notSl z = true := by
  cases x <;> first
    | exact ff h
    | (have h : (mE sx a _ && mE sx i _ && notSl _) = true := h
       simp only [Bool.and_eq_true] at h
       exact ⟨_, _, _, rfl, h.1.1, h.1.2, h.2⟩)
theorem inv_sl {a : Ex} {lo hi : Exo} (h : mE sx (.sl a lo hi) x = true) : ∃ y l r p pos, x = .Subscript y (.Slice l r none p) pos ∧ mE sx a y = true ∧ mP sx lo l = true ∧ mP sx hi r = true := by
  cases x <;> first
    | exact ff h
    | (rename_i y z pos
       cases z <;> first
         | exact ff h
         | (rename_i l r s p
            cases s <;> first
              | exact ff h
              | (have h : (mE sx a y && mP sx lo l && mP sx hi r) = true := h
                 simp only [Bool.and_eq_true] at h
                 exact ⟨_, _, _, _, _, rfl, h.1.1, h.1.2, h.2⟩)))
theorem inv_call {g : String} {es : Exs} (h : mE sx (.call g es) x = true) : ∃ n p xs pos, x = .Call (.Name n p) xs [] pos ∧ decide (oS g = n) = true ∧ glC sx.sc n = true ∧ plainN n = true ∧ xs ≠ [] ∧ mEs sx es xs = true := by
  cases x <;> first
    | exact ff h
    | (rename_i y xs ks pos
       cases y <;> first
         | exact ff h
         | (cases ks <;> first
              | exact ff h
              | (have h : (decide (oS g = _) && glC sx.sc _ && plainN _ && !xs.isEmpty && mEs sx es xs) = true := h
                 simp only [Bool.and_eq_true] at h
                 exact ⟨_, _, xs, _, rfl, h.1.1.1.1, h.1.1.1.2, h.1.1.2, fun z => by (rw [z] at h; simp at h), h.2⟩)))
theorem inv_b {g : String} {es : Exs} (h : mE sx (.b g es) x = true) : ∃ n p xs pos, x = .Call (.Name n p) xs [] pos ∧ decide (oS g = n) = true ∧ glC sx.sc n = true ∧ plainN n = true ∧ sx.bl.contains g = true ∧ bKn.contains g = true ∧ xs ≠ [] ∧ mEs sx es xs = true := by
  cases x <;> first
    | exact ff h
    | (rename_i y xs ks pos
       cases y <;> first
         | exact ff h
         | (cases ks <;> first
              | exact ff h
              | (have h : (decide (oS g = _) && glC sx.sc _ && plainN _ && sx.bl.contains g && bKn.contains g && !xs.isEmpty && mEs sx es xs) = true := h
                 simp only [Bool.and_eq_true] at h
                 exact ⟨_, _, xs, _, rfl, h.1.1.1.1.1.1, h.1.1.1.1.1.2, h.1.1.1.1.2, h.1.1.1.2, h.1.1.2, fun z => by (rw [z] at h; simp at h), h.2⟩)))
theorem inv_isi {a : Ex} {ts : List String} (h : mE sx (.isi a ts) x = true) : ∃ n p y z pos, x = .Call (.Name n p) [y, z] [] pos ∧ decide (oS "isinstance" = n) = true ∧ glC sx.sc n = true ∧ sx.bl.contains "isinstance" = true ∧ mE sx a y = true ∧ nst y = true ∧ decide (ts.length ≤ 10) = true ∧ (!ts.isEmpty) = true ∧
    (match z with | .Tuple es _ _ => mNames sx ts es | .Name _ _ => mNames sx ts [z] | _ => false) = true := by
  cases x <;> first
    | exact ff h
    | (rename_i f xs ks pos
       cases f <;> first
         | exact ff h
         | (rcases xs with _ | ⟨y, _ | ⟨z, _ | ⟨_, _⟩⟩⟩ <;> cases ks <;> first
              | exact ff h
              | (have h : (decide (oS "isinstance" = _) && glC sx.sc _ && sx.bl.contains "isinstance" && mE sx a y && nst y && decide (ts.length ≤ 10) && !ts.isEmpty && (match (generalizing := false) z with | .Tuple es _ _ => mNames sx ts es | .Name _ _ => mNames sx ts [z] | _ => false)) = true := h
                 simp only [Bool.and_eq_true] at h
                 exact ⟨_, _, y, z, _, rfl, h.1.1.1.1.1.1.1, h.1.1.1.1.1.1.2, h.1.1.1.1.1.2, h.1.1.1.1.2, h.1.1.1.2, h.1.1.2, h.1.2, h.2⟩)))
theorem inv_m {g : String} {a : Ex} {es : Exs} (h : mE sx (.m g a es) x = true) : ∃ e o n p y q, es = .cons e .nil ∧ x = .Call (.Attribute o n p) [y] [] q ∧ mKn.contains g = true ∧ oS g = n ∧ mE sx a o = true ∧ notC0 o = true ∧ mE sx e y = true ∧ nst y = true ∧ (p.endLine == q.line) = true := by
  rcases es with _ | ⟨e, _ | ⟨_, _⟩⟩ <;> first
    | exact ff h
    | (cases x <;> first
        | exact ff h
        | (rename_i f xs ks pos
           cases f <;> first
             | exact ff h
             | (rcases xs with _ | ⟨y, _ | ⟨z, _⟩⟩ <;> cases ks <;> first
                  | exact ff h
                  | (rename_i o n p
                     have h : (mKn.contains g && decide (oS g = n) && mE sx a o && notC0 o && mE sx e y && nst y && (p.endLine == pos.line)) = true := h
                     simp only [Bool.and_eq_true, decide_eq_true_eq] at h
                     exact ⟨e, o, n, p, y, pos, rfl, rfl, h.1.1.1.1.1.1, h.1.1.1.1.1.2, h.1.1.1.1.2, h.1.1.1.2, h.1.1.2, h.1.2, h.2⟩))))
theorem inv_gt {a k d : Ex} (h : mE sx (.gt a k d) x = true) : ∃ o p y z q, x = .Call (.Attribute o (oS "get") p) [y, z] [] q ∧ mE sx a o = true ∧ notC0 o = true ∧ mE sx k y = true ∧ nst y = true ∧ mE sx d z = true ∧ nst z = true ∧ (p.endLine == q.line) = true := by
  cases x <;> first
    | exact ff h
    | (rename_i f xs ks pos
       cases f <;> first
         | exact ff h
         | (rcases xs with _ | ⟨y, _ | ⟨z, _ | ⟨_, _⟩⟩⟩ <;> cases ks <;> first
              | exact ff h
              | (rename_i o n p
                 have h : (decide (oS "get" = n) && mE sx a o && notC0 o && mE sx k y && nst y && mE sx d z && nst z && (p.endLine == pos.line)) = true := h
                 simp only [Bool.and_eq_true, decide_eq_true_eq] at h
                 exact ⟨o, p, y, z, pos, by rw [← h.1.1.1.1.1.1.1], h.1.1.1.1.1.1.2, h.1.1.1.1.1.2, h.1.1.1.1.2, h.1.1.1.2, h.1.1.2, h.1.2, h.2⟩)))
theorem inv_rev {a : Ex} (h : mE sx (.rev a) x = true) : ∃ y k p1 p2 p3 pos, x = .Subscript y (.Slice none none (some (.UnaryOp .USub (.Constant (.int 1) k p1) p2)) p3) pos ∧ mE sx a y = true := by
  unfold mE at h
  split at h <;> first
    | (exfalso; simp at *; done)
    | skip
  all_goals first
    | exact ff h
    | (rename_i he; cases he; exact ⟨_, _, _, _, _, _, rfl, h⟩)
theorem inv_pop {i : Nat} (h : mE sx (.pop i) x = true) : ∃ n np p q, x = .Call (.Attribute (.Name n np) (oS "pop") p) [] [] q ∧ slotC sx i n = true ∧ visC sx.sc n = true ∧ plainN n = true ∧ (p.endLine == q.line) = true := by
  cases x <;> first
    | exact ff h
    | (rename_i f xs ks pos
       cases f <;> first
         | exact ff h
         | (rename_i o n p
            cases o <;> first
              | exact ff h
              | (cases xs <;> cases ks <;> first
                  | exact ff h
                  | (rename_i n0 np
                     have h : (slotC sx i n0 && visC sx.sc n0 && plainN n0 && decide (oS "pop" = n) && (p.endLine == pos.line)) = true := h
                     simp only [Bool.and_eq_true, decide_eq_true_eq] at h
                     exact ⟨n0, np, p, pos, by rw [← h.1.2], h.1.1.1.1, h.1.1.1.2, h.1.1.2, h.2⟩))))
theorem inv_lc {own : List Nat} {tg : Tg} {it : It} {c : Txo} {e : Ex} (h : mE sx (.lc own tg it c e) x = true) : ∃ y g i fs sc pos, x = .ListComp y [⟨g, i, fs, 0⟩] sc pos ∧ blkC (sx.N.map oS) sx.sc sc (mOwn sx own) = true ∧ tgIn own tg = true ∧ mG (inC sx sc) tg g = true ∧ mI sx it i (isTp tg) = true ∧ mCo (inC sx sc) c fs = true ∧ mE (inC sx sc) e y = true := by
  cases x <;> first
    | exact ff h
    | (rename_i y gs sc pos
       rcases gs with _ | ⟨⟨g, i, fs, z⟩, _ | ⟨_, _⟩⟩ <;> first
         | exact ff h
         | (have h : (decide (z = 0) && blkC (sx.N.map oS) sx.sc sc (mOwn sx own) && tgIn own tg && mG (inC sx sc) tg g && mI sx it i (isTp tg) && mCo (inC sx sc) c fs && mE (inC sx sc) e y) = true := h
            simp only [Bool.and_eq_true, decide_eq_true_eq] at h
            exact ⟨y, g, i, fs, sc, pos, by rw [← h.1.1.1.1.1.1], h.1.1.1.1.1.2, h.1.1.1.1.2, h.1.1.1.2, h.1.1.2, h.1.2, h.2⟩))
theorem inv_lc2 {own own1 : List Nat} {tg tg1 : Tg} {it it1 : It} {c c1 : Txo} {e : Ex} (h : mE sx (.lc2 own own1 tg it c tg1 it1 c1 e) x = true) : ∃ y g i fs g1 i1 fs1 sc pos, x = .ListComp y [⟨g, i, fs, 0⟩, ⟨g1, i1, fs1, 0⟩] sc pos ∧ blkC (sx.N.map oS) sx.sc sc (mOwn sx own) = true ∧ tgIn own tg = true ∧ tgIn own1 tg1 = true ∧ (∀ v ∈ own1, v ∈ own) ∧
    mG (inC sx sc) tg g = true ∧ mI sx it i (isTp tg) = true ∧ mCo (inC sx sc) c fs = true ∧ mG (inC sx sc) tg1 g1 = true ∧ mI (inC sx sc) it1 i1 (isTp tg1) = true ∧ mCo (inC sx sc) c1 fs1 = true ∧ mE (inC sx sc) e y = true := by
  cases x <;> first
    | exact ff h
    | (rename_i y gs sc pos
       rcases gs with _ | ⟨⟨g, i, fs, z⟩, _ | ⟨⟨g1, i1, fs1, z1⟩, _ | ⟨_, _⟩⟩⟩ <;> first
         | exact ff h
         | (have h : (decide (z = 0) && decide (z1 = 0) && blkC (sx.N.map oS) sx.sc sc (mOwn sx own) && tgIn own tg && tgIn own1 tg1 && (own1.all fun v => own.contains v) &&
              mG (inC sx sc) tg g && mI sx it i (isTp tg) && mCo (inC sx sc) c fs && mG (inC sx sc) tg1 g1 && mI (inC sx sc) it1 i1 (isTp tg1) && mCo (inC sx sc) c1 fs1 && mE (inC sx sc) e y) = true := h
            simp only [Bool.and_eq_true, decide_eq_true_eq] at h
            exact ⟨y, g, i, fs, g1, i1, fs1, sc, pos, by rw [h.1.1.1.1.1.1.1.1.1.1.1.1, h.1.1.1.1.1.1.1.1.1.1.1.2], h.1.1.1.1.1.1.1.1.1.1.2, h.1.1.1.1.1.1.1.1.1.2, h.1.1.1.1.1.1.1.1.2, fun v hv => by simpa using List.all_eq_true.mp h.1.1.1.1.1.1.1.2 v hv, h.1.1.1.1.1.1.2, h.1.1.1.1.1.2, h.1.1.1.1.2, h.1.1.1.2, h.1.1.2, h.1.2, h.2⟩))
/-! what is walked -/
theorem inv_r1 {a : Ex} {tp : Bool} (h : mI sx (.r1 a) x tp = true) : ∃ p y pos, x = .Call (.Name (oS "range") p) [y] [] pos ∧ glC sx.sc (oS "range") = true ∧ sx.bl.contains "range" = true ∧ mE sx a y = true ∧ nst y = true := by
  cases x <;> first
    | exact ff h
    | (rename_i f xs ks pos
       cases f <;> first
         | exact ff h
         | (rcases xs with _ | ⟨y, _ | ⟨z, _⟩⟩ <;> cases ks <;> first
              | exact ff h
              | (rename_i n p
                 have h : (decide (oS "range" = n) && glC sx.sc n && sx.bl.contains "range" && mE sx a y && nst y) = true := h
                 simp only [Bool.and_eq_true, decide_eq_true_eq] at h
                 obtain ⟨⟨⟨⟨rfl, h1⟩, h2⟩, h3⟩, h4⟩ := h
                 exact ⟨p, y, pos, rfl, h1, h2, h3, h4⟩)))
theorem inv_r2 {a b : Ex} {tp : Bool} (h : mI sx (.r2 a b) x tp = true) : ∃ p y z pos, x = .Call (.Name (oS "range") p) [y, z] [] pos ∧ glC sx.sc (oS "range") = true ∧ sx.bl.contains "range" = true ∧ mE sx a y = true ∧ mE sx b z = true ∧ nst y = true ∧ nst z = true := by
  cases x <;> first
    | exact ff h
    | (rename_i f xs ks pos
       cases f <;> first
         | exact ff h
         | (rcases xs with _ | ⟨y, _ | ⟨z, _ | ⟨_, _⟩⟩⟩ <;> cases ks <;> first
              | exact ff h
              | (rename_i n p
                 have h : (decide (oS "range" = n) && glC sx.sc n && sx.bl.contains "range" && mE sx a y && mE sx b z && nst y && nst z) = true := h
                 simp only [Bool.and_eq_true, decide_eq_true_eq] at h
                 obtain ⟨⟨⟨⟨⟨⟨rfl, h1⟩, h2⟩, h3⟩, h4⟩, h5⟩, h6⟩ := h
                 exact ⟨p, y, z, pos, rfl, h1, h2, h3, h4, h5, h6⟩)))
theorem inv_r3 {a b d : Ex} {tp : Bool} (h : mI sx (.r3 a b d) x tp = true) : ∃ p y z w pos, x = .Call (.Name (oS "range") p) [y, z, w] [] pos ∧ glC sx.sc (oS "range") = true ∧ sx.bl.contains "range" = true ∧ mE sx a y = true ∧ mE sx b z = true ∧ mE sx d w = true ∧ nst y = true ∧ nst z = true ∧ nst w = true := by
  cases x <;> first
    | exact ff h
    | (rename_i f xs ks pos
       cases f <;> first
         | exact ff h
         | (rcases xs with _ | ⟨y, _ | ⟨z, _ | ⟨w, _ | ⟨_, _⟩⟩⟩⟩ <;> cases ks <;> first
              | exact ff h
              | (rename_i n p
                 have h : (decide (oS "range" = n) && glC sx.sc n && sx.bl.contains "range" && mE sx a y && mE sx b z && mE sx d w && nst y && nst z && nst w) = true := h
                 simp only [Bool.and_eq_true, decide_eq_true_eq] at h
                 obtain ⟨⟨⟨⟨⟨⟨⟨⟨rfl, h1⟩, h2⟩, h3⟩, h4⟩, h5⟩, h6⟩, h7⟩, h8⟩ := h
                 exact ⟨p, y, z, w, pos, rfl, h1, h2, h3, h4, h5, h6, h7, h8⟩)))
theorem inv_en {a : Ex} {tp : Bool} (h : mI sx (.en a) x tp = true) : tp = true ∧ ∃ p y pos, x = .Call (.Name (oS "enumerate") p) [y] [] pos ∧ glC sx.sc (oS "enumerate") = true ∧ sx.bl.contains "enumerate" = true ∧ mE sx a y = true ∧ nst y = true := by
  cases x <;> first
    | exact ff h
    | (rename_i f xs ks pos
       cases f <;> first
         | exact ff h
         | (rcases xs with _ | ⟨y, _ | ⟨z, _⟩⟩ <;> cases ks <;> first
              | exact ff h
              | (rename_i n p
                 have h : (tp && decide (oS "enumerate" = n) && glC sx.sc n && sx.bl.contains "enumerate" && mE sx a y && nst y) = true := h
                 simp only [Bool.and_eq_true, decide_eq_true_eq] at h
                 obtain ⟨⟨⟨⟨⟨h0, rfl⟩, h1⟩, h2⟩, h3⟩, h4⟩ := h
                 exact ⟨h0, p, y, pos, rfl, h1, h2, h3, h4⟩)))
theorem inv_zp {a b : Ex} {tp : Bool} (h : mI sx (.zp a b) x tp = true) : tp = true ∧ ∃ p y z pos, x = .Call (.Name (oS "zip") p) [y, z] [] pos ∧ glC sx.sc (oS "zip") = true ∧ sx.bl.contains "zip" = true ∧ mE sx a y = true ∧ mE sx b z = true ∧ nst y = true ∧ nst z = true := by
  cases x <;> first
    | exact ff h
    | (rename_i f xs ks pos
       cases f <;> first
         | exact ff h
         | (rcases xs with _ | ⟨y, _ | ⟨z, _ | ⟨_, _⟩⟩⟩ <;> cases ks <;> first
              | exact ff h
              | (rename_i n p
                 have h : (tp && decide (oS "zip" = n) && glC sx.sc n && sx.bl.contains "zip" && mE sx a y && mE sx b z && nst y && nst z) = true := h
                 simp only [Bool.and_eq_true, decide_eq_true_eq] at h
                 obtain ⟨⟨⟨⟨⟨⟨⟨h0, rfl⟩, h1⟩, h2⟩, h3⟩, h4⟩, h5⟩, h6⟩ := h
                 exact ⟨h0, p, y, z, pos, rfl, h1, h2, h3, h4, h5, h6⟩)))
theorem fset_mI {it : It} {tp : Bool} (h : mI sx it x tp = true) (env : Env) (v : Value) : foldedSetIterable x env v = pure v := by
  cases it with
  | ex e =>
    have h : (mE sx e x && notSet x) = true := h
    simp only [Bool.and_eq_true] at h
    exact fset_of h.2 v
  | r1 a => obtain ⟨p, y, pos, rfl, _⟩ := inv_r1 h; rfl
  | r2 a b => obtain ⟨p, y, z, pos, rfl, _⟩ := inv_r2 h; rfl
  | r3 a b c => obtain ⟨p, y, z, w, pos, rfl, _⟩ := inv_r3 h; rfl
  | en a => obtain ⟨_, p, y, pos, rfl, _⟩ := inv_en h; rfl
  | zp a b => obtain ⟨_, p, y, z, pos, rfl, _⟩ := inv_zp h; rfl
  | its a => exact ff h
theorem tp_tuple {t : Tg} {g : Expr} (h : mG sx t g = true) (ht : isTp t = true) : ∃ es kk pos, g = .Tuple es kk pos := by
  cases t with
  | nm i => cases ht
  | tp ts => cases g <;> first | exact ff h | exact ⟨_, _, _, rfl⟩
end
end VI

set_option Elab.async false
set_option linter.all false
set_option maxRecDepth 100000
set_option maxHeartbeats 4000000
set_option autoImplicit false
namespace VI
open PySem PySem.Spec PyProof.Rows L2

theorem fmap_congr {α β : Type} {f g : α → Option β} : ∀ {l : List α}, (∀ x ∈ l, f x = g x) → l.filterMap f = l.filterMap g
  | [], _ => rfl
  | x :: l, h => by
    rw [List.filterMap_cons, List.filterMap_cons, h x (List.mem_cons_self ..), fmap_congr fun y hy => h y (List.mem_cons_of_mem _ hy)]
section
variable {prog : Program} {w : World} {A : Around} {E : Value → Shared → Prop} {s : Shared}
theorem adjust_rev (n : Nat) : Builtin.Slice.sliceAdjust none none (-1) (n : Int) = ((n : Int) - 1, -1) := rfl
theorem places_rev (n : Nat) : Builtin.Slice.slicePlaces ((n : Int) - 1) (-1) (-1) = n := by
  unfold Builtin.Slice.slicePlaces
  have h1 : ¬ ((-1 : Int) > 0) := by omega
  simp only [h1, if_false]
  split
  · rw [show (- -1 : Int) = 1 by decide, Int.ediv_one]; omega
  · omega
theorem applied_rev {sl : Addr} {vs : Value} {n : Nat} {Q : Int × Int × Nat → Shared → Prop} (hs : s.heap.IsSliceOf sl .none .none vs) (ps : IsPart vs (some (-1)))
    (h : Q ((n : Int) - 1, -1, n) s) : wpAny (model prog w) A (Builtin.Slice.sliceApplied (.ref sl) (pure (n : Int))) Q E s := by
  obtain ⟨os, hos, hcs, hds⟩ := id hs
  unfold Builtin.Slice.sliceApplied Builtin.Slice.sliceFields
  refine wpAny_bind (wpAny_bind (wpAny_field hos hds (x := .none) rfl (wpAny_bind (wpAny_field hos hds (x := .none) rfl (wpAny_bind (wpAny_field hos hds (x := vs) rfl (wpAny_pure ?_)))))))
  refine wpAny_bind (HT.slicePart_ ps ?_)
  show wpAny _ _ (if ((-1 : Int) == 0) = true then _ else _) _ _ s
  rw [if_neg (by decide)]
  refine wpAny_bind (HT.slicePart_ .none (wpAny_bind (HT.slicePart_ .none (wpAny_bind (wpAny_pure ?_)))))
  show wpAny _ _ (match Builtin.Slice.sliceAdjust none none (-1) (n : Int) with | (lo, hi) => pure (lo, (-1 : Int), Builtin.Slice.slicePlaces lo hi (-1))) _ _ s
  rw [adjust_rev n]
  show wpAny _ _ (pure ((n : Int) - 1, (-1 : Int), Builtin.Slice.slicePlaces ((n : Int) - 1) (-1) (-1))) _ _ s
  rw [places_rev]
  exact wpAny_pure h
theorem pick_rev (xs : Array Value) : ((List.range xs.size).filterMap fun (m : Nat) => xs[(((xs.size : Int) - 1) + (m : Int) * (-1)).toNat]?).toArray = xs.toList.reverse.toArray := by
  congr 1
  apply List.ext_getElem?
  intro i
  have h1 : ((List.range xs.size).filterMap fun (m : Nat) => xs[(((xs.size : Int) - 1) + (m : Int) * (-1)).toNat]?) = (List.range xs.size).map fun (m : Nat) => xs.toList.getD (xs.size - 1 - m) .none := by
    rw [← List.filterMap_eq_map]
    apply fmap_congr
    intro m hm
    have hm := List.mem_range.mp hm
    have e : (((xs.size : Int) - 1) + (m : Int) * (-1)).toNat = xs.size - 1 - m := by omega
    rw [e]
    have hl : xs.size - 1 - m < xs.size := by omega
    simp [List.getD, hl]
  rw [h1]
  by_cases hi : i < xs.size
  · rw [List.getElem?_map, List.getElem?_range hi, List.getElem?_reverse (by simpa using hi)]
    have hl : xs.size - 1 - i < xs.size := by omega
    simp [List.getD, hl]
  · rw [List.getElem?_eq_none (by simp; omega), List.getElem?_eq_none (by simp; omega)]
theorem getItem_tuple_rev {t sl : Addr} {items : Array Value} {vs : Value} {Q : Value → Shared → Prop} (ht : IsTup s.heap t items) (hs : s.heap.IsSliceOf sl .none .none vs) (ps : IsPart vs (some (-1)))
    (h : Q (.ref s.heap.objs.size) { s with heap := s.heap.push { cls := .type "tuple", data := .seq items.toList.reverse.toArray } })
    (hsz : items.size ≤ sizeLine) : wpAny (model prog w) A (getItem (.ref t) (.ref sl)) Q E s := by
  have htake : sizeOk (.seq items.toList.reverse.toArray) := by
    show items.toList.reverse.toArray.size ≤ sizeLine
    rw [List.size_toArray, List.length_reverse, Array.length_toList]
    exact hsz
  obtain ⟨os, hos, hcs, hds⟩ := id hs
  have hTs : s.TypeIs (.ref sl) "slice" := ⟨os, hos, hcs⟩
  unfold getItem
  try with_reducible refine wpAny_holding ?_
  first | refine wpAny_bind (wpAny_pure ?_) | skip
  refine wpAny_bind (wpAny_sequenceKey ht.typeIs (by decide) ?_)
  refine wpAny_bind (wpAny_callSpecial?_slot (name := Str.ofString "__getitem__") ht.typeIs PyProof.Rows.slot_tuple_getitem
    (wpAny_call_entry PyProof.Rows.slot_tuple_getitem ht.typeIs entry_tuple_getitem ?_ (args_tuple_getitem _ _)))
  show wpAny _ _ (Builtin.Tuple.tupleItemsOf (.ref t) >>= _) _ _ s
  refine wpAny_bind (tupleItemsOf_ ht ?_)
  refine wpAny_bind (wpAny_typeOf hTs ?_)
  rw [if_pos (by decide)]
  refine wpAny_bind (applied_rev hs ps ?_)
  show wpAny _ _ (if (((items.size : Int) - 1) == 0 && (-1 : Int) == 1 && items.size == items.size) = true then _ else _) _ _ s
  rw [if_neg (by rw [show ((-1 : Int) == 1) = false by decide]; simp), pick_rev]
  first
    | exact wpAny_bind (m := Builtin.Tuple.tupleExact _) (wpAny_newObj_type (wpAny_pure ⟨_, rfl, wpAny_pure h⟩) htake)
    | exact wpAny_bind (m := Builtin.Tuple.tupleExact _) (wpAny_newObj_type (wpAny_bind (wpAny_pure (wpAny_pure ⟨_, rfl, wpAny_pure h⟩))) htake)
    | exact wpAny_bind (wpAny_bind (m := Builtin.Tuple.tupleExact _) (wpAny_newObj_type (wpAny_pure (wpAny_pure ⟨_, rfl, wpAny_pure h⟩)) htake))
    | exact wpAny_bind (wpAny_bind (m := Builtin.Tuple.tupleExact _) (wpAny_newObj_type (wpAny_pure ⟨_, rfl, wpAny_pure h⟩) htake))
end
theorem filterMap_rev {α : Type} (xs : List α) : ((List.range xs.length).map fun k => xs.length - 1 - k).filterMap (fun i => xs[i]?) = xs.reverse := by
  apply List.ext_getElem?
  intro i
  have h1 : ((List.range xs.length).map fun k => xs.length - 1 - k).filterMap (fun i => xs[i]?) = xs.reverse := by
    cases xs with
    | nil => rfl
    | cons x r =>
      rw [List.filterMap_map]
      have : ((List.range (x :: r).length).filterMap ((fun i => (x :: r)[i]?) ∘ fun k => (x :: r).length - 1 - k)) = (List.range (x :: r).length).map fun k => (x :: r).getD ((x :: r).length - 1 - k) x := by
        rw [← List.filterMap_eq_map]
        apply fmap_congr
        intro m hm
        have hm := List.mem_range.mp hm
        have hl : (x :: r).length - 1 - m < (x :: r).length := by omega
        show (x :: r)[(x :: r).length - 1 - m]? = some ((x :: r).getD ((x :: r).length - 1 - m) x)
        rw [List.getElem?_eq_getElem hl]
        rw [List.getD_eq_getElem?_getD, List.getElem?_eq_getElem hl]; rfl
      rw [this]
      apply List.ext_getElem?
      intro j
      by_cases hj : j < (x :: r).length
      · rw [List.getElem?_map, List.getElem?_range hj, List.getElem?_reverse hj]
        have hl : (x :: r).length - 1 - j < (x :: r).length := by omega
        rw [List.getElem?_eq_getElem hl]
        show some ((x :: r).getD _ x) = _
        rw [List.getD_eq_getElem?_getD, List.getElem?_eq_getElem hl]; rfl
      · rw [List.getElem?_eq_none (by rw [List.length_map, List.length_range]; omega), List.getElem?_eq_none (by rw [List.length_reverse]; omega)]
  rw [h1]
/-- x[::-1] of a list, a tuple, a text -/
def rRev (K : PySem.W.Frag) : V → Hp → VK → Prop := fun x H Q => ∃ B u w, RtAt K B H u x ∧ revD u = some w ∧ Res K B H w Q
theorem pe_rev0 {X : Cx} {e : Expr} {te : TE} {k : Nat} {p1 p2 p3 pos : Pos} (he : PE X e te) : PE X (.Subscript e (.Slice none none (some (.UnaryOp .USub (.Constant (.int 1) k p1) p2)) p3) pos) (fun σ H Q => te σ H fun x H1 => rRev X.K x H1 Q) := by
  refine ⟨fun pins s σ H Q I h => ?_⟩
  refine Subscript_ (thn (he.run pins s σ H _ I h) fun v s1 ⟨x, H1, I1, r1, q1⟩ => ?_)
  obtain ⟨B, u, w, ha, e0, q⟩ := q1
  have hst : PO X (some (.UnaryOp .USub (.Constant (.int 1) k p1) p2)) (tPart (tUn (rU fun i => .int (-i)) (tC (.int 1)))) := po_some (pe_un un_neg pe_int)
  refine wpAny_Slice (thn (po_none.run pins s1 σ H1 (fun o H2 => o = none ∧ H2 = H1) I1 ⟨rfl, rfl⟩) fun vl s2 ⟨l, H2, I2, pl, el, e2⟩ => ?_)
  subst el e2
  refine thn (po_none.run pins s2 σ H2 (fun o H3 => o = none ∧ H3 = H2) I2 ⟨rfl, rfl⟩) fun vu s3 ⟨u, H3, I3, pu, eu, e3⟩ => ?_
  subst eu e3
  refine thn (hst.run pins s3 σ H3 (fun o H4 => o = some (-1) ∧ H4 = H3) I3 ⟨1, rfl, -1, rfl, rfl, rfl⟩) fun vs s4 ⟨o, H4, I4, ps, eo, e4⟩ => ?_
  subst eo e4
  have I5 : Inv X pins σ H4 { s4 with heap := s4.heap.push { cls := .type "slice", data := .fields #[vl, vu, vs] } } := I4.kept (t' := s4.toks) fun b ob q => Heap.get?_push_of_some _ q
  cases pl
  cases pu
  have hsl := Heap.IsSliceOf.new s4.heap .none .none vs
  have lstCase : ∀ (a : Addr) (xs : List V), x = .ref a → SqL X.K H4 a xs → (∀ p, H4 p = none → Q (.ref p) (upd H4 p (.lst xs.reverse))) → wpAny (model X.prog X.w) X.A (subscriptTail e (.Slice none none (some (.UnaryOp .USub (.Constant (.int 1) k p1) p2)) p3) v (.ref s4.heap.objs.size)) (EP X pins σ Q) X.xe { s4 with heap := s4.heap.push { cls := .type "slice", data := .fields #[.none, .none, vs] } } := by
    intro a xs ex hx q
    subst ex
    cases r1
    obtain ⟨its, r, ht, hz⟩ := I5.list hx
    have hlen := r.length
    refine tail_any (ops := [.ref a, .ref s4.heap.objs.size]) ht.isList.typeIs (PySem.slot_list_getitem.lookup) ?_ (by with_unfolding_all rfl)
    refine wpAny_getItem_list_slice ht.isList hsl .none .none ps (by decide) ?_ (by rw [List.size_toArray]; omega)
    rw [PySem.W.krv_pick]
    refine ⟨.ref _, _, I5.laid (t' := s4.toks) (o := .lst xs.reverse) (fun b ob q => Heap.get?_push_of_some _ q) (Nat.le_refl _) ?_, rfl, q _ (I5.hok.fresh (Nat.le_refl _))⟩
    exact ⟨by rw [List.length_reverse]; exact hz, _, 0, r.reverse, Heap.get?_push_size _ rfl⟩
  have strCase : ∀ z : List Nat, x = .str (tS z) → z.length ≤ Lm → Q (.str (tS z.reverse)) H4 → wpAny (model X.prog X.w) X.A (subscriptTail e (.Slice none none (some (.UnaryOp .USub (.Constant (.int 1) k p1) p2)) p3) v (.ref s4.heap.objs.size)) (EP X pins σ Q) X.xe { s4 with heap := s4.heap.push { cls := .type "slice", data := .fields #[.none, .none, vs] } } := by
    intro z ex hl q
    subst ex
    obtain ⟨t, rfl⟩ := r1
    have hps : ∃ tk : Tok, vs = .int (-1) tk := by cases ps; exact ⟨_, rfl⟩
    obtain ⟨tk, rfl⟩ := hps
    refine tail_any (ops := [.str (tS z) t, .ref s4.heap.objs.size]) (typeIs_str _ _ _) (F.slot_str_getitem.lookup) ?_ (by with_unfolding_all rfl)
    refine wpAny_getItem_str_slice (l := none) (u := none) (st := some (-1, tk)) hsl rfl ?_
    have e5 : slicePicked (tS z) none none (some (-1, tk)) = (List.range z.length).map fun k => z.length - 1 - k := by
      show sliceRange (((tS z).length : Int) - 1) (-1) (-1) = _
      rw [tS_len, PySem.W.krv_sliceRange]
    have e6 : ((slicePicked (tS z) none none (some (-1, tk))).filterMap ((tS z).cps[·]?)).toArray = z.reverse.toArray := by
      rw [e5]
      congr 1
      rw [← filterMap_rev z]
      apply fmap_congr
      intro i _
      simp [tS]
    unfold sliceMade
    rw [if_neg (by simp), e6]
    refine ⟨?_, .str (tS z.reverse), H4, I5.tok _, ⟨_, rfl⟩, q⟩
    show (tS z.reverse).length ≤ sizeLine
    rw [tS_len, List.length_reverse, lm_eq]; exact hl
  unfold revD at e0
  split at e0 <;> cases e0
  · obtain ⟨ex, hl⟩ := ha
    exact strCase _ ex hl (q.str (by rw [List.length_reverse]; exact hl))
  · obtain ⟨a, xs, rfl, hx, rr⟩ := ha
    cases r1
    obtain ⟨its, r, ht, hz⟩ := I5.tuple hx.sq
    have hlen := r.length
    refine tail_any (ops := [.ref a, .ref s4.heap.objs.size]) ht.typeIs (PyProof.Rows.slot_tuple_getitem.lookup) ?_ (by with_unfolding_all rfl)
    refine getItem_tuple_rev ht hsl ps ?_ (by rw [List.size_toArray]; omega)
    refine ⟨.ref _, _, I5.laid (t' := s4.toks) (o := .tup xs.reverse) (fun b ob q => Heap.get?_push_of_some _ q) (Nat.le_refl _) ?_, rfl, q _ _ (.tup (I5.hok.fresh (Nat.le_refl _)) rr.reverse)⟩
    exact ⟨by rw [List.length_reverse]; exact hz, _, r.reverse, IsTup.new _ _⟩
  · obtain ⟨a, xs, rfl, hx, rr⟩ := ha
    exact lstCase a xs rfl hx.sq fun p hp => q _ _ (.lst hp rr.reverse)
  · obtain ⟨a, rfl, xs, hx, rr⟩ := ha
    exact lstCase a xs rfl (SqL.of hx) fun p hp => q _ _ (.lst hp rr.reverse)
theorem pe_rev' {X : Cx} {e : Expr} {da : Fr → R Opd} {k : Nat} {p1 p2 p3 pos : Pos} (he : PE X e (tO X.K da)) : PE X (.Subscript e (.Slice none none (some (.UnaryOp .USub (.Constant (.int 1) k p1) p2)) p3) pos) (tD X.K fun f => (da f).bind fun x f1 => ofO f1 ((rd f1 x).bind revD)) := by
  refine pe_weak (pe_rev0 he) fun σ H Q ⟨T, f, m, r, f', S, e, q⟩ => ?_
  obtain ⟨x, f1, ex, e⟩ := bind_ok e
  obtain ⟨e, rfl⟩ := ofO_ok e
  simp only [Option.bind_eq_some_iff] at e
  obtain ⟨u, e1, e2⟩ := e
  exact ⟨T, f, m, x, f', S, ex, fun v H' m' T' P h => ⟨_, u, r, h.rd P.sim e1, e2, fin_new P q⟩⟩
end VI

set_option Elab.async false
set_option linter.all false
set_option maxRecDepth 100000
set_option maxHeartbeats 4000000
set_option autoImplicit false
namespace VI
open PySem PySem.Spec PyProof.Rows L2
theorem isD_of {K : PySem.W.Frag} {B : AP} {H : Hp} {u : Rt} {v : V} (h : recOk "get" u = true) (r : RtAt K B H u v) : ∃ a ob, u = .o ob ∧ v = .ref a ∧ IsD H a ∧ OwnAt K B H a ob := by
  cases u with
  | v d => cases d <;> simp [recOk] at h
  | o ob =>
    obtain ⟨a, rfl, ho⟩ := r
    cases ob with
    | lst _ => simp [recOk] at h
    | dK kvs => obtain ⟨kws, h1, h2⟩ := id ho; exact ⟨a, _, rfl, rfl, .inl ⟨kws, .inl h1⟩, ho⟩
    | dT kvs => obtain ⟨kws, h1, h2⟩ := id ho; exact ⟨a, _, rfl, rfl, .inr ⟨kws, .inl h1⟩, ho⟩
section
variable {X : Cx} {o e e2 : Expr} {apos cpos : Pos} {n : Str}
theorem m1_of (ho : notC0 o = true) (hs : nst e = true) (hl : (apos.endLine == cpos.line) = true) : M1 X o n apos e cpos where
  base := abase_of ho
  few := by rw [star_cons hs]; rfl
  line := hl
  trees := by rw [star_cons hs]; rfl
theorem m2_of (ho : notC0 o = true) (hs : nst e = true) (hs2 : nst e2 = true) (hl : (apos.endLine == cpos.line) = true) : M2 X o n apos e e2 cpos where
  base := abase_of ho
  few := by rw [star_cons hs, star_cons hs2]; rfl
  line := hl
  trees := by rw [star_cons hs, star_cons hs2]; rfl
theorem pe_get1' {da db : Fr → R Opd} (hu : X.A.units + 1 < cLine) (ho : PE X o (tO X.K da)) (he : PE X e (tO X.K db)) (m : M1 X o "get" apos e cpos) :
    PE X (.Call (.Attribute o "get" apos) [e] [] cpos) (tD X.K fun f => (da f).bind fun x f1 => if ((rd f1 x).any (recOk "get")) = true then ((db f1).bind fun y f2 => .ok [y] f2).bind fun xs f2 =>
      ofO f2 ((rd f2 x).bind fun u => (rds f2 xs).bind fun us => mD "get" u us) else .bad) := by
  refine pe_weak (pe_dget1 hu ho he m) fun σ H Q ⟨T, f, m, r, f', S, e, q⟩ => ?_
  obtain ⟨x, f1, ex, e⟩ := bind_ok e
  split at e
  · rename_i hrec
    obtain ⟨xs, f2, ey, e⟩ := bind_ok e
    obtain ⟨y, f3, ey, ez⟩ := bind_ok ey
    cases ez
    obtain ⟨e, rfl⟩ := ofO_ok e
    simp only [Option.bind_eq_some_iff, rds, Option.map_eq_some_iff, Option.some.injEq] at e
    obtain ⟨u, e1, us, ⟨w, e2, _, rfl, rfl⟩, e3⟩ := e
    refine ⟨T, f, m, x, f1, S, ex, fun v H1 m1 T1 P1 h1 => ?_⟩
    obtain ⟨u0, r0, ok0, ra⟩ := rec_at h1 P1.sim hrec
    obtain ⟨a, ob, rfl, rfl, isd, _⟩ := isD_of ok0 ra
    refine ⟨a, rfl, isd, T1, f1, m1, y, f', P1.sim, ey, fun yv H2 m2 T2 P2 h2 => ?_⟩
    have ru := (h1.st P1.sim P2).rd P2.sim e1
    have rw' := h2.rd P2.sim e2
    cases u with
    | v d => simp [mD] at e3
    | o ob' =>
      obtain ⟨a', ea, ho'⟩ := ru
      cases ea
      simp only [mD, Option.map_eq_some_iff] at e3
      obtain ⟨od, e4, rfl⟩ := e3
      obtain ⟨ov, g, hov⟩ := dget_ok ho' rw' e4
      refine ⟨ov, g, ?_⟩
      have fin := fin_new (P1.trans P2) q
      rcases hov with ⟨rfl, rfl⟩ | ⟨d, v, rfl, rfl, hr⟩
      · exact fin.v (d := .non) rfl
      · exact fin.v hr
  · cases e
/-- .. with a default -/
theorem pe_get2' {da db : Fr → R Opd} {dc : Fr → R Rt} (hu : X.A.units + 1 < cLine) (ho : PE X o (tO X.K da)) (he : PE X e (tO X.K db)) (hf : PE X e2 (tD X.K dc)) (m : M2 X o "get" apos e e2 cpos) :
    PE X (.Call (.Attribute o "get" apos) [e, e2] [] cpos) (tD X.K fun f => (da f).bind fun x f1 => if ((rd f1 x).any (recOk "get")) = true then (db f1).bind fun y f2 => (dc f2).bind fun z f3 => match fz z with
      | none => .bad
      | some d => ofO f3 ((rd f3 x).bind fun u => (rd f3 y).bind fun v => getD2 u v d) else .bad) := by
  refine pe_weak (pe_dget2 hu ho he hf m) fun σ H Q ⟨T, f, m, r, f', S, e, q⟩ => ?_
  obtain ⟨x, f1, ex, e⟩ := bind_ok e
  split at e
  · rename_i hrec
    obtain ⟨y, f2, ey, e⟩ := bind_ok e
    obtain ⟨z, f3, ez, e⟩ := bind_ok e
    split at e
    · cases e
    rename_i dz hdz
    obtain ⟨e, rfl⟩ := ofO_ok e
    simp only [Option.bind_eq_some_iff] at e
    obtain ⟨u, e1, w, e2, e3⟩ := e
    refine ⟨T, f, m, x, f1, S, ex, fun v H1 m1 T1 P1 h1 => ?_⟩
    obtain ⟨u0, r0, ok0, ra⟩ := rec_at h1 P1.sim hrec
    obtain ⟨a, ob, rfl, rfl, isd, _⟩ := isD_of ok0 ra
    refine ⟨a, rfl, isd, T1, f1, m1, y, f2, P1.sim, ey, fun yv H2 m2 T2 P2 h2 => ?_⟩
    refine ⟨T2, f2, m2, z, f', P2.sim, ez, fun zv H3 m3 T3 P3 h3 => ?_⟩
    have rz := fz_rep P2.sim P3 h3 hdz
    have P3 := P3.drop
    have ru := (h1.st P1.sim (P2.trans P3)).rd P3.sim e1
    have ry := (h2.st P2.sim P3).rd P3.sim e2
    cases u with
    | v d => simp [getD2] at e3
    | o ob' =>
      obtain ⟨a', ea, ho'⟩ := ru
      cases ea
      simp only [getD2, Option.map_eq_some_iff] at e3
      obtain ⟨od, e4, rfl⟩ := e3
      obtain ⟨ov, g, hov⟩ := dget_ok ho' ry e4
      refine ⟨ov, g, ?_⟩
      have fin := fin_new ((P1.trans P2).trans P3) q
      rcases hov with ⟨rfl, rfl⟩ | ⟨d, v, rfl, rfl, hr⟩
      · exact fin.v rz
      · exact fin.v hr
  · cases e
theorem toPys_at : ∀ {ds : List D} {j : Nat} {z : D}, ds[j]? = some z → (toPys ds)[j]? = some (toPy z)
  | [], _, _, h => by simp at h
  | d :: ds, 0, z, h => by simp at h; subst h; rfl
  | d :: ds, j + 1, z, h => by simpa [toPys] using toPys_at (ds := ds) (j := j) (by simpa using h)
theorem toPys_at' : ∀ {ds : List D} {j : Nat} {z : PyData}, (toPys ds)[j]? = some z → ∃ d, ds[j]? = some d ∧ z = toPy d
  | [], _, _, h => by simp [toPys] at h
  | d :: ds, 0, z, h => by simp [toPys] at h; exact ⟨d, rfl, h.symm⟩
  | d :: ds, j + 1, z, h => by
    obtain ⟨w, h1, h2⟩ := toPys_at' (ds := ds) (j := j) (by simpa [toPys] using h)
    exact ⟨w, by simpa using h1, h2⟩
theorem idxD_some : ∀ {ds : List D} {d : D} {j : Nat}, idxD d ds = some j → ∃ z, ds[j]? = some z ∧ eqD z d = true ∧ ∀ m z', m < j → ds[m]? = some z' → eqD z' d = false
  | [], _, _, h => by simp [idxD] at h
  | x :: ds, d, j, h => by
    simp only [idxD] at h
    split at h
    · cases h; rename_i hx; exact ⟨x, rfl, hx, fun m z' hm => by omega⟩
    · rename_i hx
      rw [Option.map_eq_some_iff] at h
      obtain ⟨i, h1, rfl⟩ := h
      obtain ⟨z, a, b, c⟩ := idxD_some h1
      refine ⟨z, by simpa using a, b, fun m z' hm hz => ?_⟩
      cases m with
      | zero => simp at hz; subst hz; simpa using hx
      | succ m => exact c m z' (by omega) (by simpa using hz)
theorem tyL_of {K : PySem.W.Frag} {B : AP} {H : Hp} {u : Rt} {v : V} (h : recOk "index" u = true) (r : RtAt K B H u v) : tyV K "list" v H := by
  cases u with
  | v d =>
    cases d with
    | lst ds => obtain ⟨a, vs, rfl, h1, _⟩ := r; exact .inl ⟨rfl, vs, h1.sq⟩
    | _ => simp [recOk] at h
  | o ob =>
    obtain ⟨a, rfl, ho⟩ := r
    cases ob with
    | lst _ => obtain ⟨vs, h1, _⟩ := ho; exact .inl ⟨rfl, vs, SqL.of h1⟩
    | dK kvs => simp [recOk] at h
    | dT kvs => simp [recOk] at h
theorem pe_index' {da db : Fr → R Opd} (hu : X.A.units + 65 < cLine) (ho : PE X o (tO X.K da)) (he : PE X e (tO X.K db)) (hb : notC0 o = true) (hs : nst e = true) (hl : (apos.endLine == cpos.line) = true) :
    PE X (.Call (.Attribute o "index" apos) [e] [] cpos) (tD X.K fun f => (da f).bind fun x f1 => if ((rd f1 x).any (recOk "index")) = true then ((db f1).bind fun y f2 => .ok [y] f2).bind fun xs f2 =>
      ofO f2 ((rd f2 x).bind fun u => (rds f2 xs).bind fun us => mD "index" u us) else .bad) := by
  refine pe_weak (pe_bm PySem.F.plainAttrs_list PySem.F.slot_list_index PySem.F.type_list_index (mt_indexD hu) ho (pa_cons he pa_nil (star_cons hs)) (abase_of hb) (by rw [star_cons hs]; rfl) hl (star_cons hs) rfl) fun σ H Q ⟨T, f, m, r, f', S, e, q⟩ => ?_
  obtain ⟨x, f1, ex, e⟩ := bind_ok e
  split at e
  · rename_i hrec
    obtain ⟨xs, f2, ey, e⟩ := bind_ok e
    obtain ⟨y, f3, ey, ez⟩ := bind_ok ey
    cases ez
    obtain ⟨e, rfl⟩ := ofO_ok e
    simp only [Option.bind_eq_some_iff, rds, Option.map_eq_some_iff, Option.some.injEq] at e
    obtain ⟨u, e1, us, ⟨w, e2, _, rfl, rfl⟩, e3⟩ := e
    refine ⟨T, f, m, x, f1, S, ex, fun v H1 m1 T1 P1 h1 => ?_⟩
    obtain ⟨u0, r0, ok0, ra⟩ := rec_at h1 P1.sim hrec
    refine ⟨tyL_of ok0 ra, ?_⟩
    refine ⟨T1, f1, m1, y, f', P1.sim, ey, fun yv H2 m2 T2 P2 h2 => ?_⟩
    have ru := (h1.st P1.sim P2).rd P2.sim e1
    have rw' := h2.rd P2.sim e2
    have fin := fin_new (P1.trans P2) q
    have e3 : (lstR u).bind (fun ds => (pyR w).bind fun d => if (SeqAt.shaped (.list (toPys ds)) && SeqAt.shaped (toPy d)) = true then (idxD d ds).map fun (j : Nat) => Rt.v (.int (j : Int)) else none) = some r := e3
    simp only [Option.bind_eq_some_iff] at e3
    obtain ⟨ds, e4, d, e5, e6⟩ := e3
    split at e6
    · rename_i hd
      rw [Bool.and_eq_true] at hd
      rw [Option.map_eq_some_iff] at e6
      obtain ⟨j, e7, rfl⟩ := e6
      obtain ⟨z, z1, z2, z3⟩ := idxD_some e7
      obtain ⟨a, vs, rfl, hsq, rr⟩ := ru.lst e4
      refine ⟨a, yv, toPy d, toPys ds, j, toPy z, rfl, rfl, .lst hsq (Reps.dp _ _ rr), rw'.dp e5, hd.1, hd.2, toPys_at z1, by rw [eqD_py]; exact z2, fun m z' hm hz => ?_, fin.int⟩
      obtain ⟨d', h1, rfl⟩ := toPys_at' hz
      rw [eqD_py]; exact z3 m d' hm h1
    · cases e6
  · cases e
theorem tyL_ofc {K : PySem.W.Frag} {B : AP} {H : Hp} {u : Rt} {v : V} (h : recOk "count" u = true) (r : RtAt K B H u v) : tyV K "list" v H := by
  cases u with
  | v d =>
    cases d with
    | lst ds => obtain ⟨a, vs, rfl, h1, _⟩ := r; exact .inl ⟨rfl, vs, h1.sq⟩
    | _ => simp [recOk] at h
  | o ob =>
    obtain ⟨a, rfl, ho⟩ := r
    cases ob with
    | lst _ => obtain ⟨vs, h1, _⟩ := ho; exact .inl ⟨rfl, vs, SqL.of h1⟩
    | dK kvs => simp [recOk] at h
    | dT kvs => simp [recOk] at h
theorem pe_count' {da db : Fr → R Opd} (ho : PE X o (tO X.K da)) (he : PE X e (tO X.K db)) (hb : notC0 o = true) (hs : nst e = true) (hl : (apos.endLine == cpos.line) = true) :
    PE X (.Call (.Attribute o "count" apos) [e] [] cpos) (tD X.K fun f => (da f).bind fun x f1 => if ((rd f1 x).any (recOk "count")) = true then ((db f1).bind fun y f2 => .ok [y] f2).bind fun xs f2 =>
      ofO f2 ((rd f2 x).bind fun u => (rds f2 xs).bind fun us => mD "count" u us) else .bad) := by
  refine pe_weak (pe_bm PySem.F.plainAttrs_list PySem.F.slot_list_count PySem.F.type_list_count mt_lcount ho (pa_cons he pa_nil (star_cons hs)) (abase_of hb) (by rw [star_cons hs]; rfl) hl (star_cons hs) rfl) fun σ H Q ⟨T, f, m, r, f', S, e, q⟩ => ?_
  obtain ⟨x, f1, ex, e⟩ := bind_ok e
  split at e
  · rename_i hrec
    obtain ⟨xs, f2, ey, e⟩ := bind_ok e
    obtain ⟨y, f3, ey, ez⟩ := bind_ok ey
    cases ez
    obtain ⟨e, rfl⟩ := ofO_ok e
    simp only [Option.bind_eq_some_iff, rds, Option.map_eq_some_iff, Option.some.injEq] at e
    obtain ⟨u, e1, us, ⟨w, e2, _, rfl, rfl⟩, e3⟩ := e
    refine ⟨T, f, m, x, f1, S, ex, fun v H1 m1 T1 P1 h1 => ?_⟩
    obtain ⟨u0, r0, ok0, ra⟩ := rec_at h1 P1.sim hrec
    refine ⟨tyL_ofc ok0 ra, ?_⟩
    refine ⟨T1, f1, m1, y, f', P1.sim, ey, fun yv H2 m2 T2 P2 h2 => ?_⟩
    have ru := (h1.st P1.sim P2).rd P2.sim e1
    have rw' := h2.rd P2.sim e2
    have fin := fin_new (P1.trans P2) q
    cases w with
    | o _ => simp [mD] at e3
    | v d =>
      cases d with
      | int k =>
        have e3 : (lstR u).bind (fun ds => (intL ds).map fun ns => Rt.v (.int (ns.count k : Nat))) = some r := e3
        simp only [Option.bind_eq_some_iff, Option.map_eq_some_iff] at e3
        obtain ⟨ds, e4, ns, e5, rfl⟩ := e3
        obtain ⟨a, vs, rfl, hsq, rr⟩ := ru.lst e4
        obtain ⟨rfl, _⟩ := intL_reps e5 rr
        exact ⟨a, ns, k, rfl, by rw [show yv = V.int k from rw'], hsq, fin.int⟩
      | _ => simp [mD] at e3
  · cases e
theorem pt_ite' {c e e2 : Expr} {pos : Pos} {dc da db : Fr → R Bool} (hc : PT X c (tTD X.K dc)) (ha : PT X e (tTD X.K da)) (hb : PT X e2 (tTD X.K db)) :
    PT X (.IfExp c e e2 pos) (tTD X.K fun f => (dc f).bind fun k f1 => if k then da f1 else db f1) := by
  refine ⟨fun pins s σ H Q I ⟨T, f, m, k, f', S, e, q⟩ => ?_⟩
  obtain ⟨kc, f1, ec, e⟩ := bind_ok e
  show wpAny _ _ (isTrue c X.env (eval c X.env) >>= _) _ _ s
  refine wpAny_bind (thn (hc.run pins s σ H (fun d H1 => d = kc ∧ ∃ m1, PostX X.K T σ H f m f1 H1 m1 T) I ⟨T, f, m, kc, f1, S, ec, fun H1 m1 P1 => ⟨rfl, m1, P1⟩⟩) fun d s1 ⟨H1, I1, ed, m1, P1⟩ => ?_)
  subst ed
  cases d with
  | true => exact ha.run pins s1 σ H1 Q I1 ⟨T, f1, m1, k, f', P1.sim, e, fun H2 m2 P2 => q H2 m2 (P1.trans P2)⟩
  | false => exact hb.run pins s1 σ H1 Q I1 ⟨T, f1, m1, k, f', P1.sim, e, fun H2 m2 P2 => q H2 m2 (P1.trans P2)⟩
end
end VI

set_option Elab.async false
set_option linter.all false
set_option maxRecDepth 100000
set_option maxHeartbeats 2000000
set_option autoImplicit false
namespace VI
open PySem PySem.Spec PyProof.Rows L2
/-! ### a dict is written -/
section
variable {K : PySem.W.Frag} {B : AP} {H : Hp}
theorem put_reps {κ κ' : Type} [DecidableEq κ] [DecidableEq κ'] {g : κ → κ'} (inj : ∀ a b, g a = g b → a = b) (k : κ) {d : D} {v : V} (r : Rep K B H d v) : ∀ {kvs : List (κ × D)} {kws : List (κ' × V)}, kws.map (·.1) = kvs.map (fun p => g p.1) → Reps K B H (kvs.map (·.2)) (kws.map (·.2)) →
    (kws.any fun kv => decide (kv.1 = g k)) = (kvs.any fun kv => decide (kv.1 = k)) ∧
    (kws.map fun kv => if kv.1 = g k then (kv.1, v) else kv).map (·.1) = (kvs.map fun kv => if kv.1 = k then (kv.1, d) else kv).map (fun p => g p.1) ∧
    Reps K B H ((kvs.map fun kv => if kv.1 = k then (kv.1, d) else kv).map (·.2)) ((kws.map fun kv => if kv.1 = g k then (kv.1, v) else kv).map (·.2))
  | [], [], _, _ => ⟨rfl, rfl, rfl⟩
  | [], _ :: _, h, _ => by simp at h
  | _ :: _, [], h, _ => by simp at h
  | (a, x) :: kvs, (b, y) :: kws, h, hr => by
    simp only [List.map_cons, List.cons.injEq] at h
    obtain ⟨e, h⟩ := h
    have e : b = g a := e
    subst e
    simp only [List.map_cons] at hr
    obtain ⟨v0, r0, e0, hx, hr⟩ := hr
    simp only [List.cons.injEq] at e0
    obtain ⟨rfl, rfl⟩ := e0
    obtain ⟨i1, i2, i3⟩ := put_reps inj k r h hr
    have ek : (g a = g k) = (a = k) := propext ⟨inj a k, fun z => by rw [z]⟩
    refine ⟨?_, ?_, ?_⟩
    · simp only [List.any_cons, i1, ek]
    · by_cases q : a = k
      · subst q
        simpa using i2
      · have q' : ¬ g a = g k := fun z => q (inj _ _ z)
        simpa [q, q'] using i2
    · by_cases q : a = k
      · subst q
        simp only [List.map_cons, if_true]
        exact ⟨_, _, rfl, r, i3⟩
      · have q' : ¬ g a = g k := fun z => q (inj _ _ z)
        simp only [List.map_cons, if_neg q, if_neg q']
        exact ⟨_, _, rfl, hx, i3⟩
theorem put_all {κ κ' : Type} [DecidableEq κ] [DecidableEq κ'] {g : κ → κ'} (inj : ∀ a b, g a = g b → a = b) (k : κ) {d : D} {v : V} (r : Rep K B H d v) {kvs : List (κ × D)} {kws : List (κ' × V)} (h : kws.map (·.1) = kvs.map (fun p => g p.1)) (hr : Reps K B H (kvs.map (·.2)) (kws.map (·.2))) :
    (putK kws (g k) v).map (·.1) = (put kvs k d).map (fun p => g p.1) ∧ Reps K B H ((put kvs k d).map (·.2)) ((putK kws (g k) v).map (·.2)) := by
  obtain ⟨i1, i2, i3⟩ := put_reps inj k r h hr
  unfold putK put
  rw [i1]
  split
  · exact ⟨i2, i3⟩
  · refine ⟨?_, ?_⟩
    · rw [List.map_append, List.map_append, h]; rfl
    · rw [List.map_append, List.map_append]
      exact hr.append (.one r)
/-- o[k] = v of a dict -/
theorem dput_ok {a : Addr} {ob ob2 : Ob} {u : Rt} {y : V} {d : D} {v : V} (h : OwnAt K B H a ob) (ha : B a) (hy : RtAt K B H u y) (r : Rep K B H d v) (e : dput ob u d = some ob2) : ∃ ho, DPut H a y v (upd H a ho) ∧ OwnAt K B (upd H a ho) a ob2 := by
  have mv : ∀ {ds : List D} {vs : List V} {ho : HO}, Reps K B H ds vs → Reps K B (upd H a ho) ds vs := fun {ds vs ho} q => Reps.mv (fun b w nb e => by
    have : b ≠ a := fun z => nb (z ▸ ha)
    rw [upd_ne this]; exact e) (fun _ z => .inl z) _ _ q
  cases ob with
  | lst _ => simp [dput] at e
  | dK kvs =>
    obtain ⟨kws, h1, h2, h3⟩ := h
    simp only [dput, Option.bind_eq_some_iff] at e
    obtain ⟨k, e1, e2⟩ := e
    split at e2
    · rename_i hl
      cases e2
      have ey : y = kV (tK k) := by
        unfold key1 at e1
        split at e1 <;> cases e1
        · exact hy
        · exact hy.1
      subst ey
      have hlen : kws.length = kvs.length := by simpa using congrArg List.length h2
      obtain ⟨p1, p2⟩ := put_all (g := tK) (fun _ _ => tK_inj) k r h2 h3
      exact ⟨_, DPut.k h1 (by rw [hlen, lm_eq]; exact hl), _, upd_same, p1, mv p2⟩
    · cases e2
  | dT kvs =>
    obtain ⟨kws, h1, h2, h3⟩ := h
    simp only [dput, Option.bind_eq_some_iff] at e
    obtain ⟨k, e1, e2⟩ := e
    split at e2
    · rename_i hl
      cases e2
      unfold keyT at e1
      split at e1
      · obtain ⟨b, vs, rfl, ht, rr⟩ := hy
        have ev := keys1_reps e1 rr
        subst ev
        have hlen : kws.length = kvs.length := by simpa using congrArg List.length h2
        obtain ⟨p1, p2⟩ := put_all (g := List.map tK) (fun _ _ => tKs_inj) k r h2 h3
        exact ⟨_, DPut.t h1 ht.2 (by rw [hlen, lm_eq]; exact hl), _, upd_same, p1, mv p2⟩
      · cases e1
    · cases e2
end

/-! ### displays of dicts -/
section
variable {X : Cx} {pins : List (Addr × Obj)} {σ : L2.St} {H H' : Hp} {s : Shared} {a : Addr} {y v : V} {u r : Value}
theorem d_dictSetA {E : Value → Shared → Prop} {Q : Unit → Shared → Prop} (hu : X.A.units < cLine) (I : Inv X pins σ H s) (g : DPut H a y v H') (ry : RelV y u) (rv : RelV v r) (h : ∀ s', Inv X pins σ H' s' → Q () s') :
    wpAny (model X.prog X.w) X.A (dictSet a u r) Q E s := by
  rcases g with ⟨kvs, k, e, ey, l, eH⟩ | ⟨kvs, k, b, e, ey, eb, l, eH⟩
  · subst ey eH
    exact d_dictSet I e l ry rv h
  · subst ey eH
    cases (show u = Value.ref b from ry)
    obtain ⟨z, hd, xs, rel, dd⟩ := dt_of I.hok e
    have hz : xs.length ≤ sizeLine := by rw [← Paired.length rel]; exact z
    have hl : (putK kvs k v).length ≤ sizeLine := by have := length_putK kvs k v; omega
    refine wpAny_dictSet_heap (knd := tupleKind (mixKind X.prog X.w)) (hsz := hz) hu (key_of I.hok eb) dd fun h' dd' hs => h _ ?_
    obtain ⟨q, es, ep, hq, h2, h3, h4, _, h5⟩ := dd'
    refine d_write I (by rw [e]; exact True.intro) hs ⟨q, hq⟩ ⟨hl, hd, _, (rel.put k eb rv).keeps fun c ys ec => ?_, q, es, ep, hq, h2, h3, h4, h5⟩
    rw [upd_ne (ne_of ec e (fun z => nomatch z))]
    exact ec
/-- the pairs of a display, as values -/
def RepPs (K : PySem.W.Frag) (B : AP) (H : Hp) (ps : List (D × D)) (vs : List (V × V)) : Prop := Reps K B H (ps.map (·.1)) (vs.map (·.1)) ∧ Reps K B H (ps.map (·.2)) (vs.map (·.2))
theorem store_all {E : Value → Shared → Prop} {Q : PUnit → Shared → Prop} {B : AP} (hu : X.A.units < cLine) (ha : B a) {ob' : Ob} : ∀ {ps : List (D × D)} {vs : List (V × V)} {ws : List (Value × Value)} {H : Hp} {s : Shared} {ob : Ob}, Inv X pins σ H s → OwnAt X.K B H a ob → RepPs X.K B H ps vs → VV vs ws → dputs ob ps = some ob' →
    (∀ ho s', Inv X pins σ (upd H a ho) s' → OwnAt X.K B (upd H a ho) a ob' → (∀ xs, ho ≠ .tup xs) → Q PUnit.unit s') →
    wpAny (model X.prog X.w) X.A (forIn ws PUnit.unit fun (x : Value × Value) (_ : PUnit) => (do dictSet a x.1 x.2; pure (ForInStep.yield PUnit.unit) : Sem (ForInStep PUnit))) Q E s
  | [], vs, ws, H, s, ob, I, ho, hr, hv, e, q => by
    have : vs = [] := by have := hr.1; simpa [Reps] using this
    subst this
    cases hv
    cases e
    rw [List.forIn_nil]
    refine wpAny_pure ?_
    have hm := ho.mut
    cases eo : H a with
    | none => exact absurd eo ho.tr
    | some o =>
      have eu : upd H a o = H := by
        funext b
        unfold upd
        split
        · rename_i hb; rw [hb, eo]
        · rfl
      exact q o s (by rw [eu]; exact I) (by rw [eu]; exact ho) (fun xs z => by rw [eo, z] at hm; exact hm)
  | p :: ps, vs, ws, H, s, ob, I, ho, hr, hv, e, q => by
    obtain ⟨hr1, hr2⟩ := hr
    cases vs with
    | nil => obtain ⟨_, _, z, _⟩ := hr1; cases z
    | cons v0 vs =>
      obtain ⟨k0, ks, z1, rk, hr1⟩ := hr1
      obtain ⟨x0, xs, z2, rx, hr2⟩ := hr2
      rw [List.map_cons] at z1 z2
      obtain ⟨rfl, rfl⟩ := List.cons.inj z1
      obtain ⟨rfl, rfl⟩ := List.cons.inj z2
      cases hv with
      | cons h1 h2 =>
        rename_i w0 ws
        have e : (dput ob (.v p.1) p.2).bind (fun ob1 => dputs ob1 ps) = some ob' := e
        rw [Option.bind_eq_some_iff] at e
        obtain ⟨ob1, e1, e2⟩ := e
        obtain ⟨hn, hg, ho2⟩ := dput_ok ho ha (u := .v p.1) rk rx e1
        have mv : ∀ {ds : List D} {vs : List V}, Reps X.K B H ds vs → Reps X.K B (upd H a hn) ds vs := fun {ds vs} h => Reps.mv (fun b w nb e => by
          have : b ≠ a := fun z => nb (z ▸ ha)
          rw [upd_ne this]; exact e) (fun _ z => .inl z) _ _ h
        rw [List.forIn_cons]
        refine wpAny_bind (wpAny_bind (d_dictSetA hu I hg h1.1 h1.2 fun s' I' => wpAny_pure ?_))
        refine store_all hu ha I' ho2 ⟨mv hr1, mv hr2⟩ h2 e2 fun hn2 s2 I2 ho3 hx => ?_
        rw [upd_upd] at I2 ho3
        exact q hn2 s2 I2 ho3 hx
def tKV (K : PySem.W.Frag) (den : Fr → R (List (D × D))) (σ : L2.St) (H : Hp) (Q : List (V × V) → Hp → Prop) : Prop := ∃ T f m ps f', Sim K T σ H f m ∧ den f = .ok ps f' ∧
  ∀ vs H' m', PostX K T σ H f m f' H' m' T → RepPs K (BB m' T) H' ps vs → Q vs H'
structure PKV (X : Cx) (pos : Pos) (keys : List (Option Expr)) (values : List Expr) (den : Fr → R (List (D × D))) : Prop where
  run : ∀ (pins : List (Addr × Obj)) (s : Shared) (σ : L2.St) (H : Hp) (Q : List (V × V) → Hp → Prop), Inv X pins σ H s → tKV X.K den σ H Q →
    wpAny (model X.prog X.w) X.A (evalPairs (pairTrees keys values X.env pos)) (fun vs s' => ∃ ps H', Inv X pins σ H' s' ∧ VV ps vs ∧ Q ps H') X.xe s
theorem pkv_nil {pos : Pos} : PKV X pos [] [] (fun f => .ok [] f) := ⟨fun pins s σ H Q I ⟨T, f, m, ps, f', S, e, q⟩ => by
  cases e
  exact pairTrees_nil_walk ⟨[], H, I, .nil, q [] H m (.refl S) ⟨rfl, rfl⟩⟩⟩
theorem Rep.px {T T' : AP} {f f' : Fr} {m m' : Om} {d : D} {v : V} {H' : Hp} (P : PostX X.K T σ H f m f' H' m' T') (r : Rep X.K (BB m T) H d v) : Rep X.K (BB m' T') H' d v := r.st P.step
theorem pkv_cons {pos : Pos} {k v : Expr} {ks : List (Option Expr)} {vs : List Expr} {dk dv : Fr → R Rt} {dr : Fr → R (List (D × D))} (hk : PE X k (tD X.K dk)) (hv : PE X v (tD X.K dv)) (hr : PKV X pos ks vs dr) :
    PKV X pos (some k :: ks) (v :: vs) (fun f => (dk f).bind fun x f1 => match fz x with
      | none => .bad
      | some d => (dv f1).bind fun y f2 => match fz y with
        | none => .bad
        | some e => (dr f2).bind fun ps f3 => .ok ((d, e) :: ps) f3) := ⟨fun pins s σ H Q I ⟨T, f, m, ps, f', S, e, q⟩ => by
  obtain ⟨x, f1, ex, e⟩ := bind_ok e
  split at e
  · cases e
  · rename_i d hd
    obtain ⟨z, f2, ez, e⟩ := bind_ok e
    split at e
    · cases e
    · rename_i d2 hd2
      obtain ⟨pr, f3, er, e⟩ := bind_ok e
      cases e
      refine pairTrees_cons_walk (thn (hk.run pins s σ H (fun xv H1 => ∃ m1, PostX X.K T σ H f m f1 H1 m1 T ∧ Rep X.K (BB m1 T) H1 d xv) I ⟨T, f, m, x, f1, S, ex, fun xv H1 m1 T1 P1 h1 => ⟨m1, P1.drop, fz_rep S P1 h1 hd⟩⟩) fun kv s1 ⟨xv, H1, I1, r1, m1, P1, rk⟩ => ?_)
      refine thn (hv.run pins s1 σ H1 (fun yv H2 => ∃ m2, PostX X.K T σ H1 f1 m1 f2 H2 m2 T ∧ Rep X.K (BB m2 T) H2 d2 yv) I1 ⟨T, f1, m1, z, f2, P1.sim, ez, fun yv H2 m2 T2 P2 h2 => ⟨m2, P2.drop, fz_rep P1.sim P2 h2 hd2⟩⟩) fun vv s2 ⟨yv, H2, I2, r2, m2, P2, rv⟩ => ?_
      refine thn (hr.run pins s2 σ H2 (fun vs H3 => ∃ m3, PostX X.K T σ H2 f2 m2 f' H3 m3 T ∧ RepPs X.K (BB m3 T) H3 pr vs) I2 ⟨T, f2, m2, pr, f', P2.sim, er, fun vs H3 m3 P3 h3 => ⟨m3, P3, h3⟩⟩) fun ws s3 ⟨vs, H3, I3, rel, m3, P3, rps⟩ => ?_
      refine ⟨(xv, yv) :: vs, H3, I3, .cons ⟨r1, r2⟩ rel, q _ H3 m3 ((P1.trans P2).trans P3) ⟨⟨xv, _, rfl, (rk.px P2).px P3, rps.1⟩, ⟨yv, _, rfl, rv.px P3, rps.2⟩⟩⟩⟩
theorem pe_dsp' {t : Bool} {pos : Pos} {keys : List (Option Expr)} {values : List Expr} {d : Fr → R (List (D × D))} (hu : X.A.units < cLine) (h : PKV X pos keys values d) (hall : keys.all (·.isSome) = true) (hl : keys.length = values.length) (h0 : keys ≠ []) (h15 : keys.length ≤ 15) :
    PE X (.Dict keys values pos) (tD X.K fun f => (d f).bind fun ps f1 => if ps.length ≤ 15 then ofO f1 ((dputs (if t then .dT [] else .dK []) ps).map .o) else .bad) := by
  refine ⟨fun pins s σ H Q I ⟨T, f, m, r, f', S, e, q⟩ => ?_⟩
  obtain ⟨ps, f1, ep, e⟩ := bind_ok e
  split at e
  rotate_left
  · cases e
  obtain ⟨e4, e5⟩ := ofO_ok e
  subst e5
  rw [Option.map_eq_some_iff] at e4
  obtain ⟨ob, eo, rfl⟩ := e4
  have hn := I.hok.fresh (Nat.le_refl s.heap.objs.size)
  have hpl := pairTrees_length keys values X.env pos hall hl
  rw [arm_eval_Dict, zip_pairTrees keys values X.env pos hall hl, dictDisplay_pairs _ (fun z => by rw [z] at hpl; exact h0 (List.length_eq_zero_iff.mp hpl.symm)) (by omega)]
  refine wpAny_bind (wpAny_standAt (wpAny_bind ?_))
  unfold subDict
  refine wpAny_bind (wpAny_alloc ?_)
  refine wpAny_bind (wpAny_holding ?_)
  rw [if_pos (by rw [hpl]; exact h15)]
  obtain ⟨emp, ob0, hemp, hob, I1, hemp2⟩ : ∃ (emp : HO) (ob0 : Ob), (∀ xs, emp ≠ .tup xs) ∧ (if t then Ob.dT [] else Ob.dK []) = ob0 ∧ Inv X pins σ (upd H s.heap.objs.size emp) { s with heap := s.heap.push { cls := .type "dict", data := .dict #[] } } ∧
      (∀ (B : AP) (H2 : Hp), H2 s.heap.objs.size = some emp → OwnAt X.K B H2 s.heap.objs.size ob0) := by
    cases t with
    | true => exact ⟨.dT [], .dT [], (fun xs z => nomatch z), rfl, I.laid (a := s.heap.objs.size) (o := .dT []) (h' := s.heap.push { cls := .type "dict", data := .dict #[] }) (t' := s.toks) (fun _ _ q => Heap.get?_push_of_some _ q) (Nat.le_refl _) (dt_empty s.heap I.big), fun B H2 e => ⟨[], e, rfl, rfl⟩⟩
    | false => exact ⟨.dK [], .dK [], (fun xs z => nomatch z), rfl, I.laid (a := s.heap.objs.size) (o := .dK []) (h' := s.heap.push { cls := .type "dict", data := .dict #[] }) (t' := s.toks) (fun _ _ q => Heap.get?_push_of_some _ q) (Nat.le_refl _) (dk_empty s.heap I.big), fun B H2 e => ⟨[], e, rfl, rfl⟩⟩
  have S1 := S.newT (o := emp) hn hemp
  refine wpAny_bind (thn (h.run pins _ σ _ (fun vs H2 => ∃ m2, PostX X.K (TT1 T s.heap.objs.size) σ (upd H s.heap.objs.size emp) f m f' H2 m2 (TT1 T s.heap.objs.size) ∧ RepPs X.K (BB m2 (TT1 T s.heap.objs.size)) H2 ps vs) I1 ⟨_, f, m, ps, f', S1, ep, fun vs H2 m2 P h2 => ⟨m2, P, h2⟩⟩) fun ws s2 ⟨vs, H2, I2, rel, m2, P2, rps⟩ => ?_)
  refine wpAny_holding ?_
  have tp : TT1 T s.heap.objs.size s.heap.objs.size := .inr rfl
  have hp2 : H2 s.heap.objs.size = some emp := P2.step.keep _ _ upd_same fun z => S1.nt tp z
  rw [hob] at eo
  refine wpAny_bind (store_all (B := BB m2 (TT1 T s.heap.objs.size)) hu (.inr tp) I2 (hemp2 _ _ hp2) rps rel eo fun ho s3 I3 hown hnt => wpAny_pure (wpAny_pure (wpAny_pure ?_)))
  have st0 : Step m T H m (TT1 T s.heap.objs.size) (upd H s.heap.objs.size emp) := Step.new hn _ fun b z => z
  have P3 : PostX X.K T σ H f m f' (upd H2 s.heap.objs.size ho) m2 (TT1 T s.heap.objs.size) :=
    ⟨P2.sim.wrT tp hnt, (st0.trans P2.step).wr0 hn, P2.ml, fun a z => .inl z, P2.kp⟩
  exact ⟨.ref s.heap.objs.size, _, I3, rfl, q _ _ m2 _ P3 ⟨_, rfl, hn, rfl, hown⟩⟩
end
/-! ### list(range(..)) -/
section
variable {X : Cx}
theorem rng_rep {K : PySem.W.Frag} {B : AP} {H : Hp} (i j : Int) : Reps K B H (rng i j) (rgV i j) := by
  unfold rng rgV
  generalize List.range (j - i).toNat = l
  induction l with
  | nil => rfl
  | cons n l ih => exact ⟨_, _, rfl, rfl, ih⟩
theorem lrF_ok {i j : Int} {f f' : Fr} {r : Rt} (e : lrF i j f = .ok r f') : f' = f ∧ r = .o (.lst (rng i j)) ∧ RgOk i j := by
  unfold lrF at e
  split at e
  · rename_i h
    cases e
    rw [Bool.and_eq_true, Bool.and_eq_true] at h
    have h1 := bnd_of h.1.1
    have h2 := bnd_of h.1.2
    have h3 := Nat.le_of_ble_eq_true h.2
    exact ⟨rfl, rfl, h1.1, h1.2, h2.1, h2.2, by omega⟩
  · cases e
theorem pe_lr1' (hc : X.calm = true) {a : Expr} {da : Fr → R Opd} {p pp pos2 pos : Pos} (hg : Gl X "list") (hm : X.mg "list" = none) (hgr : Gl X "range") (hmr : X.mg "range" = none) (hn : nst a = true) (ha : PE X a (tO X.K da)) :
    PE X (.Call (.Name "list" p) [.Call (.Name "range" pp) [a] [] pos2] [] pos) (tD X.K fun f => (da f).bind fun x f1 => match rd f1 x with
      | some (.v (.int j)) => lrF 0 j f1
      | _ => .bad) :=
  pe_weak (pe_listRg hc hg hm (prg_1 hgr hmr ha (star_cons hn))) fun σ H Q ⟨T, f, m, r, f', S, e, q⟩ => by
    obtain ⟨x, f1, ex, e⟩ := bind_ok e
    split at e
    · rename_i j e1
      obtain ⟨rfl, rfl, ok⟩ := lrF_ok e
      refine ⟨T, f, m, x, f', S, ex, fun v H' m' T' P hx => ⟨j, hx.rd P.sim e1, ok, fun p hp => ?_⟩⟩
      exact fin_new P q _ _ (.lst hp (rng_rep 0 j))
    · cases e
theorem pe_lr2' (hc : X.calm = true) {a b : Expr} {da db : Fr → R Opd} {p pp pos2 pos : Pos} (hg : Gl X "list") (hm : X.mg "list" = none) (hgr : Gl X "range") (hmr : X.mg "range" = none) (hn : nst a = true) (hn2 : nst b = true) (ha : PE X a (tO X.K da)) (hb : PE X b (tO X.K db)) :
    PE X (.Call (.Name "list" p) [.Call (.Name "range" pp) [a, b] [] pos2] [] pos) (tD X.K fun f => (da f).bind fun x f1 => (db f1).bind fun y f2 => match rd f2 x, rd f2 y with
      | some (.v (.int i)), some (.v (.int j)) => lrF i j f2
      | _, _ => .bad) :=
  pe_weak (pe_listRg hc hg hm (prg_2 hgr hmr ha hb (star_cons hn) (star_cons hn2) (star_plain (by simp [hn2])))) fun σ H Q ⟨T, f, m, r, f', S, e, q⟩ => by
    obtain ⟨x, f1, ex, e⟩ := bind_ok e
    obtain ⟨y, f2, ey, e⟩ := bind_ok e
    split at e
    · rename_i i j e1 e2
      obtain ⟨rfl, rfl, ok⟩ := lrF_ok e
      refine ⟨T, f, m, x, f1, S, ex, fun v H1 m1 T1 P1 h1 => ⟨T1, f1, m1, y, f', P1.sim, ey, fun u H2 m2 T2 P2 h2 => ⟨i, j, (h1.st P1.sim P2).rd P2.sim e1, h2.rd P2.sim e2, ok, fun p hp => ?_⟩⟩⟩
      exact fin_new (P1.trans P2) q _ _ (.lst hp (rng_rep i j))
    · cases e
/-! ### sorted(d.items()) -/
theorem ents_dT {K : PySem.W.Frag} {B : AP} {H : Hp} : ∀ {kvs : List (List K1 × D)} {kws : List (List L2.Key × V)} {bs : List Addr}, IsKeys H kws bs → kws.length = kvs.length → ((bs.zip kws).map fun p => (V.ref p.1, p.2.2)).map (·.2) = kws.map (·.2)
  | _, [], bs, h, _ => by cases h; rfl
  | [], _ :: _, bs, h, e => by simp at e
  | _ :: kvs, q :: kws, bs, h, e => by
    cases h with
    | cons h1 h2 =>
      rw [List.zip_cons_cons, List.map_cons, List.map_cons, ents_dT (K := K) (B := B) (kvs := kvs) h2 (by simpa using e)]
      rfl
theorem entsR_at {B : AP} {H : Hp} {u : Rt} {x : V} {qs : List (D × D)} (hB : ∀ (b : Addr) (ys : List V), H b = some (.tup ys) → ¬ B b) (h : RtAt X.K B H u x) (e : entsR u = some qs) :
    ∃ a, x = .ref a ∧ IsD H a ∧ (∀ ps, EntV H a ps → Reps X.K B H (qs.map (·.1)) (ps.map (·.1)) ∧ Reps X.K B H (qs.map (·.2)) (ps.map (·.2))) := by
  have hk : keysR u = some (qs.map (·.1)) := by
    unfold entsR at e
    split at e
    · split at e
      · rename_i hs
        cases e
        simp only [keysR, hs, if_true, List.map_map]
        rfl
      · cases e
    · split at e
      · rename_i hs
        cases e
        simp only [keysR, hs, if_true, List.map_map]
        rfl
      · cases e
    · cases e
  obtain ⟨a, rfl, hd, hr⟩ := keysR_at hB h hk
  refine ⟨a, rfl, hd, fun ps ev => ⟨hr ps ev, ?_⟩⟩
  unfold entsR at e
  split at e
  · rename_i kvs
    split at e
    · cases e
      obtain ⟨a', ea, kws, h1, h2, h3⟩ := h
      cases ea
      rcases ev with ⟨kws', hr, rfl⟩ | ⟨kws', bs, hr, _, _⟩
      · have := rd_eq hr h1 (fun _ _ z => nomatch z)
        cases this
        rw [List.map_map, List.map_map]
        exact h3
      · have := rd_eq hr h1 (fun _ _ z => nomatch z)
        cases this
    · cases e
  · rename_i kvs
    split at e
    · cases e
      obtain ⟨a', ea, kws, h1, h2, h3⟩ := h
      cases ea
      rcases ev with ⟨kws', hr, _⟩ | ⟨kws', bs, hr, hk, rfl⟩
      · have := rd_eq hr h1 (fun _ _ z => nomatch z)
        cases this
      · have := rd_eq hr h1 (fun _ _ z => nomatch z)
        cases this
        rw [ents_dT (K := X.K) (B := B) (kvs := kvs) hk (by simpa using h3.length), List.map_map]
        exact h3
    · cases e
  · cases e
theorem pe_sit' (hc : X.calm = true) (hu : X.A.units + 65 < cLine) {o : Expr} {da : Fr → R Opd} {p apos mpos pos : Pos} (hg : Gl X "sorted") (hm : X.mg "sorted" = none) (hb : notC0 o = true) (hl : (apos.endLine == mpos.line) = true) (ha : PE X o (tO X.K da)) :
    PE X (.Call (.Name "sorted" p) [.Call (.Attribute o "items" apos) [] [] mpos] [] pos) (tD X.K fun f => (da f).bind fun x f1 => ofO f1 ((rd f1 x).bind sitD)) := by
  refine pe_weak (pe_callB (cr_sortedItemsD hc hu) hg hm (by decide +kernel) (pa_cons (pe_bm0 PySem.F.plainAttrs_dict PySem.F.slot_dict_items PySem.F.type_dict_items mt_itemsA ha (abase_of hb) hl) pa_nil)) fun σ H Q ⟨T, f, m, r, f', S, e, q⟩ => ?_
  obtain ⟨x, f1, ex, e⟩ := bind_ok e
  obtain ⟨e4, e5⟩ := ofO_ok e
  subst e5
  simp only [Option.bind_eq_some_iff, sitD] at e4
  obtain ⟨u, e1, qs, e2, e3⟩ := e4
  split at e3
  rotate_left
  · cases e3
  rename_i hk
  cases e3
  rw [Bool.and_eq_true, Bool.and_eq_true] at hk
  refine ⟨T, f, m, x, f', S, ex, fun v H1 m1 T1 P1 hx => ?_⟩
  have ra := hx.rd P1.sim e1
  obtain ⟨a, rfl, hd, _⟩ := entsR_at (fun b ys e => P1.sim.noTup e) ra e2
  refine ⟨?_, a, rfl, rfl, hd, fun p hp => ?_⟩
  · cases u with
    | v d => simp [entsR] at e2
    | o ob =>
      obtain ⟨a', ea, ho⟩ := ra
      cases ea
      cases ob with
      | lst _ => simp [entsR] at e2
      | dK kvs => obtain ⟨kws, h1, _⟩ := ho; exact .inr (.inr (.inl ⟨rfl, .inl ⟨kws, h1⟩⟩))
      | dT kvs => obtain ⟨kws, h1, _⟩ := ho; exact .inr (.inr (.inl ⟨rfl, .inr ⟨kws, h1⟩⟩))
  have up : ∀ b o, H1 b = some o → (upd H1 p (L2.DX.itemsO p a)) b = some o := fun b o e => by rw [upd_ne (ne_of_none e hp)]; exact e
  have ra2 : RtAt X.K (BB m1 T1) (upd H1 p (L2.DX.itemsO p a)) u (.ref a) := by
    cases u with
    | v d => simp [entsR] at e2
    | o ob =>
      obtain ⟨a', ea, ho⟩ := ra
      exact ⟨a', ea, OwnAt.mv (fun b o _ e => up b o e) (fun b z => .inl z) (fun o e => up _ _ e) ho⟩
  have hB2 : ∀ (b : Addr) (ys : List V), (upd H1 p (L2.DX.itemsO p a)) b = some (.tup ys) → ¬ BB m1 T1 b := fun b ys e => by
    by_cases hb : b = p
    · rw [hb, upd_same] at e; cases e
    · rw [upd_ne hb] at e; exact P1.sim.noTup e
  obtain ⟨a2, ea2, hd2, hps⟩ := entsR_at hB2 ra2 e2
  cases ea2
  refine ⟨BB m1 T1, p, a, qs, rfl, upd_same, hd2, fun b hb e => ?_, hps, hk.1.1, hk.1.2, of_decide_eq_true hk.2, fun H2 r hr hk2 ⟨vs', h1, h2⟩ => ?_⟩
  · have hne : H1 b ≠ none := hb.elim (fun z => P1.sim.owned z) fun z => P1.sim.tr b z
    by_cases hbp : b = p
    · rw [hbp] at hne; exact hne hp
    · rw [upd_ne hbp] at e; exact hne e
  · have hrp : r ≠ p := fun z => by rw [z, upd_same] at hr; cases hr
    rw [upd_ne hrp] at hr
    exact fin_new P1 q _ _ (.ext hr (fun b o e => hk2 b o (up b o e)) ⟨vs', h1, h2⟩)
end
end VI

set_option Elab.async false
set_option linter.all false
set_option maxRecDepth 100000
set_option maxHeartbeats 4000000
set_option autoImplicit false
namespace VI
open PySem PySem.Spec PyProof.Rows L2

theorem pe_never {X : Cx} {e : Expr} {t : TE} (h : ∀ σ H Q, ¬ t σ H Q) : PE X e t := ⟨fun pins s σ H Q _ q => (h σ H Q q).elim⟩
theorem pi_never {X : Cx} {tg e : Expr} {t : TI} (h : ∀ σ H Q, ¬ t σ H Q) : PI X tg e t := ⟨fun pins s σ H Q _ q => (h σ H Q q).elim⟩
theorem tD_bad {K : PySem.W.Frag} {d : Fr → R Rt} (h : ∀ f, d f = .bad) : ∀ σ H Q, ¬ tD K d σ H Q := fun σ H Q ⟨T, f, m, r, f', S, e, q⟩ => by rw [h] at e; cases e
theorem mOwn_snd (sx : Sx) (own : List Nat) : ((mOwn sx own).map fun (x : Str × Nat) => x.2) = own := by
  unfold mOwn
  rw [List.map_map]
  exact List.map_id own
theorem opd_truth {e : Ex} {d : Fr → R Rt} (h : ∀ i, e ≠ .var i) : (fun f => (opd e d f).bind fun x f1 => ofO f1 ((rd f1 x).bind truth)) = fun f => (d f).bind fun r f1 => ofO f1 (truth r) := by
  funext f
  rw [opd_ne h]
  dsimp only
  cases d f <;> rfl
def isCh : Ex → Bool
  | .cmp _ _ _ => true
  | .ch2 _ _ _ _ _ => true
  | .ch3 _ _ _ _ _ _ _ => true
  | _ => false
theorem isCh_nv {e : Ex} (h : isCh e = true) : ∀ i, e ≠ .var i := fun i z => by rw [z] at h; cases h
/-- an expression is sound; a comparison as a test, too -/
structure EOk (X : Cx) (tb : Tb) (k : Nat) (e : Ex) (x : Expr) : Prop where
  pe : PE X x (tD X.K (ev ⟨callK tb k⟩ e))
  pt : isCh e = true → PT X x (tTD X.K fun f => (ev ⟨callK tb k⟩ e f).bind fun r f3 => ofO f3 (truth r))
section
variable {tb : Tb} {k : Nat}
theorem EOk.of {X : Cx} {e : Ex} {x : Expr} (h : PE X x (tD X.K (ev ⟨callK tb k⟩ e))) (n : isCh e = false := by rfl) : EOk X tb k e x := ⟨h, fun z => by rw [n] at z; cases z⟩
theorem EOk.po {X : Cx} {sx : Sx} {e : Ex} {x : Expr} (h : EOk X tb k e x) (st : Stc X sx tb k) (hm : mE sx e x = true) : PE X x (tO X.K (opd e (ev ⟨callK tb k⟩ e))) :=
  pe_opd (fun i ei => by
    subst ei
    obtain ⟨n, pos, rfl, h1, h2, h3⟩ := inv_var hm
    exact pv' st.N st.sc h1 h2 h3) h.pe
theorem EOk.pa {X : Cx} {sx : Sx} {e : Ex} {x : Expr} (h : EOk X tb k e x) (st : Stc X sx tb k) (hm : mE sx e x = true) : PE X x (tArg X.K (arg e (ev ⟨callK tb k⟩ e))) :=
  pe_arg (fun i ei => by
    subst ei
    obtain ⟨n, pos, rfl, h1, h2, h3⟩ := inv_var hm
    exact pv' st.N st.sc h1 h2 h3) h.pe
theorem EOk.pw {X : Cx} {sx : Sx} {e : Ex} {x : Expr} (h : EOk X tb k e x) (st : Stc X sx tb k) (hm : mE sx e x = true) : PE X x (tW X.K (evW e (ev ⟨callK tb k⟩ e))) :=
  pe_evW (fun i ei => by
    subst ei
    obtain ⟨n, pos, rfl, h1, h2, h3⟩ := inv_var hm
    exact pv' st.N st.sc h1 h2 h3) h.pe
theorem mEs_cons {sx : Sx} {e : Ex} {r : Exs} {xs : List Expr} (h : mEs sx (.cons e r) xs = true) : ∃ y ys, xs = y :: ys ∧ mE sx e y = true ∧ nst y = true ∧ mEs sx r ys = true := by
  cases xs with
  | nil => exact ff h
  | cons y ys =>
    have h : (mE sx e y && nst y && mEs sx r ys) = true := h
    simp only [Bool.and_eq_true] at h
    exact ⟨y, ys, rfl, h.1.1, h.1.2, h.2⟩
theorem mEs_nil {sx : Sx} {xs : List Expr} (h : mEs sx .nil xs = true) : xs = [] := by
  cases xs with
  | nil => rfl
  | cons y ys => exact ff h
theorem mTs_cons {sx : Sx} {e : Tx} {r : Txs} {xs : List Expr} (h : mTs sx (.cons e r) xs = true) : ∃ y ys, xs = y :: ys ∧ mT sx e y = true ∧ mTs sx r ys = true := by
  cases xs with
  | nil => exact ff h
  | cons y ys =>
    have h : (mT sx e y && mTs sx r ys) = true := h
    simp only [Bool.and_eq_true] at h
    exact ⟨y, ys, rfl, h.1, h.2⟩
theorem mTs_nil {sx : Sx} {xs : List Expr} (h : mTs sx .nil xs = true) : xs = [] := by
  cases xs with
  | nil => rfl
  | cons y ys => exact ff h
mutual
theorem pe_all {X : Cx} {sx : Sx} (st : Stc X sx tb k) : ∀ (e : Ex) (x : Expr), mE sx e x = true → EOk X tb k e x
  | .var i, x, h => by
    obtain ⟨n, pos, rfl, h1, h2, h3⟩ := inv_var h
    exact .of (pe_evVar (pv' st.N st.sc h1 h2 h3))
  | .cst y d, x, h => by
    obtain ⟨n, pos, rfl, h1, h2, h3, h4⟩ := inv_cst h
    exact .of (pe_cst' h1 (st.gl h2) h3 (st.cs y d h4))
  | .lit d, x, h => by
    obtain ⟨c, kk, pos, rfl, h1⟩ := inv_lit h
    exact .of (pe_lit' h1)
  | .op o a b, x, h => by
    obtain ⟨p, y, z, pos, rfl, h1, h2, h3⟩ := inv_op h
    exact .of (pe_op' h1 ((pe_all st a y h2).po st h2) ((pe_all st b z h3).po st h3))
  | .neg a, x, h => by
    obtain ⟨y, pos, rfl, h1⟩ := inv_neg h
    exact .of (pe_neg' ((pe_all st a y h1).po st h1))
  | .nt a, x, h => by
    obtain ⟨y, pos, rfl, h1⟩ := inv_nt h
    exact .of (pe_not' ((pe_all st a y h1).po st h1))
  | .cmp o a b, x, h => by
    obtain ⟨p, y, z, pos, rfl, h1, h2, h3, h4⟩ := inv_cmp h
    have q := pe_cmp' (pos := pos) st.hu h1 h4 ((pe_all st a y h2).po st h2) ((pe_all st b z h3).po st h3)
    exact ⟨q.1, fun _ => q.2⟩
  | .ch2 o o1 a b d, x, h => by
    obtain ⟨p, p1, y, z, w, pos, rfl, h1, h2, h3, h4, h5, h6⟩ := inv_ch2 h
    have q := pe_ch2' (pos := pos) st.hu h1 h2 h6 ((pe_all st a y h3).po st h3) ((pe_all st b z h4).po st h4) ((pe_all st d w h5).po st h5)
    exact ⟨q.1, fun _ => q.2⟩
  | .ch3 o o1 o2 a b d e, x, h => by
    obtain ⟨p, p1, p2, y, z, w, u, pos, rfl, h1, h2, h2', h3, h4, h5, h7, h6⟩ := inv_ch3 h
    have q := pe_ch3' (pos := pos) st.hu h1 h2 h2' h6 ((pe_all st a y h3).po st h3) ((pe_all st b z h4).po st h4) ((pe_all st d w h5).po st h5) ((pe_all st e u h7).po st h7)
    exact ⟨q.1, fun _ => q.2⟩
  | .bool con es, x, h => by
    obtain ⟨xs, pos, rfl, h1, h2⟩ := inv_bool h
    exact .of (pb_all st con es xs pos h1 h2)
  | .ite c a b, x, h => by
    obtain ⟨y, z, w, pos, rfl, h1, h2, h3⟩ := inv_ite h
    exact .of (pe_ite' (pt_all st c y h1) (pe_all st a z h2).pe (pe_all st b w h3).pe)
  | .tup es, x, h => by
    obtain ⟨xs, kk, pos, rfl, h1⟩ := inv_tup h
    exact .of (pe_tup' (pds_all st es xs h1) (mEs_nst h1))
  | .lst es, x, h => by
    obtain ⟨xs, pos, rfl, h1⟩ := inv_lst h
    exact .of (pe_lst' (pds_all st es xs h1) (mEs_nst h1))
  | .dct t ks vs, x, h => by
    obtain ⟨pos, rfl, rfl, rfl⟩ := inv_dct h
    exact .of pe_dct'
  | .ix a i, x, h => by
    obtain ⟨y, z, pos, rfl, h1, h2, h3⟩ := inv_ix h
    exact .of (pe_ix' (by have := st.room.un; omega) h3 ((pe_all st a y h1).po st h1) ((pe_all st i z h2).po st h2))
  | .sl a lo hi, x, h => by
    obtain ⟨y, l, r, p, pos, rfl, h1, h2, h3⟩ := inv_sl h
    exact .of (pe_sl' ((pe_all st a y h1).po st h1) (pp_all st lo l h2) (pp_all st hi r h3))
  | .rev a, x, h => by
    obtain ⟨y, k, p1, p2, p3, pos, rfl, h1⟩ := inv_rev h
    exact .of (pe_rev' ((pe_all st a y h1).po st h1))
  | .gt a k d, x, h => by
    obtain ⟨o, p, y, z, q, rfl, h1, h2, h3, h4, h5, h6, h7⟩ := inv_gt h
    exact .of (pe_get2' (by have := st.room.un; omega) ((pe_all st a o h1).po st h1) ((pe_all st k y h3).po st h3) (pe_all st d z h5).pe (m2_of h2 h4 h6 h7))
  | .call g es, x, h => by
    obtain ⟨n, p, xs, pos, rfl, h1, h2, h3, h4, h5⟩ := inv_call h
    have h1 := of_decide_eq_true h1
    subst h1
    have hp := pas_all st es xs h5
    cases ht : tb g with
    | none =>
      refine .of (pe_never (tD_bad fun f => ?_))
      show ((args ⟨callK tb k⟩ es f).bind fun as f1 => doCall ⟨callK tb k⟩ g as f1) = .bad
      cases e : args ⟨callK tb k⟩ es f with
      | bad => rfl
      | ok as f1 =>
        cases e2 : doCall ⟨callK tb k⟩ g as f1 with
        | bad => exact e2
        | ok r f2 =>
          exfalso
          obtain ⟨sl, outs, _, _, h, _⟩ := doCall_ok e2
          have h : callK tb k g sl = .ok r outs := h
          cases k with
          | zero => simp [callK] at h
          | succ k => simp [callK, ht] at h
    | some fd =>
      obtain ⟨fa, fdat, k1, k2, k3, k4⟩ := st.fns g fd ht
      cases xs with
      | nil => exact absurd rfl h4
      | cons y ys => exact .of (pe_call' ht k4 st.room (st.gl h2) h3 k1 k2 k3 (mEs_nst h5) hp)
  | .b g es, x, h => by
    obtain ⟨n, p, xs, pos, rfl, h1, h2, h3, h4, h5, h6, h7⟩ := inv_b h
    have hp := pos_all st es xs h7
    cases xs with
    | nil => exact absurd rfl h6
    | cons y ys => exact .of (pe_b' st.calm st.hu h5 h1 (st.gl h2) h3 (by rw [← of_decide_eq_true h1]; exact st.bl g h4) (mEs_nst h7) hp)
  | .isi a ts, x, h => by
    obtain ⟨n, p, y, z, pos, rfl, h1, h2, h3, h4, h5, h6, h7, h8⟩ := inv_isi h
    exact .of (pe_isi' st.sc st.bl h1 h2 h3 h5 h6 h7 ((pe_all st a y h4).po st h4) h8)
  | .m g a .nil, x, h => by
    obtain ⟨e, o, n, p, y, q, es, _⟩ := inv_m h
    cases es
  | .m g a (.cons e1 (.cons e2 r)), x, h => by
    obtain ⟨e, o, n, p, y, q, es, _⟩ := inv_m h
    cases es
  | .m g a (.cons e .nil), x, h => by
    obtain ⟨e', o, n, p, y, q, es, rfl, hg, rfl, h1, h2, h3, h4, h5⟩ := inv_m h
    cases es
    simp only [mKn, List.contains_iff_mem, List.mem_cons, List.not_mem_nil, or_false] at hg
    rcases hg with rfl | rfl | rfl | rfl
    · exact .of (pe_join' h2 h4 h5 ((pe_all st a o h1).po st h1) ((pe_all st e y h3).po st h3) rfl)
    · exact .of (pe_get1' (by have := st.room.un; omega) ((pe_all st a o h1).po st h1) ((pe_all st e y h3).po st h3) (m1_of h2 h4 h5))
    · exact .of (pe_index' st.hu ((pe_all st a o h1).po st h1) ((pe_all st e y h3).po st h3) h2 h4 h5)
    · exact .of (pe_count' ((pe_all st a o h1).po st h1) ((pe_all st e y h3).po st h3) h2 h4 h5)
  | .pop i, x, h => by
    obtain ⟨n, np, p, q, rfl, h1, h2, h3, h4⟩ := inv_pop h
    exact .of (pe_pop' rfl h4 (pv' st.N st.sc h1 h2 h3))
  | .dsp t ps, x, h => by
    obtain ⟨ks, vs, pos, rfl, h1, h2, h3⟩ := inv_dsp h
    obtain ⟨h4, h5⟩ := mKv_len h1
    exact .of (pe_dsp' (by have := st.hu; omega) (pkv_all st ps ks vs pos h1) h4 h5 h2 h3)
  | .sit a, x, h => by
    obtain ⟨n, p, o, y, ap, mp, pos, rfl, rfl, h1, h2, rfl, h3, h4, h5⟩ := inv_sit h
    exact .of (pe_sit' st.calm st.hu (st.gl h1) (st.bl _ h2) h4 h5 ((pe_all st a o h3).po st h3))
  | .lr1 a, x, h => by
    obtain ⟨n, p, y, q, z, mp, pos, rfl, rfl, h1, h2, rfl, h3, h4, h5, h6⟩ := inv_lr1 h
    exact .of (pe_lr1' st.calm (st.gl h1) (st.bl _ h2) (st.gl h3) (st.bl _ h4) h6 ((pe_all st a z h5).po st h5))
  | .lr2 a b, x, h => by
    obtain ⟨n, p, y, q, z, w, mp, pos, rfl, rfl, h1, h2, rfl, h3, h4, h5, h6, h7, h8⟩ := inv_lr2 h
    exact .of (pe_lr2' st.calm (st.gl h1) (st.bl _ h2) (st.gl h3) (st.bl _ h4) h6 h8 ((pe_all st a z h5).po st h5) ((pe_all st b w h7).po st h7))
  | .sset a, x, h => .of (pe_never (tD_bad fun f => rfl))
  | .sdc _ _ _ _ _, x, h => .of (pe_never (tD_bad fun f => rfl))
  | .sdc2 _ _ _ _ _ _ _ _, x, h => .of (pe_never (tD_bad fun f => rfl))
  | .lc own tg it c e, x, h => by
    obtain ⟨y, g, i, fs, sc, pos, rfl, h1, h2, h3, h4, h5, h6⟩ := inv_lc h
    have q := pe_lc' (pos := pos) st.calm st.nd (pi_all st it g i (isTp tg) (fun z => tp_tuple h3 z) h4) (blkOk_by (by rw [st.N, st.sc]; exact h1)) (by rw [mOwn_snd]; exact h2)
      (fun s H C cl fp => pg_all (st.blk s H sc C cl fp).N (st.blk s H sc C cl fp).nd (st.blk s H sc C cl fp).sc (st.blk s H sc C cl fp).fn (st.blk s H sc C cl fp).calm tg g h3)
      (fun s H C cl fp => pc_all (st.blk s H sc C cl fp) c fs h5) (fun s H C cl fp => (pe_all (st.blk s H sc C cl fp) e y h6).pe) (fun v => fset_mI h4 _ v)
    rw [mOwn_snd] at q
    exact .of q
  | .lc2 own own1 tg it c tg1 it1 c1 e, x, h => by
    obtain ⟨y, g, i, fs, g1, i1, fs1, sc, pos, rfl, h1, h2, h2', hv, h3, h4, h5, h3', h4', h5', h6⟩ := inv_lc2 h
    have q := pe_lc2' (pos := pos) (vs1 := own1) st.calm st.nd (pi_all st it g i (isTp tg) (fun z => tp_tuple h3 z) h4) (blkOk_by (by rw [st.N, st.sc]; exact h1)) (by rw [mOwn_snd]; exact hv) (by rw [mOwn_snd]; exact h2) h2'
      (fun s H C cl fp => pg_all (st.blk s H sc C cl fp).N (st.blk s H sc C cl fp).nd (st.blk s H sc C cl fp).sc (st.blk s H sc C cl fp).fn (st.blk s H sc C cl fp).calm tg g h3)
      (fun s H C cl fp => pc_all (st.blk s H sc C cl fp) c fs h5)
      (fun s H C cl fp => pi_all (st.blk s H sc C cl fp) it1 g1 i1 (isTp tg1) (fun z => tp_tuple h3' z) h4')
      (fun s H C cl fp => pg_all (st.blk s H sc C cl fp).N (st.blk s H sc C cl fp).nd (st.blk s H sc C cl fp).sc (st.blk s H sc C cl fp).fn (st.blk s H sc C cl fp).calm tg1 g1 h3')
      (fun s H C cl fp => pc_all (st.blk s H sc C cl fp) c1 fs1 h5')
      (fun s H C cl fp => (pe_all (st.blk s H sc C cl fp) e y h6).pe) (fun v => fset_mI h4 _ v) (fun env v => fset_mI h4' env v)
    rw [mOwn_snd] at q
    exact .of q
theorem pkv_all {X : Cx} {sx : Sx} (st : Stc X sx tb k) : ∀ (ps : Kvs) (ks : List (Option Expr)) (vs : List Expr) (pos : Pos), mKv sx ps ks vs = true → PKV X pos ks vs (evKV ⟨callK tb k⟩ ps)
  | .nil, ks, vs, pos, h => by
    cases ks <;> cases vs <;> first | exact ff h | exact pkv_nil
  | .cons a b r, ks, vs, pos, h => by
    rcases ks with _ | ⟨_ | x, ks⟩ <;> cases vs <;> first
      | exact ff h
      | (rename_i y vs
         have h : (mE sx a x && mE sx b y && mKv sx r ks vs) = true := h
         simp only [Bool.and_eq_true] at h
         exact pkv_cons (pe_all st a x h.1.1).pe (pe_all st b y h.1.2).pe (pkv_all st r ks vs pos h.2))
theorem pt_all {X : Cx} {sx : Sx} (st : Stc X sx tb k) : ∀ (t : Tx) (x : Expr), mT sx t x = true → PT X x (tTD X.K (evT ⟨callK tb k⟩ t))
  | .bool con es, x, h => by
    obtain ⟨xs, pos, rfl, h1, h2⟩ := inv_boolT h
    exact (pbt_all st con es xs pos h1 h2).pt
  | .nt a, x, h => by
    obtain ⟨y, pos, rfl, h1⟩ := inv_ntT h
    exact pt_not' (pt_all st a y h1)
  | .ite a b d, x, h => by
    obtain ⟨y, z, w, pos, rfl, h1, h2, h3⟩ := inv_iteT h
    exact pt_ite' (pt_all st a y h1) (pt_all st b z h2) (pt_all st d w h3)
  | .ex e, x, h => by
    have h : (mE sx e x && (plT x || (match (generalizing := false) e with | .cmp _ _ _ => true | .ch2 _ _ _ _ _ => true | .ch3 _ _ _ _ _ _ _ => true | _ => false))) = true := h
    simp only [Bool.and_eq_true, Bool.or_eq_true] at h
    have q := pe_all st e x h.1
    rcases h.2 with h2 | h2
    · exact pt_of st.hu h2 (q.po st h.1)
    · have hc : isCh e = true := by
        cases e <;> first | rfl | cases h2
      have := q.pt hc
      rw [← opd_truth (isCh_nv hc)] at this
      exact this
theorem pb_all {X : Cx} {sx : Sx} (st : Stc X sx tb k) (con : Bool) : ∀ (es : Exs) (xs : List Expr) (pos : Pos), xs ≠ [] → mEs sx es xs = true → PE X (.BoolOp (if con then .And else .Or) xs pos) (tD X.K (evB ⟨callK tb k⟩ con es))
  | .nil, xs, pos, h, h' => absurd (mEs_nil h') h
  | .cons e .nil, xs, pos, h, h' => by
    obtain ⟨y, ys, rfl, h1, h2, h3⟩ := mEs_cons h'
    rw [mEs_nil h3]
    exact pe_bone (pe_all st e y h1).pe
  | .cons e (.cons e2 r), xs, pos, h, h' => by
    obtain ⟨y, ys, rfl, h1, h2, h3⟩ := mEs_cons h'
    have q := pb_all st con (.cons e2 r) ys pos (fun z => by rw [z] at h3; exact ff h3) h3
    obtain ⟨y2, ys2, rfl, _⟩ := mEs_cons h3
    exact pe_bcons (pe_all st e y h1).pe q
theorem pbt_all {X : Cx} {sx : Sx} (st : Stc X sx tb k) (con : Bool) : ∀ (es : Txs) (xs : List Expr) (pos : Pos), xs ≠ [] → mTs sx es xs = true → PW X (.BoolOp (if con then .And else .Or) xs pos) (tTD X.K (evBT ⟨callK tb k⟩ con es))
  | .nil, xs, pos, h, h' => absurd (mTs_nil h') h
  | .cons e .nil, xs, pos, h, h' => by
    obtain ⟨y, ys, rfl, h1, h3⟩ := mTs_cons h'
    rw [mTs_nil h3]
    exact pw_one' (pt_all st e y h1)
  | .cons e (.cons e2 r), xs, pos, h, h' => by
    obtain ⟨y, ys, rfl, h1, h3⟩ := mTs_cons h'
    have q := pbt_all st con (.cons e2 r) ys pos (fun z => by rw [z] at h3; exact ff h3) h3
    obtain ⟨y2, ys2, rfl, _⟩ := mTs_cons h3
    exact pw_cons' (pt_all st e y h1) q
theorem pds_all {X : Cx} {sx : Sx} (st : Stc X sx tb k) : ∀ (es : Exs) (xs : List Expr), mEs sx es xs = true → PA X xs (tDs X.K (evs ⟨callK tb k⟩ es))
  | .nil, xs, h => by
    rw [mEs_nil h]
    exact pa_nilD
  | .cons e r, xs, h => by
    obtain ⟨y, ys, rfl, h1, h2, h3⟩ := mEs_cons h
    exact pa_consD h2 (mEs_nst h3) (pe_all st e y h1).pe (pds_all st r ys h3)
theorem pos_all {X : Cx} {sx : Sx} (st : Stc X sx tb k) : ∀ (es : Exs) (xs : List Expr), mEs sx es xs = true → PA X xs (tOs X.K (opds ⟨callK tb k⟩ es))
  | .nil, xs, h => by
    rw [mEs_nil h]
    exact pa_nilO
  | .cons e r, xs, h => by
    obtain ⟨y, ys, rfl, h1, h2, h3⟩ := mEs_cons h
    exact pa_consO h2 (mEs_nst h3) ((pe_all st e y h1).po st h1) (pos_all st r ys h3)
theorem pas_all {X : Cx} {sx : Sx} (st : Stc X sx tb k) : ∀ (es : Exs) (xs : List Expr), mEs sx es xs = true → PA X xs (tAs X.K (args ⟨callK tb k⟩ es))
  | .nil, xs, h => by
    rw [mEs_nil h]
    exact pa_nilA
  | .cons e r, xs, h => by
    obtain ⟨y, ys, rfl, h1, h2, h3⟩ := mEs_cons h
    exact pa_consA h2 ((pe_all st e y h1).pa st h1) (pas_all st r ys h3)
theorem pp_all {X : Cx} {sx : Sx} (st : Stc X sx tb k) : ∀ (e : Exo) (x : Option Expr), mP sx e x = true → PO X x (tPO X.K (evP ⟨callK tb k⟩ e))
  | .no, none, h => po_no'
  | .no, some _, h => ff h
  | .so e, none, h => ff h
  | .so e, some x, h => po_so' ((pe_all st e x h).po st h)
theorem pc_all {X : Cx} {sx : Sx} (st : Stc X sx tb k) : ∀ (c : Txo) (xs : List Expr), mCo sx c xs = true → PTs X xs (tTD X.K (evC ⟨callK tb k⟩ c))
  | .no, [], h => ⟨fun pins s σ H Q I ⟨T, f, m, b, f', S, e, q⟩ => pts_nil.run pins s σ H Q I (by cases e; exact q H m (.refl S))⟩
  | .no, _ :: _, h => ff h
  | .so e, [], h => ff h
  | .so e, [x], h => pts_one (pt_all st e x h)
  | .so e, _ :: _ :: _, h => ff h
theorem pi_all {X : Cx} {sx : Sx} (st : Stc X sx tb k) : ∀ (it : It) (tg x : Expr) (tp : Bool), (tp = true → ∃ es kk pos, tg = .Tuple es kk pos) → mI sx it x tp = true → PI X tg x (tI X.K (evI ⟨callK tb k⟩ it))
  | .ex e, tg, x, tp, ht, h => by
    have h : (mE sx e x && notSet x) = true := h
    simp only [Bool.and_eq_true] at h
    exact pi_ex' ((pe_all st e x h.1).pw st h.1)
  | .r1 a, tg, x, tp, ht, h => by
    obtain ⟨p, y, pos, rfl, h1, h2, h3, h4⟩ := inv_r1 h
    exact pi_r1' (st.gl h1) (st.bl _ h2) h4 ((pe_all st a y h3).po st h3)
  | .r2 a b, tg, x, tp, ht, h => by
    obtain ⟨p, y, z, pos, rfl, h1, h2, h3, h3', h4, h4'⟩ := inv_r2 h
    exact pi_r2' (st.gl h1) (st.bl _ h2) h4 h4' ((pe_all st a y h3).po st h3) ((pe_all st b z h3').po st h3')
  | .r3 a b d, tg, x, tp, ht, h => by
    obtain ⟨p, y, z, w, pos, rfl, h1, h2, h3, h3', h3'', h4, h4', h4''⟩ := inv_r3 h
    exact pi_r3' (st.gl h1) (st.bl _ h2) h4 h4' h4'' ((pe_all st a y h3).po st h3) ((pe_all st b z h3').po st h3') ((pe_all st d w h3'').po st h3'')
  | .en a, tg, x, tp, ht, h => by
    obtain ⟨h0, p, y, pos, rfl, h1, h2, h3, h4⟩ := inv_en h
    obtain ⟨es, kk, tpos, rfl⟩ := ht h0
    exact pi_en' (st.gl h1) (st.bl _ h2) h4 ((pe_all st a y h3).pw st h3)
  | .zp a b, tg, x, tp, ht, h => by
    obtain ⟨h0, p, y, z, pos, rfl, h1, h2, h3, h3', h4, h4'⟩ := inv_zp h
    obtain ⟨es, kk, tpos, rfl⟩ := ht h0
    exact pi_zp' (st.gl h1) (st.bl _ h2) h4 h4' ((pe_all st a y h3).pw st h3) ((pe_all st b z h3').pw st h3')
  | .its a, tg, x, tp, ht, h => ff (by cases x <;> exact h)
end
end
end VI

set_option Elab.async false
set_option linter.all false
set_option maxRecDepth 100000
set_option maxHeartbeats 4000000
set_option autoImplicit false
namespace VI
open PySem PySem.Spec PyProof.Rows L2

/-! ### a state behind a statement -/
structure PostM (K : PySem.W.Frag) (T : AP) (σ : L2.St) (H : Hp) (f : Fr) (m : Om) (σ' : L2.St) (f' : Fr) (H' : Hp) (m' : Om) (T' : AP) : Prop where
  sim : Sim K T' σ' H' f' m'
  step : Step m T H m' T H'
  kp : Kp f σ f' σ'
def RtQ (K : PySem.W.Frag) (T : AP) (m : Om) (H H' : Hp) (m' : Om) (T' : AP) (v : V) : Rt → Prop
  | .v d => T' = T ∧ Rep K (BB m' T') H' d v
  | .o ob => ∃ a, v = .ref a ∧ (H a = none ∨ Owned m a) ∧ T' = TT1 T a ∧ ¬ T a ∧ OwnAt K (BB m' T') H' a ob
def EndS (K : PySem.W.Frag) (T : AP) (σ : L2.St) (H : Hp) (f : Fr) (m : Om) (D : Ends) : S → Prop
  | .nxt f' => ∀ σ' H' m', PostM K T σ H f m σ' f' H' m' T → D.nx σ' H'
  | .brk f' => ∀ σ' H' m', PostM K T σ H f m σ' f' H' m' T → D.bk σ' H'
  | .cnt f' => ∀ σ' H' m', PostM K T σ H f m σ' f' H' m' T → D.ct σ' H'
  | .ret r f' => ∀ σ' H' m' T' v, PostM K T σ H f m σ' f' H' m' T' → RtQ K T m H H' m' T' v r → D.rt v H'
  | .bad => False
def tSD (K : PySem.W.Frag) (den : Fr → S) : TS := fun D σ H => ∃ T f m, Sim K T σ H f m ∧ EndS K T σ H f m D (den f)
def tM (K : PySem.W.Frag) (den : Fr → R Rt) : TE := fun σ H Q => ∃ T f m r f', Sim K T σ H f m ∧ den f = .ok r f' ∧
  ∀ v H' m' T', PostM K T σ H f m σ f' H' m' T' → RtQ K T m H H' m' T' v r → Q v H'
section
variable {K : PySem.W.Frag} {T T' T1 : AP} {σ σ1 σ2 : L2.St} {H H' H1 H2 : Hp} {m m' m1 m2 : Om} {f f' f1 f2 : Fr}
theorem PostX.toM (P : PostX K T σ H f m f' H' m' T') : PostM K T σ H f m σ f' H' m' T' := ⟨P.sim, P.drop.step, P.kp⟩
theorem PostM.refl (S : Sim K T σ H f m) : PostM K T σ H f m σ f H m T := ⟨S, Step.refl, Kp.refl⟩
theorem PostM.trans (a : PostM K T σ H f m σ1 f1 H1 m1 T) (b : PostM K T σ1 H1 f1 m1 σ2 f2 H2 m2 T') : PostM K T σ H f m σ2 f2 H2 m2 T' := ⟨b.sim, a.step.trans b.step, a.kp.trans b.kp⟩
theorem RtQ.pre {v : V} {r : Rt} (a : Step m T H m1 T H1) (h : RtQ K T m1 H1 H2 m2 T' v r) : RtQ K T m H H2 m2 T' v r := by
  cases r with
  | v d => exact h
  | o ob =>
    obtain ⟨c, h1, h2, h3, h4⟩ := h
    refine ⟨c, h1, ?_, h3, h4⟩
    rcases h2 with h2 | h2
    · exact .inl (a.dom c h2)
    · exact (a.own c h2).symm
theorem RtP.q {v : V} {r : Rt} (S : Sim K T σ H f m) (h : RtP K T H H' m' T' v r) : RtQ K T m H H' m' T' v r := by
  cases r with
  | v d => exact h
  | o ob =>
    obtain ⟨c, h1, h2, h3, h4⟩ := h
    exact ⟨c, h1, .inl h2, h3, fun z => S.tr c z h2, h4⟩
/-- a wish from the entry is a wish from a later state -/
theorem EndS.pre {D : Ends} {s : S} (a : PostM K T σ H f m σ1 f1 H1 m1 T) (h : EndS K T σ H f m D s) : EndS K T σ1 H1 f1 m1 D s := by
  cases s with
  | nxt f' => exact fun σ' H' m' P => h σ' H' m' (a.trans P)
  | brk f' => exact fun σ' H' m' P => h σ' H' m' (a.trans P)
  | cnt f' => exact fun σ' H' m' P => h σ' H' m' (a.trans P)
  | ret r f' => exact fun σ' H' m' T' v P hr => h σ' H' m' T' v (a.trans P) (hr.pre a.step)
  | bad => exact h
/-- a name's thing is taken out of the frame -/
theorem Sim.mvOut {i : Nat} {o : Ob} (S : Sim K T σ H f m) (e : f[i]? = some (.own false false o)) : ∃ a, m i = some a ∧ σ[i]? = some (some (.ref a)) ∧ ¬ T a ∧ Sim K (TT1 T a) σ H (f.set i .no) (m.out i) ∧ OwnAt K (BB (m.out i) (TT1 T a)) H a o := by
  obtain ⟨a, e1, e2, r⟩ := S.own i _ _ _ e
  have hi := (List.getElem?_eq_some_iff.mp e).1
  have less : ∀ b, BB (m.out i) (TT1 T a) b → BB m T b ∨ H b = none := fun b z => by
    rcases z with z | z | rfl
    · exact .inl (.inl (Om.out_own z))
    · exact .inl (.inr z)
    · exact .inl (.inl ⟨i, e1⟩)
  refine ⟨a, e1, e2, S.tmp i a e1, ⟨by rw [List.length_set]; exact S.len, fun j d q => ?_, fun j p l ob q => ?_, fun j b q => ?_, fun j k b q1 q2 => S.inj j k b (Om.out_some q1).2 (Om.out_some q2).2, fun j b q z => ?_, fun b z => ?_, fun b xs z e3 => S.noTup e3 (z.elim .inr fun z => .inl ⟨i, by rw [z]; exact e1⟩)⟩, OwnAt.mv (fun _ _ _ e => e) less (fun _ e => e) r⟩
  · by_cases hj : j = i
    · subst hj
      rw [List.getElem?_set_self hi] at q
      cases q
    · rw [List.getElem?_set_ne (Ne.symm hj)] at q
      obtain ⟨w, q1, q2⟩ := S.val j d q
      exact ⟨w, q1, Rep.mv (fun _ _ _ e => e) less _ _ q2⟩
  · by_cases hj : j = i
    · subst hj
      rw [List.getElem?_set_self hi] at q
      cases q
    · rw [List.getElem?_set_ne (Ne.symm hj)] at q
      obtain ⟨b, q1, q2, q3⟩ := S.own j p l ob q
      exact ⟨b, by rw [Om.out_ne hj]; exact q1, q2, OwnAt.mv (fun _ _ _ e => e) less (fun _ e => e) q3⟩
  · obtain ⟨h1, h2⟩ := Om.out_some q
    obtain ⟨p, l, ob, q1⟩ := S.dom j b h2
    exact ⟨p, l, ob, by rw [List.getElem?_set_ne (Ne.symm h1)]; exact q1⟩
  · obtain ⟨h1, h2⟩ := Om.out_some q
    rcases z with z | rfl
    · exact S.tmp j b h2 z
    · exact h1 (S.inj j i b h2 e1)
  · rcases z with z | rfl
    · exact S.tr b z
    · exact r.tr
end
section
variable {X : Cx}
theorem pe_mv {e : Expr} {a : Ex} {d : Fr → R Rt} (hv : ∀ i, a = .var i → PE X e (tVar i)) (h : PE X e (tD X.K d)) : PE X e (tM X.K (mvR a d)) := by
  by_cases hx : ∃ i, a = .var i
  · obtain ⟨i, rfl⟩ := hx
    refine pe_weak (hv i rfl) fun σ H Q ⟨T, f, m, r, f', S, e, q⟩ => ?_
    unfold mvR at e
    simp only at e
    split at e
    · rename_i d hd
      cases e
      obtain ⟨v, h1, h2⟩ := S.val i d hd
      exact ⟨v, h1, q v H m T (.refl S) ⟨rfl, h2⟩⟩
    · rename_i o hd
      cases e
      obtain ⟨ad, e1, e2, nt, S', ho⟩ := S.mvOut hd
      exact ⟨_, e2, q _ H (m.out i) _ ⟨S', step_less fun j b z => (Om.out_some z).2, Kp.set fun p l o' z => by rw [hd] at z; cases z; exact ⟨rfl, fun h => nomatch h⟩⟩ ⟨ad, rfl, .inr ⟨i, e1⟩, rfl, nt, ho⟩⟩
    · cases e
  · have ea : mvR a d = d := by
      funext f
      cases a <;> first | rfl | exact absurd ⟨_, rfl⟩ hx
    rw [ea]
    exact pe_weak h fun σ H Q ⟨T, f, m, r, f', S, e, q⟩ => ⟨T, f, m, r, f', S, e, fun v H' m' T' P hr => q v H' m' T' P.toM (hr.q S)⟩
end
section
variable {K : PySem.W.Frag} {T T' T1 : AP} {σ σ1 σ2 : L2.St} {H H' H1 H2 : Hp} {m m' m1 m2 : Om} {f f' f1 f2 : Fr}
/-- the store of a value, of a thing -/
theorem sto_post {i : Nat} {r : Rt} {v : V} (P : PostM K T σ H f m σ1 f1 H1 m1 T1) (hr : RtQ K T m H H1 m1 T1 v r) (e : sto i r f1 = some f2) : ∃ m2, PostM K T σ H f m (σ1.set i (some v)) f2 H1 m2 T := by
  obtain ⟨hi, hn, rfl⟩ := sto_is e
  cases r with
  | v d =>
    obtain ⟨rfl, r⟩ := hr
    exact ⟨m1.out i, P.sim.stoV hi (.inr ⟨rfl, r⟩) (.inr rfl), P.step.trans (step_less fun j b z => (Om.out_some z).2), P.kp.trans (Kp.set2 hn)⟩
  | o ob =>
    obtain ⟨a, rfl, h2, rfl, h3, h4⟩ := hr
    refine ⟨(m1.out i).put i a, P.sim.stoO (.inr rfl) (fun b z => ⟨.inl z, fun e => h3 (e ▸ z)⟩) hi h4, ⟨P.step.keep, fun b ⟨j, z⟩ => ?_, fun b z => .inl z, P.step.dom⟩, P.kp.trans (Kp.set2 hn)⟩
    rcases Om.put_some z with ⟨_, rfl⟩ | ⟨_, z⟩
    · exact h2.symm
    · exact P.step.own b ⟨j, (Om.out_some z).2⟩
def setAll : L2.St → List Nat → List V → L2.St
  | σ, i :: is, v :: vs => setAll (σ.set i (some v)) is vs
  | σ, _, _ => σ
theorem ArgsAt.sub : ∀ {as : List Arg} {vs : List V} {σ2 : L2.St} {T2 : AP} {m2 : Om}, (∀ a ∈ as, ∀ i, a ≠ .bor i) → ArgsAt K T σ H m vs as → (∀ b, BB m2 T2 b → BB m T b) → (∀ a ∈ tmps vs as, T a → T2 a) → ArgsAt K T2 σ2 H m2 vs as
  | [], _, _, _, _, _, h, _, _ => h
  | .bor i :: as, vs, _, _, _, n, h, _, _ => absurd rfl (n _ (List.mem_cons_self ..) i)
  | .val d :: as, vs, _, _, _, n, h, k, t => by
    obtain ⟨v, w, rfl, h1, h2⟩ := h
    exact ⟨v, w, rfl, Rep.mv (fun _ _ _ e => e) (fun b z => .inl (k b z)) _ _ h1, h2.sub (fun a ha => n a (List.mem_cons_of_mem _ ha)) k (by simpa [tmps] using t)⟩
  | .tmp o :: as, vs, _, _, _, n, h, k, t => by
    obtain ⟨a, w, rfl, h0, h1, h2⟩ := h
    simp only [tmps, List.mem_cons, forall_eq_or_imp] at t
    exact ⟨a, w, rfl, t.1 h0, OwnAt.mv (fun _ _ _ e => e) (fun b z => .inl (k b z)) (fun _ e => e) h1, h2.sub (fun a ha => n a (List.mem_cons_of_mem _ ha)) k t.2⟩
theorem stosS_nb : ∀ {is : List Nat} {as : List Arg} {f f' : Fr}, stosS is as f = some f' → (∀ a ∈ as, ∀ i, a ≠ .bor i) ∧ is.length = as.length
  | [], [], _, _, _ => ⟨fun _ h => (nomatch h), rfl⟩
  | i :: is, .val d :: as, f, f', e => by
    simp only [stosS, Option.bind_eq_some_iff] at e
    obtain ⟨f1, _, e⟩ := e
    obtain ⟨h1, h2⟩ := stosS_nb e
    refine ⟨fun a ha j => ?_, by simp [h2]⟩
    rcases List.mem_cons.mp ha with rfl | ha
    · exact fun z => nomatch z
    · exact h1 a ha j
  | i :: is, .tmp d :: as, f, f', e => by
    simp only [stosS, Option.bind_eq_some_iff] at e
    obtain ⟨f1, _, e⟩ := e
    obtain ⟨h1, h2⟩ := stosS_nb e
    refine ⟨fun a ha j => ?_, by simp [h2]⟩
    rcases List.mem_cons.mp ha with rfl | ha
    · exact fun z => nomatch z
    · exact h1 a ha j
  | i :: is, .bor j :: as, _, _, e => by simp [stosS] at e
  | [], _ :: _, _, _, e => by simp [stosS] at e
  | _ :: _, [], _, _, e => by simp [stosS] at e
theorem stos_ok : ∀ {is : List Nat} {as : List Arg} {vs : List V} {T1 : AP} {σ1 : L2.St} {f1 f2 : Fr} {m1 : Om}, Sim K T1 σ1 H f1 m1 → ArgsAt K T1 σ1 H m1 vs as → (tmps vs as).Nodup → stosS is as f1 = some f2 →
    ∃ m2 T2, Sim K T2 (setAll σ1 is vs) H f2 m2 ∧ (∀ b, T1 b → b ∉ tmps vs as → T2 b) ∧ (∀ i a, m2 i = some a → m1 i = some a ∨ a ∈ tmps vs as) ∧ Kp f1 σ1 f2 (setAll σ1 is vs)
  | [], [], vs, T1, σ1, f1, f2, m1, S, h, _, e => by
    simp only [stosS, Option.some.injEq] at e
    subst e
    exact ⟨m1, T1, S, fun _ h _ => h, fun _ _ h => .inl h, Kp.refl⟩
  | i :: is, .val d :: as, vs, T1, σ1, f1, f2, m1, S, h, nd, e => by
    have nb := (stosS_nb e).1
    simp only [stosS, Option.bind_eq_some_iff] at e
    obtain ⟨f3, e1, e⟩ := e
    obtain ⟨v, w, rfl, h1, h2⟩ := h
    obtain ⟨hi, hn, rfl⟩ := sto_is e1
    simp only [tmps] at nd
    have S2 := S.stoV (o := some v) hi (.inr ⟨rfl, h1⟩) (.inr rfl)
    obtain ⟨m2, T2, k1, k2, k3, k4⟩ := stos_ok S2 (h2.sub (fun a ha => nb a (List.mem_cons_of_mem _ ha)) (fun b z => z.elim (fun z => .inl (Om.out_own z)) .inr) fun _ _ z => z) nd e
    exact ⟨m2, T2, k1, fun b z n => k2 b z (by simpa [tmps] using n), fun j a z => (k3 j a z).elim (fun z => .inl (Om.out_some z).2) fun z => .inr (by simpa [tmps] using z), (Kp.set2 hn).trans k4⟩
  | i :: is, .tmp o :: as, vs, T1, σ1, f1, f2, m1, S, h, nd, e => by
    have nb := (stosS_nb e).1
    simp only [stosS, Option.bind_eq_some_iff] at e
    obtain ⟨f3, e1, e⟩ := e
    obtain ⟨a, w, rfl, h0, h1, h2⟩ := h
    obtain ⟨hi, hn, rfl⟩ := sto_is e1
    simp only [tmps, List.nodup_cons] at nd
    have S2 := S.stoO (T2 := fun b => T1 b ∧ b ≠ a) h0 (fun b z => z) hi h1
    obtain ⟨m2, T2, k1, k2, k3, k4⟩ := stos_ok S2 (h2.sub (fun a ha => nb a (List.mem_cons_of_mem _ ha)) (fun b z => by
      rcases z with ⟨j, z⟩ | z
      · rcases Om.put_some z with ⟨_, rfl⟩ | ⟨_, z⟩
        · exact .inr h0
        · exact .inl ⟨j, (Om.out_some z).2⟩
      · exact .inr z.1) fun b hb z => ⟨z, fun e => nd.1 (e ▸ hb)⟩) nd.2 e
    refine ⟨m2, T2, k1, fun b z n => k2 b ⟨z, fun e => n (by rw [e]; simp [tmps])⟩ (fun z => n (by simp [tmps, z])), fun j b z => ?_, (Kp.set2 hn).trans k4⟩
    rcases k3 j b z with z | z
    · rcases Om.put_some z with ⟨_, rfl⟩ | ⟨_, z⟩
      · exact .inr (by simp [tmps])
      · exact .inl (Om.out_some z).2
    · exact .inr (by simp [tmps, z])
  | i :: is, .bor j :: as, _, _, _, _, _, _, _, _, _, e => by simp [stosS] at e
  | [], _ :: _, _, _, _, _, _, _, _, _, _, e => by simp [stosS] at e
  | _ :: _, [], _, _, _, _, _, _, _, _, _, e => by simp [stosS] at e
theorem stos_post {is : List Nat} {as : List Arg} {vs : List V} (S : Sim K T σ H f m) (P : PostX K T σ H f m f1 H1 m1 T1) (h : ArgsAt K T1 σ H1 m1 vs as) (nd : (tmps vs as).Nodup) (fr : ∀ a ∈ tmps vs as, H a = none) (e : stosS is as f1 = some f2) :
    ∃ m2, PostM K T σ H f m (setAll σ is vs) f2 H1 m2 T := by
  obtain ⟨m2, T2, k1, k2, k3, k4⟩ := stos_ok P.sim h nd e
  refine ⟨m2, k1.lessT fun b z => k2 b (P.tl b z) fun hb => S.tr b z (fr b hb), ⟨P.step.keep, fun b ⟨j, z⟩ => ?_, fun b z => .inl z, P.step.dom⟩, P.kp.trans k4⟩
  rcases k3 j b z with z | z
  · exact P.step.own b ⟨j, z⟩
  · exact .inr (fr b z)
end
end VI

set_option Elab.async false
set_option linter.all false
set_option maxRecDepth 100000
set_option maxHeartbeats 4000000
set_option autoImplicit false
namespace VI
open PySem PySem.Spec PyProof.Rows L2

/-! ### assignments of two, of three names -/
theorem swapped2 {env : Env} {x y : Str} {px py pt : Pos} {a b : Expr} {kt k2 : Nat} {pt2 : Pos} (hk : env.scope.kind = .function) (hx : env.scope.names.lookup x = some .local) (hy : env.scope.names.lookup y = some .local) (hne : x ≠ y) (hl : (py.line == px.line) = true)
    (hs : nst a = true ∧ nst b = true) (h1 : ([a, b].all (foldedForSure 8)) = false) (h2 : ([a, b].all (constantsAlone 8)) = false) :
    swappedStores [.Tuple [.Name x px, .Name y py] kt pt] (.Tuple [a, b] k2 pt2) env = pure (some [x, y]) := by
  have e1 : env.kindOf x = some .local := hx
  have e2 : env.kindOf y = some .local := hy
  have e3 : env.blockKind = .function := by unfold Env.blockKind; rw [hk]; rfl
  have e5 : (x == y) = false := by simpa using hne
  have e5' : (y == x) = false := by simpa using fun z : y = x => hne z.symm
  have hl' : py.line = px.line := by simpa using hl
  have hne' : ¬ y = x := fun z => hne z.symm
  unfold swappedStores
  simp [e1, e2, e3, h1, h2, List.filterMap_cons, Expr.pos, hl', List.eraseDups_cons, e5, e5', hne, hne']
  intro h
  exfalso
  rcases h with h | h
  · cases a <;> first | exact ff hs.1 | exact ff h
  · cases b <;> first | exact ff hs.2 | exact ff h
theorem swapped3 {env : Env} {x y z : Str} {px py pz pt : Pos} {a b c : Expr} {kt k2 : Nat} {pt2 : Pos} (hk : env.scope.kind = .function) (hx : env.scope.names.lookup x = some .local) (hy : env.scope.names.lookup y = some .local) (hz : env.scope.names.lookup z = some .local) (hne : x ≠ y) (hne2 : x ≠ z) (hne3 : y ≠ z) (hl : (py.line == px.line) = true) (hl2 : (pz.line == px.line) = true)
    (hs : nst a = true ∧ nst b = true ∧ nst c = true) (h1 : ([a, b, c].all (foldedForSure 8)) = false) (h2 : ([a, b, c].all (constantsAlone 8)) = false) :
    swappedStores [.Tuple [.Name x px, .Name y py, .Name z pz] kt pt] (.Tuple [a, b, c] k2 pt2) env = pure (some [x, y, z]) := by
  have e1 : env.kindOf x = some .local := hx
  have e2 : env.kindOf y = some .local := hy
  have e2' : env.kindOf z = some .local := hz
  have e3 : env.blockKind = .function := by unfold Env.blockKind; rw [hk]; rfl
  have hl' : py.line = px.line := by simpa using hl
  have hl2' : pz.line = px.line := by simpa using hl2
  have n1 : ¬ y = x := fun q => hne q.symm
  have n2 : ¬ z = x := fun q => hne2 q.symm
  have n3 : ¬ z = y := fun q => hne3 q.symm
  unfold swappedStores
  simp [e1, e2, e2', e3, h1, h2, List.filterMap_cons, Expr.pos, hl', hl2', List.eraseDups_cons, hne, hne2, hne3, n1, n2, n3]
  intro h
  exfalso
  rcases h with h | h | h
  · cases a <;> first | exact ff hs.1 | exact ff h
  · cases b <;> first | exact ff hs.2.1 | exact ff h
  · cases c <;> first | exact ff hs.2.2 | exact ff h
theorem swapped_no {env : Env} {t : Expr} {y : Expr} (h : notTp y = true) : swappedStores [t] y env = pure none := by
  cases y <;> first
    | exact ff h
    | (cases t <;> rfl)

section
variable {X : Cx}
theorem pe_argV {e : Expr} {d : Fr → R Rt} (h : PE X e (tD X.K d)) : PE X e (tArg X.K (argV d)) :=
  pe_weak h fun σ H Q ⟨T, f, m, o, f', S, e, q⟩ => by
    obtain ⟨r, f1, er, e⟩ := bind_ok e
    refine ⟨T, f, m, r, f1, S, er, fun v H' m' T' P hr => ?_⟩
    cases r with
    | v d => cases e; exact q v H' m' T' P hr.2
    | o ob =>
      cases e
      obtain ⟨a, h1, h2, h3, h4⟩ := hr
      exact q v H' m' T' P ⟨a, h1, by rw [h3]; exact .inr rfl, h2, h4⟩
theorem ps_sset {o i value : Expr} {pos' pos : Pos} {to ti tv : TE} (hu : X.A.units + 1 < cLine) (ho : PE X o to) (hi : PE X i ti) (hv : PE X value tv) (hs : swapsWith value (some (.Subscript o i pos')) pos.line X.env = pure false) :
    PS X (.Assign [.Subscript o i pos'] value pos) (fun D σ H => tv σ H fun v H1 => to σ H1 fun x H2 => ti σ H2 fun y H3 => (rSetL x y v H3 fun H4 => D.nx σ H4) ∨ rSetD x y v H3 fun H4 => D.nx σ H4) :=
  ⟨fun pins s σ H D I h => wpAny_Assign_Subscript (thn (hv.run pins s σ H _ I h) fun r s1 ⟨v, H1, I1, rv, q1⟩ => thn (ho.run pins s1 σ H1 _ I1 q1) fun u s2 ⟨x, H2, I2, rx, q2⟩ => thn (hi.run pins s2 σ H2 _ I2 q2) fun iv s3 ⟨y, H3, I3, ry, q3⟩ =>
    q3.elim (fun q3 => thn (set_list pins s3 σ H3 x y v u iv r _ I3 rx ry rv q3) fun _ s4 ⟨H4, I4, q4⟩ => ⟨σ, H4, I4, q4⟩)
      fun q5 => by
        obtain ⟨a, H4, ex, g, q6⟩ := q5
        subst ex
        obtain rfl : u = Value.ref a := rx
        exact d_setItem hu I3 g ry rv fun s4 I4 => ⟨σ, H4, I4, q6⟩) hs⟩
end

/-! ### o[i] op= e -/
section
variable {X : Cx}
def getT (K : PySem.W.Frag) : V → V → Hp → VK → Prop := fun o y H Q => ∃ B ad ob kd a, o = V.ref ad ∧ OwnAt K B H ad ob ∧ RtAt K B H (.v kd) y ∧ ixD (.o ob) (.v kd) = some (.v (.int a)) ∧ Q (.int a) H
def setU : V → V → V → Hp → (Hp → Prop) → Prop := fun o i v H Q => rSetL o i v H Q ∨ rSetD o i v H Q
theorem set_T (hu : X.A.units + 1 < cLine) : PSet X setU := fun pins s σ H o i v ov iv u Q I ro ri rv h =>
  h.elim (set_list pins s σ H o i v ov iv u Q I ro ri rv) (set_dict hu pins s σ H o i v ov iv u Q I ro ri rv)
theorem get_T (hu : X.A.units + 1 < cLine) : PGet X (getT X.K) := by
  intro pins s σ H o y ov iv Q I ro ry h
  obtain ⟨B, ad, ob, kd, a, rfl, ho, hy, e, q⟩ := h
  cases ro
  have dict : ∀ ob, OwnAt X.K B H ad ob → ((dget ob (.v kd)).bind id).map Rt.v = some (.v (.int a)) → wpAny (model X.prog X.w) X.A (getItem (.ref ad) iv) (EP X pins σ Q) X.xe s := fun ob ho e => by
    rw [Option.map_eq_some_iff] at e
    obtain ⟨d, e1, ed⟩ := e
    injection ed with ed
    subst ed
    rw [Option.bind_eq_some_iff] at e1
    obtain ⟨o, e1, e2⟩ := e1
    simp only [id] at e2
    subst e2
    obtain ⟨ov, g, hov⟩ := dget_ok ho hy e1
    rcases hov with ⟨h1, h2⟩ | ⟨d', v', h1, h2, h3⟩
    · cases h1
    · cases h1; subst h2
      have h3 : v' = V.int a := h3
      subst h3
      exact d_getItem hu I g ry fun w' s3 I3 rw' => ⟨_, H, I3, rw', q⟩
  cases ob with
  | dK kvs => exact dict _ ho e
  | dT kvs => exact dict _ ho e
  | lst ds =>
    cases kd with
    | int i =>
      have e : (atD ds i).map Rt.v = some (.v (.int a)) := e
      rw [Option.map_eq_some_iff] at e
      obtain ⟨d, e1, ed⟩ := e
      injection ed with ed
      subst ed
      obtain ⟨vs, h1, r1⟩ := ho
      obtain ⟨z, e2, r2⟩ := atD_get r1 e1
      have r2 : z = V.int a := r2
      subst r2
      have hy : y = V.int i := hy
      subst hy
      obtain ⟨t, rfl⟩ := ry
      obtain ⟨its, r, pl, hz⟩ := I.list (SqL.of h1)
      obtain ⟨j, w1, w2, w3, w4, w5⟩ := atI_get e2
      obtain ⟨w, ew, rw'⟩ := r.get w2
      have hl := r.length
      have hn := line63
      have fin : EP X pins σ Q w s := ⟨_, H, I, rw', q⟩
      by_cases h0 : 0 ≤ i
      · have hj : i.toNat = j := by
          rw [seqIndex_of h0 w5] at w1
          exact Option.some.inj w1
        exact PyProof.Rows.getItem_listL pl.isList h0 (by omega) (by rw [hj]; exact ew) fin
      · have hj : (i + (its.toArray.size : Int)).toNat = j := by
          rw [seqIndex_neg (by omega) w4] at w1
          rw [List.size_toArray, ← hl]
          exact Option.some.inj w1
        exact wpAny_getItem_list_neg pl.isList (by omega) (by rw [List.size_toArray] <;> omega) (by omega) (by rw [hj]; simpa using ew) fin
    | _ => simp [ixD] at e
end

/-! ### the induction -/
structure Stt (X : Cx) (sx : Sx) (tb : Tb) (k : Nat) : Prop extends Stc X sx tb k where
  kd : X.env.scope.kind = .function
  ps : PassesOwn (model X.prog X.w) X.A X.env X.xe
section
variable {sx : Sx} {x : Stmt}
theorem inv_asg {i : Nat} {e : Ex} (h : mS sx (.asg i e) x = true) : ∃ n p y q, x = .Assign [.Name n p] y q ∧ slotC sx i n = true ∧ stoC sx n = true ∧ mE sx e y = true ∧ (notCm y || isLC y) = true := by
  cases x <;> first
    | exact ff h
    | (rename_i ts y q
       rcases ts with _ | ⟨t, _ | ⟨_, _⟩⟩ <;> first
         | exact ff h
         | (cases t <;> first
             | exact ff h
             | (rename_i n p
                have h : (slotC sx i n && stoC sx n && mE sx e y && (notCm y || isLC y)) = true := h
                rw [Bool.and_eq_true, Bool.and_eq_true, Bool.and_eq_true] at h
                exact ⟨n, p, y, q, rfl, h.1.1.1, h.1.1.2, h.1.2, h.2⟩)))
theorem inv_aug {i : Nat} {o : BO} {e : Ex} (h : mS sx (.aug i o e) x = true) : ∃ n p op y q, x = .AugAssign (.Name n p) op y q ∧ slotC sx i n = true ∧ stoC sx n = true ∧ mO o op = true ∧ mE sx e y = true := by
  cases x <;> first
    | exact ff h
    | (rename_i g op y q
       cases g <;> first
         | exact ff h
         | (rename_i n p
            have h : (slotC sx i n && stoC sx n && mO o op && mE sx e y) = true := h
            simp only [Bool.and_eq_true] at h
            exact ⟨n, p, op, y, q, rfl, h.1.1.1, h.1.1.2, h.1.2, h.2⟩))
theorem inv_asgt {t : Tg} {e : Ex} (h : mS sx (.asgt t e) x = true) : ∃ g y q, x = .Assign [g] y q ∧ mG sx t g = true ∧ mE sx e y = true ∧ notCm y = true ∧ notTp y = true := by
  cases x <;> first
    | exact ff h
    | (rename_i ts y q
       rcases ts with _ | ⟨g, _ | ⟨_, _⟩⟩ <;> first
         | exact ff h
         | (have h : (isTp t && mG sx t g && mE sx e y && notCm y && notTp y) = true := h
            simp only [Bool.and_eq_true] at h
            exact ⟨g, y, q, rfl, h.1.1.1.2, h.1.1.2, h.1.2, h.2⟩))
theorem inv_par {is : List Nat} {es : Exs} (h : mS sx (.par is es) x = true) : ∃ ts kt pt vs kv pv q, x = .Assign [.Tuple ts kt pt] (.Tuple vs kv pv) q ∧ mPar sx is ts = true ∧ mEs sx es vs = true ∧ ((ts.all (isLoc sx) && parOk ts vs) || !ts.all (isLoc sx) || vs.all (foldedForSure 8)) = true ∧ is.Nodup := by
  cases x <;> first
    | exact ff h
    | (rename_i ts y q
       rcases ts with _ | ⟨g, _ | ⟨_, _⟩⟩ <;> first
         | exact ff h
         | (cases g <;> first
             | exact ff h
             | (cases y <;> first
                  | exact ff h
                  | (rename_i ts kt pt vs kv pv
                     have h : (mPar sx is ts && mEs sx es vs && ((ts.all (isLoc sx) && parOk ts vs) || !ts.all (isLoc sx) || vs.all (foldedForSure 8)) && decide (is.Nodup)) = true := h
                     rw [Bool.and_eq_true, Bool.and_eq_true, Bool.and_eq_true, decide_eq_true_eq] at h
                     exact ⟨ts, kt, pt, vs, kv, pv, q, rfl, h.1.1.1, h.1.1.2, h.1.2, h.2⟩))))
theorem inv_par1 {i : Nat} {is : List Nat} {ts : List Expr} (h : mPar sx (i :: is) ts = true) : ∃ n p r, ts = .Name n p :: r ∧ slotC sx i n = true ∧ stoC sx n = true ∧ mPar sx is r = true := by
  cases ts with
  | nil => exact ff h
  | cons t r =>
    cases t <;> first
      | exact ff h
      | (rename_i n p
         have h : (slotC sx i n && stoC sx n && mPar sx is r) = true := h
         simp only [Bool.and_eq_true] at h
         exact ⟨n, p, r, rfl, h.1.1, h.1.2, h.2⟩)
theorem isLoc_of {n : Str} {p : Pos} (h : isLoc sx (.Name n p) = true) : sx.sc.names.lookup n = some .local := by
  have h : (match (generalizing := false) sx.sc.names.lookup n with | some .local => true | _ => false) = true := h
  split at h
  · assumption
  · cases h
theorem inv_par0 {ts : List Expr} (h : mPar sx [] ts = true) : ts = [] := by
  cases ts with
  | nil => rfl
  | cons t r => exact ff (by cases t <;> exact h)
theorem inv_sset {i : Nat} {k e : Ex} (h : mS sx (.sset i k e) x = true) : ∃ n np y p z q, x = .Assign [.Subscript (.Name n np) y p] z q ∧ slotC sx i n = true ∧ visC sx.sc n = true ∧ plainN n = true ∧ mE sx k y = true ∧ mE sx e z = true ∧ notCm z = true := by
  cases x <;> first
    | exact ff h
    | (rename_i ts z q
       rcases ts with _ | ⟨g, _ | ⟨_, _⟩⟩ <;> first
         | exact ff h
         | (cases g <;> first
             | exact ff h
             | (rename_i o y p
                cases o <;> first
                  | exact ff h
                  | (rename_i n np
                     have h : (slotC sx i n && visC sx.sc n && plainN n && mE sx k y && mE sx e z && notSl y && notCm z) = true := h
                     simp only [Bool.and_eq_true] at h
                     exact ⟨n, np, y, p, z, q, rfl, h.1.1.1.1.1.1, h.1.1.1.1.1.2, h.1.1.1.1.2, h.1.1.1.2, h.1.1.2, h.2⟩))))
theorem inv_saug {i : Nat} {k e : Ex} {o : BO} (h : mS sx (.saug i k o e) x = true) : ∃ n np y p op z q, x = .AugAssign (.Subscript (.Name n np) y p) op z q ∧ slotC sx i n = true ∧ visC sx.sc n = true ∧ plainN n = true ∧ mE sx k y = true ∧ mO o op = true ∧ mE sx e z = true ∧ notSl y = true := by
  cases x <;> first
    | exact ff h
    | (rename_i g op z q
       cases g <;> first
         | exact ff h
         | (rename_i o' y p
            cases o' <;> first
              | exact ff h
              | (rename_i n np
                 have h : (slotC sx i n && visC sx.sc n && plainN n && mE sx k y && mO o op && mE sx e z && notSl y) = true := h
                 simp only [Bool.and_eq_true] at h
                 exact ⟨n, np, y, p, op, z, q, rfl, h.1.1.1.1.1.1, h.1.1.1.1.1.2, h.1.1.1.1.2, h.1.1.1.2, h.1.1.2, h.1.2, h.2⟩)))
theorem inv_app {i : Nat} {e : Ex} (h : mS sx (.app i e) x = true) : ∃ n np p z q s, x = .Expr (.Call (.Attribute (.Name n np) (oS "append") p) [z] [] q) s ∧ slotC sx i n = true ∧ visC sx.sc n = true ∧ plainN n = true ∧ mE sx e z = true ∧ nst z = true ∧ (p.endLine == q.line) = true := by
  cases x <;> first
    | exact ff h
    | (rename_i y s
       cases y <;> first
         | exact ff h
         | (rename_i fn xs ks q
            cases fn <;> first
              | exact ff h
              | (rename_i o a p
                 cases o <;> first
                   | exact ff h
                   | (rcases xs with _ | ⟨z, _ | ⟨_, _⟩⟩ <;> cases ks <;> first
                        | exact ff h
                        | (rename_i n np
                           have h : (slotC sx i n && visC sx.sc n && plainN n && decide (oS "append" = a) && mE sx e z && nst z && (p.endLine == q.line)) = true := h
                           simp only [Bool.and_eq_true, decide_eq_true_eq] at h
                           exact ⟨n, np, p, z, q, s, by rw [h.1.1.1.2], h.1.1.1.1.1.1, h.1.1.1.1.1.2, h.1.1.1.1.2, h.1.1.2, h.1.2, h.2⟩)))))
theorem inv_ret {e : Ex} (h : mS sx (.ret e) x = true) : ∃ y p, x = .Return (some y) p ∧ mE sx e y = true := by
  cases x <;> first
    | exact ff h
    | (rename_i y p
       cases y <;> first | exact ff h | exact ⟨_, _, rfl, h⟩)
theorem inv_retn (h : mS sx .retn x = true) : ∃ p, x = .Return none p := by
  cases x <;> first
    | exact ff h
    | (rename_i y p
       cases y <;> first | exact ff h | exact ⟨_, rfl⟩)
theorem inv_ex {e : Ex} (h : mS sx (.ex e) x = true) : ∃ y p, x = .Expr y p ∧ mE sx e y = true ∧ notCm y = true := by
  cases x <;> first
    | exact ff h
    | (have h : (mE sx e _ && notCm _) = true := h
       simp only [Bool.and_eq_true] at h
       exact ⟨_, _, rfl, h.1, h.2⟩)
theorem inv_ife {c : Tx} {a b : Cms} (h : mS sx (.ife c a b) x = true) : ∃ y z w p, x = .If y z w p ∧ mT sx c y = true ∧ mSs sx a z = true ∧ mSs sx b w = true := by
  cases x <;> first
    | exact ff h
    | (have h : (mT sx c _ && mSs sx a _ && mSs sx b _) = true := h
       simp only [Bool.and_eq_true] at h
       exact ⟨_, _, _, _, rfl, h.1.1, h.1.2, h.2⟩)
theorem inv_whl {c : Tx} {b : Cms} (h : mS sx (.whl c b) x = true) : ∃ y z p, x = .While y z [] p ∧ mT sx c y = true ∧ mSs sx b z = true := by
  cases x <;> first
    | exact ff h
    | (rename_i y z w p
       cases w <;> first
         | exact ff h
         | (have h : (mT sx c _ && mSs sx b _) = true := h
            simp only [Bool.and_eq_true] at h
            exact ⟨_, _, _, rfl, h.1, h.2⟩))
theorem inv_fr {t : Tg} {it : It} {b : Cms} (h : mS sx (.fr t it b) x = true) : ∃ g y z p, x = .For g y z [] p ∧ mG sx t g = true ∧ mI sx it y (isTp t) = true ∧ mSs sx b z = true := by
  cases x <;> first
    | exact ff h
    | (rename_i g y z w p
       cases w <;> first
         | exact ff h
         | (have h : (mG sx t g && mI sx it y (isTp t) && mSs sx b z) = true := h
            simp only [Bool.and_eq_true] at h
            exact ⟨g, y, z, p, rfl, h.1.1, h.1.2, h.2⟩))
end
section
variable {tb : Tb} {k : Nat}
theorem pr_all {X : Cx} {sx : Sx} (st : Stc X sx tb k) : ∀ (es : Exs) (xs : List Expr), mEs sx es xs = true → PA X xs (tAs X.K (exR ⟨callK tb k⟩ es))
  | .nil, xs, h => by
    rw [mEs_nil h]
    exact pa_nilA
  | .cons e r, xs, h => by
    obtain ⟨y, ys, rfl, h1, h2, h3⟩ := mEs_cons h
    exact pa_consA h2 (pe_argV (pe_all st e y h1).pe) (pr_all st r ys h3)
theorem EOk.mv {X : Cx} {sx : Sx} {e : Ex} {x : Expr} (h : EOk X tb k e x) (st : Stc X sx tb k) (hm : mE sx e x = true) : PE X x (tM X.K (mvR e (ev ⟨callK tb k⟩ e))) :=
  pe_mv (fun i ei => by
    subst ei
    obtain ⟨n, pos, rfl, h1, h2, h3⟩ := inv_var hm
    exact pv' st.N st.sc h1 h2 h3) h.pe
theorem ps_par' {X : Cx} {sx : Sx} (st : Stt X sx tb k) {is : List Nat} {es : Exs} {ts vs : List Expr} {kt kv : Nat} {pt pv q : Pos} (h1 : mPar sx is ts = true) (h2 : mEs sx es vs = true) (hloc : ts.all (isLoc sx) = true) (h3 : parOk ts vs = true) (nd : is.Nodup) :
    PS X (.Assign [.Tuple ts kt pt] (.Tuple vs kv pv) q) (fun D σ H => tAs X.K (exR ⟨callK tb k⟩ es) σ H fun ws H1 => ws.length = is.length ∧ D.nx (setAll σ is ws) H1) := by
  unfold parOk at h3
  simp only [Bool.and_eq_true, Bool.or_eq_true, Bool.not_eq_true', beq_iff_eq] at h3
  obtain ⟨⟨⟨⟨⟨l1, l2⟩, l3⟩, l4⟩, l5⟩, l6⟩ := h3
  have ns := mEs_nst h2
  have hpa := pr_all st.toStc es vs h2
  have nm : ∀ {i j : Nat} {x y : Str}, slotC sx i x = true → slotC sx j y = true → i ≠ j → x ≠ y := fun {i j x y} h h' n e => by
    have a := slot_of h
    have b := slot_of h'
    rw [← st.N] at a b
    rw [← e] at b
    obtain ⟨a1, a2⟩ := List.getElem?_eq_some_iff.mp a
    obtain ⟨b1, b2⟩ := List.getElem?_eq_some_iff.mp b
    exact n ((List.getElem_inj st.nd).mp (a2.trans b2.symm))
  rcases is with _ | ⟨i, _ | ⟨j, is⟩⟩
  · rw [inv_par0 h1] at l1; simp at l1
  · obtain ⟨x, px, r, rfl, _, _, h4⟩ := inv_par1 h1
    rw [inv_par0 h4] at l1; simp at l1
  · obtain ⟨x, px, r, rfl, sx1, _, h4⟩ := inv_par1 h1
    obtain ⟨y, py, r, rfl, sy1, _, h5⟩ := inv_par1 h4
    simp only [List.all_cons, Bool.and_eq_true] at hloc
    have lx := isLoc_of hloc.1
    have ly := isLoc_of hloc.2.1
    simp only [List.nodup_cons, List.mem_cons, not_or] at nd
    have nx := nm sx1 sy1 nd.1.1
    rcases is with _ | ⟨l, _ | ⟨_, _⟩⟩
    · rw [inv_par0 h5] at l1 l2 l4 ⊢
      rcases vs with _ | ⟨a, _ | ⟨b, _ | ⟨c, vs⟩⟩⟩ <;> simp at l2
      have ln : (py.line == px.line) = true := by simpa [Expr.pos] using l4
      simp only [List.all_cons, List.all_nil, Bool.and_true, Bool.and_eq_true] at ns
      refine ps_weak (ps_par st.calm st.nd (by rw [st.N]; exact slot_of sx1) (by rw [st.N]; exact slot_of sy1) nd.1.1 (by rw [st.sc]; exact lx) (by rw [st.sc]; exact ly) hpa
        (swapped2 st.kd (by rw [st.sc]; exact lx) (by rw [st.sc]; exact ly) nx ln ns l5 l6)) fun D σ H ⟨T, f, m, as, f', S, e, q⟩ => ⟨T, f, m, as, f', S, e, fun ws H' m' T' P h nd' fr => ?_⟩
      obtain ⟨h0, h⟩ := q ws H' m' T' P h nd' fr
      rcases ws with _ | ⟨v, _ | ⟨w, _ | ⟨_, _⟩⟩⟩ <;> simp at h0
      exact ⟨v, w, rfl, h⟩
    · obtain ⟨z, pz, r, rfl, sz1, _, h6⟩ := inv_par1 h5
      simp only [List.all_cons, Bool.and_eq_true] at hloc
      have lz := isLoc_of hloc.2.2.1
      rw [inv_par0 h6] at l1 l2 l4 ⊢
      rcases vs with _ | ⟨a, _ | ⟨b, _ | ⟨c, _ | ⟨_, vs⟩⟩⟩⟩ <;> simp at l2
      have ln : (py.line == px.line) = true ∧ (pz.line == px.line) = true := by simpa [Expr.pos] using l4
      simp only [List.all_cons, List.all_nil, Bool.and_true, Bool.and_eq_true] at ns
      simp only [List.mem_cons, not_or] at nd
      have nx2 := nm sx1 sz1 nd.1.2.1
      have nx3 := nm sy1 sz1 nd.2.1.1
      refine ps_weak (ps_par3 st.calm st.nd (by rw [st.N]; exact slot_of sx1) (by rw [st.N]; exact slot_of sy1) (by rw [st.N]; exact slot_of sz1) nd.1.1 nd.1.2.1 nd.2.1.1 (by rw [st.sc]; exact lx) (by rw [st.sc]; exact ly) (by rw [st.sc]; exact lz) hpa
        (swapped3 st.kd (by rw [st.sc]; exact lx) (by rw [st.sc]; exact ly) (by rw [st.sc]; exact lz) nx nx2 nx3 ln.1 ln.2 ns l5 l6)) fun D σ H ⟨T, f, m, as, f', S, e, q⟩ => ⟨T, f, m, as, f', S, e, fun ws H' m' T' P h nd' fr => ?_⟩
      obtain ⟨h0, h⟩ := q ws H' m' T' P h nd' fr
      rcases ws with _ | ⟨v, _ | ⟨w, _ | ⟨u, _ | ⟨_, _⟩⟩⟩⟩ <;> simp at h0
      exact ⟨v, w, u, rfl, h⟩
    · obtain ⟨z, pz, r, rfl, sz1, lz, h6⟩ := inv_par1 h5
      obtain ⟨z', pz', r', rfl, _⟩ := inv_par1 h6
      simp at l1
theorem sw_list {elt : Expr} {gs : List Comprehension} {sc : Scope} {pos pn : Pos} {n : Str} {line : Nat} {env : Env} : swapsWith (.ListComp elt gs sc pos) (some (.Name n pn)) line env =
    pure (env.blockKind == .function && env.kindOf n == some .local && pn.line == pos.line && !(sc.names.any fun (a, k) => a == n && (k == .local || k == .cell))) := rfl
theorem ps_setC {X : Cx} {sx : Sx} (st : Stt X sx tb k) {i : Nat} {e : Ex} {y : Expr} {n : Str} {p q : Pos} (h1 : slotC sx i n = true) (h2 : stoC sx n = true) (h3 : mE sx e y = true) (hc : isLC y = true) :
    PS X (.Assign [.Name n p] y q) (tAsg (tD X.K (ev ⟨callK tb k⟩ e)) (gName i)) := by
  obtain ⟨k1, k2⟩ := VI.sto_of h2
  have hN : X.N[i]? = some n := by rw [st.N]; exact slot_of h1
  cases y <;> first
    | exact ff hc
    | (rename_i elt gs sc pos
       cases hsw : (X.env.blockKind == .function && X.env.kindOf n == some .local && p.line == pos.line && !(sc.names.any fun (a, k) => a == n && (k == .local || k == .cell))) with
       | false =>
         exact ps_set st.nd hN (by rw [st.sc]; exact k1) (pe_all st.toStc e _ h3).pe (by rw [sw_list, hsw]) (k2.elim (fun z => .inl (st.fn _ z)) fun z => .inr (by rw [st.sc]; exact z))
       | true =>
         have hl : X.env.scope.names.lookup n = some .local := by
           have h := hsw
           simp only [Bool.and_eq_true] at h
           exact eq_of_beq h.1.1.2
         cases e with
         | dct t ks vs => obtain ⟨_, z, _⟩ := inv_dct h3; cases z
         | m g a es => obtain ⟨_, _, _, _, _, _, _, z, _⟩ := inv_m h3; cases z
         | lc own tg it c e =>
              obtain ⟨y, g, i', fs, sc, pos, ee, g1, g2, g3, g4, g5, g6⟩ := inv_lc h3
              cases ee
              have hw : swapsWith (.ListComp elt [⟨g, i', fs, 0⟩] sc pos) (some (.Name n p)) q.line X.env = pure true := by rw [sw_list, hsw]
              have r := ps_setLc (i := i) (spos := q) (py := p) (g := tG X.K (setT tg) (hasT tg)) (tt := tTD X.K (evC ⟨callK tb k⟩ c)) (te := tD X.K (ev ⟨callK tb k⟩ e)) st.calm st.nd hN hl hw (pi_all st.toStc it _ _ (isTp tg) (fun z => tp_tuple g3 z) g4) (blkOk_by (by rw [st.N, st.sc]; exact g1))
                (fun s H C cl fp => pg_all (st.toStc.blk s H sc C cl fp).N (st.toStc.blk s H sc C cl fp).nd (st.toStc.blk s H sc C cl fp).sc (st.toStc.blk s H sc C cl fp).fn (st.toStc.blk s H sc C cl fp).calm tg _ g3)
                (fun s H C cl fp => pc_all (st.toStc.blk s H sc C cl fp) c _ g5) (fun s H C cl fp => (pe_all (st.toStc.blk s H sc C cl fp) e _ g6).pe) (fun v => fset_mI g4 _ v)
              refine ps_weak r fun D σ H w => ?_
              refine lc_weak (by rw [mOwn_snd]; exact g2) ?_
              rw [mOwn_snd]
              exact w
         | lc2 own own1 tg it c tg1 it1 c1 e =>
              obtain ⟨y, g, i', fs, g', i1, fs1, sc, pos, ee, g1, g2, g2', hv, g3, g4, g5, g3', g4', g5', g6⟩ := inv_lc2 h3
              cases ee
              have hw : swapsWith (.ListComp elt [⟨g, i', fs, 0⟩, ⟨g', i1, fs1, 0⟩] sc pos) (some (.Name n p)) q.line X.env = pure true := by rw [sw_list, hsw]
              have r := ps_setLc2 (i := i) (spos := q) (py := p) (vs1 := own1) (g := tG X.K (setT tg) (hasT tg)) (tt := tTD X.K (evC ⟨callK tb k⟩ c)) (wi1 := tI X.K (evI ⟨callK tb k⟩ it1)) (g1 := tG X.K (setT tg1) (hasT tg1)) (tt1 := tTD X.K (evC ⟨callK tb k⟩ c1)) (te := tD X.K (ev ⟨callK tb k⟩ e)) st.calm st.nd hN hl hw (pi_all st.toStc it _ _ (isTp tg) (fun z => tp_tuple g3 z) g4) (blkOk_by (by rw [st.N, st.sc]; exact g1)) (by rw [mOwn_snd]; exact hv)
                (fun s H C cl fp => pg_all (st.toStc.blk s H sc C cl fp).N (st.toStc.blk s H sc C cl fp).nd (st.toStc.blk s H sc C cl fp).sc (st.toStc.blk s H sc C cl fp).fn (st.toStc.blk s H sc C cl fp).calm tg _ g3)
                (fun s H C cl fp => pc_all (st.toStc.blk s H sc C cl fp) c _ g5)
                (fun s H C cl fp => pi_all (st.toStc.blk s H sc C cl fp) it1 g' i1 (isTp tg1) (fun z => tp_tuple g3' z) g4')
                (fun s H C cl fp => pg_all (st.toStc.blk s H sc C cl fp).N (st.toStc.blk s H sc C cl fp).nd (st.toStc.blk s H sc C cl fp).sc (st.toStc.blk s H sc C cl fp).fn (st.toStc.blk s H sc C cl fp).calm tg1 _ g3')
                (fun s H C cl fp => pc_all (st.toStc.blk s H sc C cl fp) c1 _ g5')
                (fun s H C cl fp => (pe_all (st.toStc.blk s H sc C cl fp) e _ g6).pe) (fun v => fset_mI g4 _ v) (fun env v => fset_mI g4' env v)
              refine ps_weak r fun D σ H w => ?_
              refine lc2_weak (by rw [mOwn_snd]; exact hv) (by rw [mOwn_snd]; exact g2) g2' ?_
              rw [mOwn_snd]
              exact w
         | _ => exact ff h3)
theorem filterMap_lt {α β : Type} {f : α → Option β} : ∀ {l : List α}, (∃ x ∈ l, f x = none) → (l.filterMap f).length < l.length
  | [], ⟨x, h, _⟩ => by simp at h
  | y :: l, ⟨x, h, e⟩ => by
    rcases List.mem_cons.mp h with rfl | h
    · rw [List.filterMap_cons, e, List.length_cons]
      exact Nat.lt_succ_of_le (List.length_filterMap_le _ _)
    · have ih := filterMap_lt ⟨x, h, e⟩
      rw [List.filterMap_cons]
      split
      · rw [List.length_cons]; omega
      · rw [List.length_cons, List.length_cons]; omega
theorem swapped_cell {env : Env} {ts vs : List Expr} {kt k2 : Nat} {pt pt2 : Pos} (h : ∃ x p, Expr.Name x p ∈ ts ∧ env.kindOf x ≠ some .local) : swappedStores [.Tuple ts kt pt] (.Tuple vs k2 pt2) env = pure none := by
  obtain ⟨x, p, hm, hk⟩ := h
  unfold swappedStores
  dsimp only
  split
  · rfl
  · split
    · rfl
    · split
      · rfl
      · rename_i hc
        exfalso
        apply hc
        rw [Bool.or_eq_true]
        left
        rw [bne_iff_ne]
        refine Nat.ne_of_lt (filterMap_lt ⟨_, hm, ?_⟩)
        have : (env.kindOf x == some NameKind.local) = false := by simpa using hk
        simp [this]
theorem swapped_fold {env : Env} {ts vs : List Expr} {kt k2 : Nat} {pt pt2 : Pos} (h : vs.all (foldedForSure 8) = true) : swappedStores [.Tuple ts kt pt] (.Tuple vs k2 pt2) env = pure none := by
  unfold swappedStores
  dsimp only
  split
  · rfl
  · split
    · rfl
    · split
      · rfl
      · rfl
def gAll (is : List Nat) : TGs := fun vs σ H Q => vs.length = is.length ∧ Q (setAll σ is vs) H
theorem pgs_par {X : Cx} {sx : Sx} (st : Stc X sx tb k) : ∀ {is : List Nat} {ts : List Expr}, mPar sx is ts = true → PGs X ts (gAll is) ∧ ts.all nst = true ∧ ts.length = is.length
  | [], ts, h => by
    rw [inv_par0 h]
    exact ⟨pgs_weak pgs_nil fun vs σ H Q ⟨h1, h2⟩ => by
      cases vs with
      | nil => exact ⟨rfl, h2⟩
      | cons _ _ => simp at h1, rfl, rfl⟩
  | i :: is, ts, h => by
    obtain ⟨n, p, r, rfl, h1, h2, h3⟩ := inv_par1 h
    obtain ⟨q1, q2, q3⟩ := pgs_par st h3
    obtain ⟨k1, k2⟩ := VI.sto_of h2
    refine ⟨pgs_weak (pgs_cons (pg_name (i := i) st.nd (by rw [st.N]; exact slot_of h1) (by rw [st.sc]; exact k1) (k2.elim (fun z => .inl (st.fn _ z)) fun z => .inr (by rw [st.sc]; exact z))) q1 (assignEach_cons rfl)) fun vs σ H Q ⟨g1, g2⟩ => ?_, by rw [List.all_cons, q2]; rfl, by rw [List.length_cons, List.length_cons, q3]⟩
    cases vs with
    | nil => simp at g1
    | cons v vs => exact ⟨v, vs, rfl, by simpa using g1, g2⟩
theorem cell_of {X : Cx} {sx : Sx} (st : Stt X sx tb k) {is : List Nat} {ts : List Expr} (h1 : mPar sx is ts = true) (h3 : ts.all (isLoc sx) = false) : ∃ x p, Expr.Name x p ∈ ts ∧ X.env.kindOf x ≠ some .local := by
  rw [List.all_eq_false] at h3
  obtain ⟨e, he, hl⟩ := h3
  have : ∀ (is : List Nat) (ts : List Expr), mPar sx is ts = true → ∀ e ∈ ts, ∃ x p, e = .Name x p := fun is => by
    induction is with
    | nil => intro ts h e he; rw [inv_par0 h] at he; simp at he
    | cons i is ih =>
      intro ts h e he
      obtain ⟨n, p, r, rfl, _, _, h3⟩ := inv_par1 h
      rcases List.mem_cons.mp he with rfl | he
      · exact ⟨n, p, rfl⟩
      · exact ih r h3 e he
  obtain ⟨x, p, rfl⟩ := this is ts h1 e he
  refine ⟨x, p, he, fun z => hl ?_⟩
  have z : X.env.scope.names.lookup x = some .local := z
  rw [st.sc] at z
  show (match sx.sc.names.lookup x with | some .local => true | _ => false) = true
  rw [z]
theorem ps_parC {X : Cx} {sx : Sx} (st : Stt X sx tb k) {is : List Nat} {es : Exs} {ts vs : List Expr} {kt kv : Nat} {pt pv q : Pos} (h1 : mPar sx is ts = true) (h2 : mEs sx es vs = true) (h3 : ts.all (isLoc sx) = false ∨ vs.all (foldedForSure 8) = true) :
    PS X (.Assign [.Tuple ts kt pt] (.Tuple vs kv pv) q) (fun D σ H => tAs X.K (exR ⟨callK tb k⟩ es) σ H fun ws H1 => ws.length = is.length ∧ ws.length ≤ sizeLine ∧ ∀ p, H1 p = none → D.nx (setAll σ is ws) (upd H1 p (.tup ws))) := by
  obtain ⟨q1, q2, q3⟩ := pgs_par st.toStc h1
  have hsw : swappedStores [.Tuple ts kt pt] (.Tuple vs kv pv) X.env = pure none := by
   rcases h3 with h3 | h3
   · exact swapped_cell (cell_of st h1 h3)
   · exact swapped_fold h3
  refine ps_weak (ps_asg (pe_tup (pr_all st.toStc es vs h2)) (pg_tup (n := is.length) st.calm q1 ((assignEach_len q2).trans q3) (assignEach_no q2)) rfl hsw rfl) fun D σ H ⟨T, f, m, as, f', S, e, q⟩ => ⟨T, f, m, as, f', S, e, fun ws H' m' T' P h nd' fr => ?_⟩
  obtain ⟨g1, g2, g3⟩ := q ws H' m' T' P h nd' fr
  exact ⟨g2, fun p hp => ⟨p, ws, rfl, SqT.of upd_same, g1, g1, g3 p hp⟩⟩
mutual
theorem ps_all {X : Cx} {sx : Sx} (st : Stt X sx tb k) : ∀ (c : Cm) (x : Stmt), mS sx c x = true → PS X x (tSD X.K (exC ⟨callK tb k⟩ c))
  | .pass, x, h => by
    cases x <;> first
      | exact ff h
      | exact ps_weak ps_pass fun D σ H ⟨T, f, m, S, e⟩ => e σ H m (.refl S)
  | .brk, x, h => by
    cases x <;> first
      | exact ff h
      | exact ps_weak ps_break fun D σ H ⟨T, f, m, S, e⟩ => e σ H m (.refl S)
  | .cnt, x, h => by
    cases x <;> first
      | exact ff h
      | exact ps_weak ps_continue fun D σ H ⟨T, f, m, S, e⟩ => e σ H m (.refl S)
  | .never, x, h => ps_weak ps_never fun D σ H ⟨T, f, m, S, e⟩ => e
  | .ex e, x, h => by
    obtain ⟨y, p, rfl, h1, h2⟩ := inv_ex h
    refine ps_weak (ps_expr (pe_all st.toStc e y h1).pe (swaps_of h2)) fun D σ H ⟨T, f, m, S, en⟩ => ?_
    simp only [exC] at en
    split at en
    · rename_i r f1 er
      exact ⟨T, f, m, r, f1, S, er, fun v H' m' T' P hr => en σ H' m' P.drop.toM⟩
    · exact en.elim
  | .ret e, x, h => by
    obtain ⟨y, p, rfl, h1⟩ := inv_ret h
    refine ps_weak (ps_ret ((pe_all st.toStc e y h1).mv st.toStc h1)) fun D σ H ⟨T, f, m, S, en⟩ => ?_
    simp only [exC] at en
    split at en
    · rename_i r f1 er
      exact ⟨T, f, m, r, f1, S, er, fun v H' m' T' P hr => en σ H' m' T' v P hr⟩
    · exact en.elim
  | .retn, x, h => by
    obtain ⟨p, rfl⟩ := inv_retn h
    exact ps_weak ps_retN fun D σ H ⟨T, f, m, S, en⟩ => en σ H m T _ (.refl S) ⟨rfl, rfl⟩
  | .asg i e, x, h => by
    obtain ⟨n, p, y, q, rfl, h1, h2, h3, h4⟩ := inv_asg h
    cases hcm : notCm y with
    | false =>
      rw [hcm] at h4
      have h4 : isLC y = true := by simpa using h4
      have em : mvR e (ev ⟨callK tb k⟩ e) = ev ⟨callK tb k⟩ e := by
        funext f
        cases e <;> first | rfl | (exfalso; cases y <;> first | exact ff h3 | exact ff h4)
      refine ps_weak (ps_setC st h1 h2 h3 h4) fun D σ H ⟨T, f, m, S, en⟩ => ?_
      simp only [exC, em] at en
      split at en
      · rename_i r f1 er
        unfold stoS at en
        split at en
        · rename_i f2 e2
          exact ⟨T, f, m, r, f1, S, er, fun v H' m' T' P hr => by
            obtain ⟨m2, P2⟩ := sto_post P.toM (hr.q S) e2
            exact en _ H' m2 P2⟩
        · exact en.elim
      · exact en.elim
    | true =>
    have h4 := hcm
    obtain ⟨k1, k2⟩ := VI.sto_of h2
    refine ps_weak (ps_set st.nd (by rw [st.N]; exact slot_of h1) (by rw [st.sc]; exact k1) ((pe_all st.toStc e y h3).mv st.toStc h3) (swaps_of h4) (k2.elim (fun z => .inl (st.fn _ z)) fun z => .inr (by rw [st.sc]; exact z))) fun D σ H ⟨T, f, m, S, en⟩ => ?_
    simp only [exC] at en
    split at en
    · rename_i r f1 er
      unfold stoS at en
      split at en
      · rename_i f2 e2
        exact ⟨T, f, m, r, f1, S, er, fun v H' m' T' P hr => by
          obtain ⟨m2, P2⟩ := sto_post P hr e2
          exact en _ H' m2 P2⟩
      · exact en.elim
    · exact en.elim
  | .asgt t e, x, h => by
    obtain ⟨g, y, q, rfl, h1, h2, h3, h4⟩ := inv_asgt h
    refine ps_weak (ps_asg ((pe_all st.toStc e y h2).po st.toStc h2) (pg_all st.N st.nd st.sc st.fn st.calm t g h1) (swaps_of h3) (swapped_no h4) (assignEach_cons (mG_nst h1))) fun D σ H ⟨T, f, m, S, en⟩ => ?_
    simp only [exC] at en
    split at en
    · rename_i d f1 er
      split at en
      · rename_i f2 e2
        obtain ⟨x, f3, ex, er⟩ := bind_ok er
        obtain ⟨er, rfl⟩ := ofO_ok er
        refine ⟨T, f, m, x, f1, S, ex, fun v H' m' T' P hx => ?_⟩
        exact ⟨T', f1, m', d, f2, P.sim, hx.rd P.sim er, e2, fun σ2 m2 P2 => en σ2 H' m2 ⟨P2.sim.lessT P.tl, P.drop.step.trans (step_less P2.ml), P.kp.trans P2.kp⟩⟩
      · exact en.elim
    · exact en.elim
  | .par is es, x, h => by
    obtain ⟨ts, kt, pt, vs, kv, pv, q, rfl, h1, h2, h3, h4⟩ := inv_par h
    by_cases hq : ts.all (isLoc sx) = false ∨ vs.all (foldedForSure 8) = true
    · refine ps_weak (ps_parC st h1 h2 hq) fun D σ H ⟨T, f, m, S, en⟩ => ?_
      simp only [exC] at en
      split at en
      · rename_i as f1 er
        split at en
        · rename_i f2 e2
          split at en
          · rename_i hlen
            refine ⟨T, f, m, as, f1, S, er, fun ws H' m' T' P hA nd fr => ⟨?_, ?_, fun p hp => ?_⟩⟩
            · rw [hA.len, (stosS_nb e2).2]
            · rw [hA.len, ← (stosS_nb e2).2]; exact small_line hlen
            · obtain ⟨m2, P2⟩ := stos_post S P hA nd fr e2
              exact en _ _ m2 (P2.trans ⟨P2.sim.new hp, Step.new hp T fun _ h => .inl h, Kp.refl⟩)
          · exact en.elim
        · exact en.elim
      · exact en.elim
    · have hl : ts.all (isLoc sx) = true := by
        cases e : ts.all (isLoc sx) with
        | true => rfl
        | false => exact (hq (.inl e)).elim
      have hf : vs.all (foldedForSure 8) = false := by
        cases e : vs.all (foldedForSure 8) with
        | false => rfl
        | true => exact (hq (.inr e)).elim
      rw [hl, hf] at h3
      have h3 : parOk ts vs = true := by simpa using h3
      refine ps_weak (ps_par' st h1 h2 hl h3 h4) fun D σ H ⟨T, f, m, S, en⟩ => ?_
      simp only [exC] at en
      split at en
      · rename_i as f1 er
        split at en
        · rename_i f2 e2
          split at en
          · refine ⟨T, f, m, as, f1, S, er, fun ws H' m' T' P hA nd fr => ⟨?_, ?_⟩⟩
            · rw [hA.len, (stosS_nb e2).2]
            · obtain ⟨m2, P2⟩ := stos_post S P hA nd fr e2
              exact en _ H' m2 P2
          · exact en.elim
        · exact en.elim
      · exact en.elim
  | .aug i o e, x, h => by
    obtain ⟨n, p, op, y, q, rfl, h1, h2, h3, h4⟩ := inv_aug h
    obtain ⟨k1, k2⟩ := VI.sto_of h2
    have hN : X.N[i]? = some n := by rw [st.N]; exact slot_of h1
    have hL : Loc X.env.scope n := by rw [st.sc]; exact k1
    have hF : X.fn n = true ∨ X.env.scope.names.lookup n = some .local := k2.elim (fun z => .inl (st.fn _ z)) fun z => .inr (by rw [st.sc]; exact z)
    have core : ∀ {D : Ends} {σ : L2.St} {H : Hp} (w : Int → Int → Int), (∀ a b r, augI o a b = some r → r = w a b) → tSD X.K (exC ⟨callK tb k⟩ (.aug i o e)) D σ H → tAug i (tO X.K (opd e (ev ⟨callK tb k⟩ e))) (ipI w) D σ H := fun {D σ H} w hw ⟨T, f, m, S, en⟩ => by
      simp only [exC] at en
      split at en
      · rename_i a ha
        split at en
        · rename_i b f1 er
          split at en
          · rename_i r hr
            unfold stoS at en
            split at en
            · rename_i f2 e2
              obtain ⟨v, e0, e0'⟩ := S.val i _ ha
              have e0' : v = .int a := e0'
              subst e0'
              obtain ⟨xo, f3, ex, er⟩ := bind_ok er
              obtain ⟨er, rfl⟩ := ofO_ok er
              refine ⟨_, e0, T, f, m, xo, f1, S, ex, fun u H1 m1 T1 P1 hx => ⟨a, b, rfl, hx.rd P1.sim er, ?_⟩⟩
              rw [← hw a b r hr]
              obtain ⟨m2, P2⟩ := sto_post (r := .v (.int r)) (v := .int r) P1.drop.toM ⟨rfl, rfl⟩ e2
              exact en _ H1 m2 P2
            · exact en.elim
          · exact en.elim
        · exact en.elim
      · exact en.elim
    have he := (pe_all st.toStc e y h4).po st.toStc h4
    cases o <;> first
      | (have ho : op = .Add := mO_eq h3
         subst ho
         exact ps_weak (ps_aug st.nd hN hL he ip_add hF) fun D σ H w => core _ (fun a b r z => by simpa [augI] using z.symm) w)
      | (have ho : op = .Sub := mO_eq h3
         subst ho
         exact ps_weak (ps_aug st.nd hN hL he ip_sub hF) fun D σ H w => core _ (fun a b r z => by simpa [augI] using z.symm) w)
      | exact ps_weak ps_never fun D σ H ⟨T, f, m, S, en⟩ => by
          simp only [exC, augI] at en
          split at en
          · split at en <;> exact en
          · exact en
  | .sset i k' e, x, h => by
    obtain ⟨n, np, y, p, z, q, rfl, h1, h2, h3, h4, h5, h6⟩ := inv_sset h
    refine ps_weak (ps_sset (by have := st.room.un; omega) (pv' st.N st.sc h1 h2 h3) ((pe_all st.toStc k' y h4).po st.toStc h4) (pe_all st.toStc e z h5).pe (swaps_of h6)) fun D σ H ⟨T, f, m, S, en⟩ => ?_
    simp only [exC] at en
    split at en
    · rename_i r f1 er
      split at en
      · rename_i p0 l0 ds0 e0
        split at en
        · rename_i d x f2 ed ek
          split at en
          · rename_i u p ob e1 e2
            split at en
            · rename_i ob2 e3
              refine ⟨T, f, m, r, f1, S, er, fun v H1 m1 T1 P1 hr => ?_⟩
              have rv := fz_rep S P1 hr ed
              have P1 := P1.drop
              obtain ⟨a, g1, g2, _⟩ := P1.sim.own i _ _ _ e0
              refine ⟨.ref a, g2, T, f1, m1, x, f2, P1.sim, ek, fun y H3 m3 T3 P3 h3 => ?_⟩
              obtain ⟨a', k1, k2, k3⟩ := P3.sim.own i _ _ _ e2
              rw [g2] at k2; cases k2
              have hy := h3.rd P3.sim e1
              have fin : ∀ ho, OwnAt X.K (BB m3 T3) (upd H3 a ho) a ob2 → D.nx σ (upd H3 a ho) := fun ho h => by
                have P4 := PostX.wr (ho := ho) P3.sim e2 k1 h
                exact en σ _ m3 ((P1.trans P3).trans P4).drop.toM
              unfold ssetO at e3
              split at e3
              · rename_i ds j
                obtain ⟨n', e4, rfl⟩ := Option.map_eq_some_iff.mp e3
                obtain ⟨ws, k3, k4⟩ := k3
                have hy : y = .int j := hy
                refine .inl ⟨a, ws, j, n', rfl, hy, k3, by rw [k4.length]; exact e4, fin _ ⟨_, upd_same, reps_wr (.inl ⟨i, k1⟩) (Reps.set (rv.st P3.step) n' k4)⟩⟩
              · cases e3
              · obtain ⟨ho, q1, q2⟩ := dput_ok k3 (.inl ⟨i, k1⟩) hy (rv.st P3.step) e3
                exact .inr ⟨a, _, rfl, q1, fin ho q2⟩
            · exact en.elim
          · exact en.elim
        · exact en.elim
      · exact en.elim
    · exact en.elim
  | .saug i k' o e, x, h => by
    obtain ⟨n, np, y, p, op, z, q, rfl, h1, h2, h3, h4, h5, h6, h7⟩ := inv_saug h
    have hst : ∀ ov iv new, augStore y ov iv new = (do holding [new, ov, iv] (setItem ov iv new); release [new, ov, iv] []; pure .next) := by
      intro ov iv new
      cases y <;> first | exact ff h7 | rfl
    have core : ∀ {D : Ends} {σ : L2.St} {H : Hp} (w : Int → Int → Int), (∀ a b r, augI o a b = some r → r = w a b) → tSD X.K (exC ⟨callK tb k⟩ (.saug i k' o e)) D σ H → tAugS (tVar i) (tO X.K (opd k' (ev ⟨callK tb k⟩ k'))) (tO X.K (opd e (ev ⟨callK tb k⟩ e))) (getT X.K) (ipI w) setU D σ H := fun {D σ H} w hw ⟨T, f, m, S, en⟩ => by
      simp only [exC] at en
      split at en
      · rename_i p0 l0 ob0 e0
        split at en
        · rename_i xo f2 ek
          split at en
          · rename_i kd p1 l1 ob e1 e2
            split at en
            · rename_i a e3
              split at en
              · rename_i b f3 er
                split at en
                · rename_i r p3 ob3 e4 e5
                  split at en
                  · rename_i ob4 e6
                    obtain ⟨ad, g1, g2, _⟩ := S.own i _ _ _ e0
                    refine ⟨.ref ad, g2, T, f, m, xo, f2, S, ek, fun yv H2 m2 T2 P2 h2' => ?_⟩
                    have hy : RtAt X.K (BB m2 T2) H2 (.v kd) yv := h2'.rd P2.sim e1
                    obtain ⟨ad2, k1, k2, k3⟩ := P2.sim.own i _ _ _ e2
                    rw [g2] at k2; cases k2
                    obtain ⟨xe, f4, ex, er⟩ := bind_ok er
                    obtain ⟨er, rfl⟩ := ofO_ok er
                    refine ⟨_, ad, ob, kd, a, rfl, k3, hy, e3, T2, f2, m2, xe, _, P2.sim, ex, fun v2 H4 m4 T4 P4 h4' => ?_⟩
                    have hb : RtAt X.K (BB m4 T4) H4 (.v (.int b)) v2 := h4'.rd P4.sim er
                    refine ⟨a, b, rfl, hb, ?_⟩
                    rw [← hw a b r e4]
                    obtain ⟨ad3, k1', k2', k3'⟩ := P4.sim.own i _ _ _ e5
                    rw [g2] at k2'; cases k2'
                    have hy4 : Rep X.K (BB m4 T4) H4 kd yv := Rep.st hy P4.step
                    have fin : ∀ ho, OwnAt X.K (BB m4 T4) (upd H4 ad ho) ad ob4 → D.nx σ (upd H4 ad ho) := fun ho h => by
                      have P5 := PostX.wr (ho := ho) P4.sim e5 k1' h
                      exact en σ _ m4 ((P2.trans P4).trans P5).drop.toM
                    unfold ssetO at e6
                    split at e6
                    · rename_i ds j hj
                      obtain ⟨n', e7, rfl⟩ := Option.map_eq_some_iff.mp e6
                      obtain ⟨ws, k3, k4⟩ := k3'
                      injection hj with hj
                      subst hj
                      have hy : yv = .int j := hy4
                      refine .inl ⟨ad, ws, j, n', rfl, hy, k3, by rw [k4.length]; exact e7, fin _ ⟨_, upd_same, reps_wr (.inl ⟨i, k1'⟩) (Reps.set (d := .int r) rfl n' k4)⟩⟩
                    · cases e6
                    · obtain ⟨ho, q1, q2⟩ := dput_ok (d := .int r) (u := .v kd) (v := .int r) k3' (.inl ⟨i, k1'⟩) hy4 rfl e6
                      exact .inr ⟨ad, _, rfl, q1, fin ho q2⟩
                  · exact en.elim
                · exact en.elim
              · exact en.elim
            · exact en.elim
          · exact en.elim
        · exact en.elim
      · exact en.elim
    have hu : X.A.units + 1 < cLine := by have := st.room.un; omega
    have hk := (pe_all st.toStc k' y h4).po st.toStc h4
    have he := (pe_all st.toStc e z h6).po st.toStc h6
    cases o <;> first
      | (have ho : op = .Add := mO_eq h5
         subst ho
         exact ps_weak (ps_augS (pv' st.N st.sc h1 h2 h3) hk (get_T hu) he ip_add (set_T hu) hst) fun D σ H w => core _ (fun a b r z => by simpa [augI] using z.symm) w)
      | (have ho : op = .Sub := mO_eq h5
         subst ho
         exact ps_weak (ps_augS (pv' st.N st.sc h1 h2 h3) hk (get_T hu) he ip_sub (set_T hu) hst) fun D σ H w => core _ (fun a b r z => by simpa [augI] using z.symm) w)
      | exact ps_weak ps_never fun D σ H ⟨T, f, m, S, en⟩ => by
          exfalso
          simp only [exC] at en
          repeat' (split at en)
          all_goals (first | exact en.elim | exact en | exact absurd ‹augI _ _ _ = some _› (by simp [augI]))
  | .app i e, x, h => by
    obtain ⟨n, np, p, z, q, s, rfl, h1, h2, h3, h4, h5, h6⟩ := inv_app h
    refine ps_weak (ps_expr (pe_bm PySem.F.plainAttrs_list PySem.F.slot_list_append PySem.F.type_list_append mt_append (pv' st.N st.sc h1 h2 h3) (pa_cons (pe_all st.toStc e z h4).pe pa_nil (star_cons h5)) rfl (by rw [star_cons h5]; rfl) h6 (star_cons h5) rfl) rfl) fun D σ H ⟨T, f, m, S, en⟩ => ?_
    simp only [exC] at en
    split at en
    · rename_i p0 l0 ds0 e0
      split at en
      · rename_i r f1 er
        split at en
        · rename_i d pp ds ed e2
          split at en
          · rename_i hl
            obtain ⟨a, g1, g2, ws0, g3, _⟩ := S.own i _ _ _ e0
            refine ⟨.ref a, g2, .inl ⟨rfl, ws0, SqL.of g3⟩, T, f, m, r, f1, S, er, fun v H1 m1 T1 P1 hr => ?_⟩
            have rv := fz_rep S P1 hr ed
            have P1 := P1.drop
            obtain ⟨a', k1, k2, ws, k3, k4⟩ := P1.sim.own i _ _ _ e2
            rw [g2] at k2; cases k2
            refine ⟨a, ws, v, rfl, rfl, k3, by rw [k4.length, lm_eq]; exact hl, ?_⟩
            have P4 := PostX.wr (o' := .lst (ds ++ [d])) (ho := .lst (ws ++ [v])) P1.sim e2 k1 ⟨_, upd_same, reps_wr (.inl ⟨i, k1⟩) (k4.append (.one rv))⟩
            exact en σ _ m1 (P1.trans P4).drop.toM
          · exact en.elim
        · exact en.elim
      · exact en.elim
    · exact en.elim
  | .ife c a b, x, h => by
    obtain ⟨y, z, w, p, rfl, h1, h2, h3⟩ := inv_ife h
    refine ps_weak (ps_if (pt_all st.toStc c y h1) (pss_all st a z h2) (pss_all st b w h3)) fun D σ H ⟨T, f, m, S, en⟩ => ?_
    simp only [exC] at en
    split at en
    · rename_i kk f1 er
      refine ⟨T, f, m, kk, f1, S, er, fun H' m' P => ?_⟩
      have en := EndS.pre P.toM en
      cases kk with
      | true => exact ⟨T, f1, m', P.sim, en⟩
      | false => exact ⟨T, f1, m', P.sim, en⟩
    · exact en.elim
  | .whl c b, x, h => by
    obtain ⟨y, z, p, rfl, h1, h2⟩ := inv_whl h
    refine ps_weak (ps_while st.ps (pt_all st.toStc c y h1) (pss_all st b z h2)) fun D σ H ⟨T, f, m, S, en⟩ => ?_
    simp only [exC] at en
    have hb : whl (evT ⟨callK tb k⟩ c) (exCs ⟨callK tb k⟩ b) f ≠ .bad := fun z => by rw [z] at en; exact en.elim
    obtain ⟨n0, e0⟩ := whl_ok hb
    generalize whl (evT ⟨callK tb k⟩ c) (exCs ⟨callK tb k⟩ b) f = sF at en e0
    refine ⟨fun n σ' H' => ∃ f' m', PostM X.K T σ H f m σ' f' H' m' T ∧ whGo (evT ⟨callK tb k⟩ c) (exCs ⟨callK tb k⟩ b) n f' = some sF, ⟨n0, f, m, .refl S, e0⟩, ?_⟩
    rintro n σ1 H1 ⟨f1, m1, P1, e1⟩
    cases n with
    | zero => simp [whGo] at e1
    | succ n =>
      simp only [whGo] at e1
      cases et : evT ⟨callK tb k⟩ c f1 with
      | bad => rw [et] at e1; cases e1; exact en.elim
      | ok kk f2 =>
        rw [et] at e1
        refine ⟨T, f1, m1, kk, f2, P1.sim, et, fun H2 m2 P2 => ?_⟩
        have P12 := P1.trans P2.toM
        cases kk with
        | false => cases e1; exact en σ1 H2 m2 P12
        | true =>
          simp only [if_true]
          refine ⟨fun σ' H' => ∃ f' m', PostM X.K T σ H f m σ' f' H' m' T ∧ whGo (evT ⟨callK tb k⟩ c) (exCs ⟨callK tb k⟩ b) n f' = some sF, fun σ' H' hN => ⟨n, Nat.lt_succ_self n, hN⟩, T, f2, m2, P12.sim, ?_⟩
          simp only at e1
          cases eb : exCs ⟨callK tb k⟩ b f2 with
          | nxt f3 => rw [eb] at e1; exact fun σ' H' m' P => ⟨f3, m', P12.trans P, e1⟩
          | cnt f3 => rw [eb] at e1; exact fun σ' H' m' P => ⟨f3, m', P12.trans P, e1⟩
          | brk f3 => rw [eb] at e1; cases e1; exact fun σ' H' m' P => en σ' H' m' (P12.trans P)
          | ret r f3 => rw [eb] at e1; cases e1; exact fun σ' H' m' T' v P hr => en σ' H' m' T' v (P12.trans P) (hr.pre P12.step)
          | bad => rw [eb] at e1; cases e1; exact en.elim
  | .fr t it b, x, h => by
    obtain ⟨g, y, z, p, rfl, h1, h2, h3⟩ := inv_fr h
    refine ps_weak (ps_for st.ps st.calm (pi_all st.toStc it g y (isTp t) (fun z => tp_tuple h1 z) h2) (pg_all st.N st.nd st.sc st.fn st.calm t g h1) (pss_all st b z h3) (fun v => fset_mI h2 _ v)) fun D σ H ⟨T, f, m, S, en⟩ => ?_
    simp only [exC] at en
    split at en
    · rename_i dl f1 er
      refine ⟨T, f, m, dl, f1, S, er, fun J H1 m1 P1 jd hn => ?_⟩
      generalize hsF : frGo t (exCs ⟨callK tb k⟩ b) dl.1 f1 = sF at en
      -- a state of the loop
      have unl : ∀ {σ' f' H' m'}, PostM X.K T σ H1 f1 m1 σ' f' H' m' T → PostM X.K T σ H f m σ' (unlk f' dl.2) H' m' T := fun {σ' f' H' m'} P => ⟨P.sim.unlk _, P1.step.trans P.step, Kp.unlk P1.kp P.kp fun i hi => (hn i hi).1⟩
      refine ⟨fun i n σ' H' => n = dl.1.length - i ∧ i ≤ dl.1.length ∧ ∃ f' m', PostM X.K T σ H1 f1 m1 σ' f' H' m' T ∧ frGo t (exCs ⟨callK tb k⟩ b) (dl.1.drop i) f' = sF, ⟨dl.1.length, rfl, Nat.zero_le _, f1, m1, .refl P1.sim, by simpa using hsF⟩, ?_⟩
      rintro i n σ2 H2 ⟨rfl, hi, f2, m2, P2, e2⟩
      have lat : Lat X.K σ f1 m1 T H1 dl.2 σ2 f2 m2 T H2 := ⟨P2.sim, P2.step.w, fun j p' o' hl => by
        obtain ⟨g1, g2⟩ := P2.kp.lk j p' o' hl
        exact ⟨g2.trans hl.symm, g1⟩⟩
      by_cases hlt : i < dl.1.length
      · have ei := List.getElem?_eq_getElem hlt
        obtain ⟨g1, g2⟩ := jd.go _ _ _ _ _ lat i _ ei
        rw [List.drop_eq_getElem_cons hlt] at e2
        refine .inr ⟨g1, fun σ' H' => ∃ f' m', PostM X.K T σ H1 f1 m1 σ' f' H' m' T ∧ frGo t (exCs ⟨callK tb k⟩ b) (dl.1.drop (i + 1)) f' = sF, fun σ' H' ⟨f', m', P', e'⟩ => ⟨dl.1.length - (i + 1), by omega, rfl, hlt, f', m', P', e'⟩, fun xv H3 yl => ?_⟩
        obtain ⟨S3, s3, r3⟩ := yld_ok P2.sim (g2 xv H3 yl)
        simp only [frGo] at e2
        split at e2
        · rw [← e2] at en; exact en.elim
        · rename_i f3 e3
          refine ⟨T, f2, m2, _, f3, S3, r3, e3, fun σ4 m4 P4 => ?_⟩
          have P24 : PostM X.K T σ H1 f1 m1 σ4 f3 H3 m4 T := P2.trans ⟨P4.sim, s3.trans (step_less P4.ml), P4.kp⟩
          refine ⟨T, f3, m4, P4.sim, ?_⟩
          cases eb : exCs ⟨callK tb k⟩ b f3 with
          | nxt f5 => rw [eb] at e2; exact fun σ' H' m' P => ⟨f5, m', P24.trans P, e2⟩
          | cnt f5 => rw [eb] at e2; exact fun σ' H' m' P => ⟨f5, m', P24.trans P, e2⟩
          | brk f5 => rw [eb] at e2; rw [← e2] at en; exact fun σ' H' m' P => en σ' H' m' (unl (P24.trans P))
          | ret r f5 =>
            rw [eb] at e2; rw [← e2] at en
            exact fun σ' H' m' T' v P hr => en σ' H' m' T' v (P1.toM.trans (P24.trans P)) ((hr.pre P24.step).pre P1.step)
          | bad => rw [eb] at e2; rw [← e2] at en; exact en.elim
      · have hi' : i = dl.1.length := by omega
        subst hi'
        rw [List.drop_length] at e2
        rw [← e2] at en
        exact .inl ⟨jd.stop _ _ _ _ _ lat, en σ2 H2 m2 (unl P2)⟩
    · exact en.elim
theorem pss_all {X : Cx} {sx : Sx} (st : Stt X sx tb k) : ∀ (cs : Cms) (xs : List Stmt), mSs sx cs xs = true → PSs X xs (tSD X.K (exCs ⟨callK tb k⟩ cs))
  | .nil, xs, h => by
    cases xs with
    | nil => exact pss_weak pss_nil fun D σ H ⟨T, f, m, S, e⟩ => e σ H m (.refl S)
    | cons y ys => exact ff h
  | .cons c r, xs, h => by
    cases xs with
    | nil => exact ff h
    | cons y ys =>
      have h : (mS sx c y && mSs sx r ys) = true := h
      simp only [Bool.and_eq_true] at h
      refine pss_weak (pss_cons (ps_all st c y h.1) (pss_all st r ys h.2)) fun D σ H ⟨T, f, m, S, en⟩ => ⟨T, f, m, S, ?_⟩
      simp only [exCs] at en
      cases ec : exC ⟨callK tb k⟩ c f with
      | nxt f1 => rw [ec] at en; exact fun σ1 H1 m1 P => ⟨T, f1, m1, P.sim, EndS.pre P en⟩
      | brk f1 => rw [ec] at en; exact en
      | cnt f1 => rw [ec] at en; exact en
      | ret r f1 => rw [ec] at en; exact en
      | bad => rw [ec] at en; exact en
end
end
end VI

set_option Elab.async false
set_option linter.all false
set_option maxRecDepth 100000
set_option maxHeartbeats 4000000
set_option autoImplicit false
namespace VI
open PySem PySem.Spec PyProof.Rows L2

section
variable {K : PySem.W.Frag} {T T' : AP} {σ σ' : L2.St} {H H' : Hp} {m m' : Om} {f f' : Fr}
theorem Sim.ext (S : Sim K T σ H f m) (n : Nat) : Sim K T (σ ++ List.replicate n none) H (f ++ List.replicate n .no) m where
  len := by rw [List.length_append, List.length_append, List.length_replicate, List.length_replicate, S.len]
  val := fun i d e => by
    by_cases hi : i < f.length
    · rw [List.getElem?_append_left hi] at e
      rw [List.getElem?_append_left (by rw [← S.len]; exact hi)]
      exact S.val i d e
    · rw [List.getElem?_append_right (by omega)] at e
      rw [List.getElem?_replicate] at e
      split at e <;> cases e
  own := fun i p l o e => by
    by_cases hi : i < f.length
    · rw [List.getElem?_append_left hi] at e
      rw [List.getElem?_append_left (by rw [← S.len]; exact hi)]
      exact S.own i p l o e
    · rw [List.getElem?_append_right (by omega)] at e
      rw [List.getElem?_replicate] at e
      split at e <;> cases e
  dom := fun i a e => by
    obtain ⟨p, l, o, h⟩ := S.dom i a e
    exact ⟨p, l, o, by rw [List.getElem?_append_left (List.getElem?_eq_some_iff.mp h).1]; exact h⟩
  inj := S.inj
  tmp := S.tmp
  tr := S.tr
  ntp := S.ntp
/-- the lent ones alone -/
def pinM (sl : List Slot) (m : Om) : Om := fun j => match sl[j]? with
  | some (.own true _ _) => m j
  | _ => none
theorem pinM_some {sl : List Slot} {j : Nat} {a : Addr} (h : pinM sl m j = some a) : (∃ l o, sl[j]? = some (.own true l o)) ∧ m j = some a := by
  unfold pinM at h
  split at h
  · rename_i l o e
    exact ⟨⟨l, o, e⟩, h⟩
  · cases h
/-- a body's end is a call's end -/
theorem body_end {sl : List Slot} {vs : List V} {n : Nat} {r : Rt} {v : V} (S : Sim K T (vs.map some) H sl m) (ha : ∀ s ∈ sl, isArg s) (P : PostM K T (vs.map some ++ List.replicate n none) H (sl ++ List.replicate n .no) m σ' f' H' m' T')
    (hr : RtQ K T m H H' m' T' v r) (hl : sl.length ≤ f'.length) :
    Sim K T' (vs.map some) H' (outF sl (f'.take sl.length)) (pinM sl m') ∧ Step m T H (pinM sl m') T' H' ∧ (∀ (j : Nat) (l : Bool) (o : Ob), sl[j]? = some (.own true l o) → ∃ l' o', (f'.take sl.length)[j]? = some (.own true l' o')) ∧ RtP K T H H' (pinM sl m') T' v r := by
  have lv : sl.length = vs.length := by have := S.len; rw [List.length_map] at this; exact this
  have at0 : ∀ {j : Nat} {s : Slot}, sl[j]? = some s → (sl ++ List.replicate n Slot.no)[j]? = some s ∧ j < sl.length ∧ (vs.map some ++ List.replicate n none)[j]? = (vs.map some)[j]? := fun {j s} h => by
    have hj := (List.getElem?_eq_some_iff.mp h).1
    exact ⟨by rw [List.getElem?_append_left hj]; exact h, hj, List.getElem?_append_left (by rw [List.length_map, ← lv]; exact hj)⟩
  have pin : ∀ (j : Nat) (l : Bool) (o : Ob), sl[j]? = some (.own true l o) → σ'[j]? = (vs.map some)[j]? ∧ ∃ l' o', f'[j]? = some (.own true l' o') := fun j l o h => by
    obtain ⟨h1, h2, h3⟩ := at0 h
    obtain ⟨e, h4⟩ := P.kp.pn j l o h1
    exact ⟨e.trans h3, h4⟩
  have tk : ∀ {j : Nat}, j < sl.length → (f'.take sl.length)[j]? = f'[j]? := fun {j} hj => List.getElem?_take_of_lt hj
  have sub : ∀ a, BB (pinM sl m') T' a → BB m' T' a ∨ H' a = none := fun a z => .inl (z.elim (fun ⟨j, e⟩ => .inl ⟨j, (pinM_some e).2⟩) .inr)
  have ownPin : ∀ {j : Nat} {a : Addr}, m j = some a → ∃ l o, sl[j]? = some (.own true l o) := fun {j a} e => by
    obtain ⟨p, l, o, h⟩ := S.dom j a e
    have := ha _ (List.mem_of_getElem? h)
    cases p with
    | true => exact ⟨l, o, h⟩
    | false => exact this.elim
  have stp : Step m T H (pinM sl m') T' H' := ⟨P.step.keep, fun a ⟨j, e⟩ => P.step.own a ⟨j, (pinM_some e).2⟩, fun a z => by
    cases r with
    | v d => rw [hr.1] at z; exact .inl z
    | o ob =>
      obtain ⟨c, h1, h2, h3, h4, h5⟩ := hr
      rw [h3] at z
      rcases z with z | rfl
      · exact .inl z
      · rcases h2 with h2 | ⟨j, h2⟩
        · exact .inr h2
        · exfalso
          obtain ⟨l, o, h6⟩ := ownPin h2
          obtain ⟨e7, l', o', h8⟩ := pin j l o h6
          obtain ⟨b, g1, g2, _⟩ := P.sim.own j _ _ _ h8
          obtain ⟨b', k1, k2, _⟩ := S.own j _ _ _ h6
          rw [h2] at k1; cases k1
          rw [e7, k2] at g2; cases g2
          exact P.sim.tmp j a g1 (by rw [h3]; exact .inr rfl), P.step.dom⟩
  refine ⟨⟨?_, fun j d h => (outF_val h).elim, fun j p l o h => ?_, fun j a h => ?_, fun i j a h h' => P.sim.inj i j a (pinM_some h).2 (pinM_some h').2, fun j a h => P.sim.tmp j a (pinM_some h).2, P.sim.tr, P.sim.ntp⟩, stp, fun j l o h => ?_, ?_⟩
  · unfold outF
    rw [List.length_zipWith, List.length_take, List.length_map]
    omega
  · obtain ⟨⟨l0, o0, h0⟩, h1⟩ := outF_own h
    obtain ⟨_, hj, _⟩ := at0 h0
    rw [tk hj] at h1
    obtain ⟨e1, _⟩ := pin j l0 o0 h0
    obtain ⟨a, g1, g2, g3⟩ := P.sim.own j p l o h1
    exact ⟨a, by unfold pinM; rw [h0]; exact g1, by rw [← e1]; exact g2, OwnAt.mv (fun _ _ _ e => e) sub (fun _ e => e) g3⟩
  · obtain ⟨⟨l0, o0, h0⟩, h1⟩ := pinM_some h
    obtain ⟨p, l, o, h2⟩ := P.sim.dom j a h1
    obtain ⟨_, hj, _⟩ := at0 h0
    exact ⟨p, l, o, outF_get h0 (by rw [tk hj]; exact h2)⟩
  · obtain ⟨_, hj, _⟩ := at0 h
    obtain ⟨_, l', o', h1⟩ := pin j l o h
    exact ⟨l', o', by rw [tk hj]; exact h1⟩
  · cases r with
    | v d => exact ⟨hr.1, Rep.mv (fun _ _ _ e => e) sub _ _ hr.2⟩
    | o ob =>
      obtain ⟨c, h1, h2, h3, h4, h5⟩ := hr
      refine ⟨c, h1, ?_, h3, OwnAt.mv (fun _ _ _ e => e) sub (fun _ e => e) h5⟩
      rcases stp.tmp c (by rw [h3]; exact .inr rfl) with z | z
      · exact absurd z h4
      · exact z
end

/-- what is known of a text's defs -/
structure Known (K : PySem.W.Frag) (mg : Str → Option Value) (tb : Tb) (cs : List (String × D)) (bl : List String) : Prop where
  hb : ∀ g, bl.contains g = true → mg (oS g) = none
  hc : ∀ y d, cs.lookup y = some d → ∃ v u, mg (oS y) = some u ∧ RelV v u ∧ ∀ B H, Rep K B H d v
  fn : ∀ g fd, tb g = some fd → ∃ st fa fdat, mg (oS g) = some (.ref fa) ∧ Fun K (oS g) (oS g) st fa fdat ∧ Binds K fdat (fd.ps.map oS) [] ∧ FnScope (fd.N.map oS) (fd.ps.map oS) (defScope st) ∧ mSs ⟨fd.N, defScope st, fun _ => true, cs, bl⟩ fd.body (defBody st) = true
section
variable {P : Program} {w : World} {K : PySem.W.Frag} {mg : Str → Option Value} {base : Heap} {tb : Tb} {cs : List (String × D)} {bl : List String}
theorem fn_one (h : Known K mg tb cs bl) : ∀ (k : Nat) (g : String) (fd : FD), tb g = some fd → ∀ (st : Stmt) (fa : Addr) (fdat : FuncData), Fun K (oS g) (oS g) st fa fdat → FnScope (fd.N.map oS) (fd.ps.map oS) (defScope st) → mSs ⟨fd.N, defScope st, fun _ => true, cs, bl⟩ fd.body (defBody st) = true →
    FnOk P w K mg base CX0 k fa fdat (fd.ps.map oS) (spF K tb k g fd.ps.length)
  | 0, g, fd, ht, st, fa, fdat, h2, h4, h5 => by
    refine ⟨fun vs H Q E q => by rw [List.length_map]; exact q.1, fun A outer s H args us vs Q E hr he hb hv q => ?_⟩
    obtain ⟨_, T, sl, m, r, outs, _, _, e, _⟩ := q
    simp [callK] at e
  | k + 1, g, fd, ht, st, fa, fdat, h2, h4, h5 => by
    refine h2.ok h4 (fun vs H Q E q => by rw [List.length_map]; exact q.1) fun cdv A outer s H vs Q E hr q => ?_
    have stt : Stt (cxOf CX0 P w K mg base (fd.N.map oS) (oS g) (defScope st) fa cdv A outer s H E).nox ⟨fd.N, defScope st, fun _ => true, cs, bl⟩ tb k :=
      { N := rfl, nd := h4.nd, sc := rfl, calm := rfl, fn := fun _ _ => rfl, room := hr, bl := h.hb, cs := h.hc, kd := h4.kind, ps := PassesOwn.never,
        fns := fun g' fd' ht' => by
          obtain ⟨st', fa', fdat', k1, k2, k3, k4, k5⟩ := h.fn g' fd' ht'
          exact ⟨fa', fdat', k1, k2.kp, k3, fn_one h k g' fd' ht' st' fa' fdat' k2 k4 k5⟩ }
    refine ⟨_, pss_all stt fd.body (defBody st) h5, ?_⟩
    obtain ⟨hn, T, sl, m, r, outs, S, ha, e, q⟩ := q
    have lv : sl.length = vs.length := by have := S.len; rw [List.length_map] at this; exact this
    simp only [callK, ht] at e
    split at e
    · rename_i hl
      have e0 : L2.start (fd.N.map oS) vs = vs.map some ++ List.replicate (fd.N.length - sl.length) none := by
        unfold L2.start; rw [List.length_map, lv]
      rw [e0]
      refine ⟨T, _, m, S.ext (fd.N.length - sl.length), ?_⟩
      split at e
      · rename_i f eb
        split at e
        · rename_i hf
          cases e
          show EndS K _ _ _ _ _ _ (exCs ⟨callK tb k⟩ fd.body (sl ++ List.replicate (fd.N.length - sl.length) .no))
          rw [eb]
          exact fun σ' H' m' P => by
            obtain ⟨p1, p2, p3, p4⟩ := body_end (r := .v .non) (v := .non) S ha P ⟨rfl, rfl⟩ hf
            exact q _ H' _ T p1 p2 p3 p4
        · cases e
      · rename_i r' f eb
        split at e
        · rename_i hf
          cases e
          show EndS K _ _ _ _ _ _ (exCs ⟨callK tb k⟩ fd.body (sl ++ List.replicate (fd.N.length - sl.length) .no))
          rw [eb]
          exact fun σ' H' m' T' v P hr => by
            obtain ⟨p1, p2, p3, p4⟩ := body_end S ha P hr hf
            exact q v H' _ T' p1 p2 p3 p4
        · cases e
      · cases e
    · cases e
/-- a law: one parameter, a list of ints -/
def spL (K : PySem.W.Frag) : Sp := fun vs H Q _ => ∃ (a : Addr) (ns : List Int), vs = [.ref a] ∧ SqL K H a (ns.map V.int) ∧ ns.length ≤ 63 ∧ ∀ H', Q (.bl true) H'
theorem ints_rep {B : AP} {H : Hp} : ∀ ns : List Int, Reps K B H (ns.map D.int) (ns.map V.int)
  | [] => rfl
  | n :: ns => ⟨_, _, rfl, rfl, ints_rep ns⟩
theorem law_fn {k : Nat} {g x : String} {fd : FD} {st : Stmt} {fa : Addr} {fdat : FuncData} (h : Known K mg tb cs bl) (ht : tb g = some fd) (hp : fd.ps = [x]) (h2 : Fun K (oS g) (oS g) st fa fdat) (h4' : FnScope (fd.N.map oS) (fd.ps.map oS) (defScope st)) (h5 : mSs ⟨fd.N, defScope st, fun _ => true, cs, bl⟩ fd.body (defBody st) = true)
    (law : ∀ ns : List Int, ns.length ≤ 63 → ∃ outs, callK tb k g [.val (.lst (ns.map .int))] = .ok (.v (.bl true)) outs) : FnOk P w K mg base CX0 k fa fdat [oS x] (spL K) := by
  have h4 := fn_one (P := P) (w := w) (base := base) h k g fd ht st fa fdat h2 h4' h5
  rw [hp] at h4
  refine h4.imp fun vs H Q E q => ?_
  obtain ⟨a, ns, rfl, hS, hl, q⟩ := q
  obtain ⟨outs, e⟩ := law ns hl
  refine ⟨rfl, fun _ => False, [.val (.lst (ns.map .int))], fun _ => none, _, outs, ⟨rfl, fun i d e => ?_, fun i p l o e => ?_, fun i a e => (nomatch e), fun i j a e => (nomatch e), fun i a e => (nomatch e), fun a z => z.elim, fun a xs z => z.elim⟩, fun s hs => ?_, e, fun v H' m' T' S st _ hr => ?_⟩
  · cases i with
    | zero =>
      cases e
      refine ⟨_, rfl, a, ns.map V.int, rfl, ?_, ints_rep ns⟩
      rcases hS with hS | hS
      · exact .inl ⟨fun z => z.elim (fun ⟨j, z⟩ => nomatch z) fun z => z.elim, hS⟩
      · exact .inr hS
    | succ i => simp at e
  · cases i with
    | zero => cases e
    | succ i => simp at e
  · rw [List.mem_singleton.mp hs]; trivial
  · rw [show v = .bl true from hr.2]; exact q H'

theorem bl_of {bl : List String} {mg : Str → Option Value} {g : String} (h : bl.contains g = true) (a : ∀ x ∈ bl, mg (oS x) = none) : mg (oS g) = none := a g (by simpa using h)
theorem blAll_nil {mg : Str → Option Value} : ∀ x ∈ ([] : List String), mg (oS x) = none := fun _ h => nomatch h
theorem blAll_cons {mg : Str → Option Value} {b : String} {r : List String} (h : mg (oS b) = none) (t : ∀ x ∈ r, mg (oS x) = none) : ∀ x ∈ b :: r, mg (oS x) = none := fun x hx => by
  rcases List.mem_cons.mp hx with rfl | hx
  · exact h
  · exact t x hx
def CsK (K : PySem.W.Frag) (mg : Str → Option Value) (y : String) (d : D) : Prop := ∃ v u, mg (oS y) = some u ∧ RelV v u ∧ ∀ B H, Rep K B H d v
theorem lookup_mem {α : Type} : ∀ {l : List (String × α)} {y : String} {d : α}, l.lookup y = some d → (y, d) ∈ l
  | (k, v) :: r, y, d, h => by
    rw [List.lookup_cons] at h
    cases hb : y == k with
    | true =>
      rw [hb] at h
      cases h
      rw [show y = k by simpa using hb]
      exact List.mem_cons_self ..
    | false => rw [hb] at h; exact List.mem_cons_of_mem _ (lookup_mem h)
theorem cs_of {cs : List (String × D)} {y : String} {d : D} (h : cs.lookup y = some d) (a : ∀ p ∈ cs, CsK K mg p.1 p.2) : CsK K mg y d := a _ (lookup_mem h)
theorem csAll_nil : ∀ p ∈ ([] : List (String × D)), CsK K mg p.1 p.2 := fun _ h => nomatch h
theorem csAll_cons {y : String} {d : D} {r : List (String × D)} (h : CsK K mg y d) (t : ∀ p ∈ r, CsK K mg p.1 p.2) : ∀ p ∈ (y, d) :: r, CsK K mg p.1 p.2 := fun x hx => by
  rcases List.mem_cons.mp hx with rfl | hx
  · exact h
  · exact t x hx
def FnK (K : PySem.W.Frag) (mg : Str → Option Value) (cs : List (String × D)) (bl : List String) (g : String) (fd : FD) : Prop := ∃ st fa fdat, mg (oS g) = some (.ref fa) ∧ Fun K (oS g) (oS g) st fa fdat ∧ Binds K fdat (fd.ps.map oS) [] ∧ FnScope (fd.N.map oS) (fd.ps.map oS) (defScope st) ∧ mSs ⟨fd.N, defScope st, fun _ => true, cs, bl⟩ fd.body (defBody st) = true
theorem known_fn {l : List (String × FD)} (a : ∀ p ∈ l, FnK K mg cs bl p.1 p.2) : ∀ g fd, l.lookup g = some fd → FnK K mg cs bl g fd := fun g fd h => a _ (lookup_mem h)
theorem fnAll_nil : ∀ p ∈ ([] : List (String × FD)), FnK K mg cs bl p.1 p.2 := fun _ h => nomatch h
theorem fnAll_cons {y : String} {d : FD} {r : List (String × FD)} (h : FnK K mg cs bl y d) (t : ∀ p ∈ r, FnK K mg cs bl p.1 p.2) : ∀ p ∈ (y, d) :: r, FnK K mg cs bl p.1 p.2 := fun x hx => by
  rcases List.mem_cons.mp hx with rfl | hx
  · exact h
  · exact t x hx
end
end VI

set_option Elab.async false
set_option linter.all false
set_option maxRecDepth 100000
set_option maxHeartbeats 4000000
set_option autoImplicit false
namespace VI
theorem callK_def {tb : Tb} {k : Nat} {g : String} {fd : FD} {sl : List Slot} (h : tb g = some fd) (hl : sl.length = fd.ps.length) : callK tb (k + 1) g sl = match exCs ⟨callK tb k⟩ fd.body (sl ++ List.replicate (fd.N.length - sl.length) .no) with
        | .nxt f => if sl.length ≤ f.length then .ok (.v .non) (f.take sl.length) else .bad
        | .ret r f => if sl.length ≤ f.length then .ok r (f.take sl.length) else .bad
        | _ => .bad := by
  simp only [callK, h, hl, if_true] <;> rfl
section
variable (i j : Int) (x y : List Nat) (a b : Bool)
theorem lt_ii : cmpD .lt (.v (.int i)) (.v (.int j)) = some (decide (i < j)) := rfl
theorem le_ii : cmpD .le (.v (.int i)) (.v (.int j)) = some (decide (i ≤ j)) := rfl
theorem gt_ii : cmpD .gt (.v (.int i)) (.v (.int j)) = some (decide (j < i)) := rfl
theorem ge_ii : cmpD .ge (.v (.int i)) (.v (.int j)) = some (decide (j ≤ i)) := rfl
theorem eq_ii : cmpD .eq (.v (.int i)) (.v (.int j)) = some (decide (i = j)) := by simp [cmpD, eqR, dpt, eqD]
theorem ne_ii : cmpD .ne (.v (.int i)) (.v (.int j)) = some (!decide (i = j)) := by simp [cmpD, eqR, dpt, eqD]
theorem eq_ss : cmpD .eq (.v (.str x)) (.v (.str y)) = some (decide (x = y)) := by simp [cmpD, eqR, dpt, eqD]
theorem eq_bb : cmpD .eq (.v (.bl a)) (.v (.bl b)) = some (a == b) := by simp [cmpD, eqR, dpt, eqD]
theorem ne_bb : cmpD .ne (.v (.bl a)) (.v (.bl b)) = some (!(a == b)) := by simp [cmpD, eqR, dpt, eqD]
theorem eq_nil (ds : List D) : cmpD .eq (.o (.lst ds)) (.o (.lst [])) = some ds.isEmpty := by
  cases ds <;> simp [cmpD, eqR, dpts, eqDs]
theorem add_ii : opD .add (.v (.int i)) (.v (.int j)) = some (.v (.int (i + j))) := rfl
theorem sub_ii : opD .sub (.v (.int i)) (.v (.int j)) = some (.v (.int (i - j))) := rfl
theorem mul_ik (h : mulOk i j = true) : opD .mul (.v (.int i)) (.v (.int j)) = some (.v (.int (i * j))) := by simp [opD, h]
theorem mul_48271 : opD .mul (.v (.int i)) (.v (.int 48271)) = some (.v (.int (i * 48271))) := by
  have : mulOk i 48271 = true := by unfold mulOk; rw [Bool.or_eq_true]; exact .inr rfl
  simp only [opD, this, true_or, if_true]
theorem mul_w (h : wmOk i j = true) : opD .mul (.v (.int i)) (.v (.int j)) = some (.v (.int (i * j))) := by simp only [opD, h, or_true, if_true]
theorem div_w (h : wdOk j = true) : opD .fdiv (.v (.int i)) (.v (.int j)) = some (.v (.int (i.fdiv j))) := by simp only [opD, h, or_true, if_true]
theorem mod_ii (h : j ≠ 0) : opD .mod (.v (.int i)) (.v (.int j)) = some (.v (.int (i.fmod j))) := by simp [opD, h]
theorem div_ii (h : j ≠ 0) (h2 : j.natAbs < 1073741824) : opD .fdiv (.v (.int i)) (.v (.int j)) = some (.v (.int (i.fdiv j))) := by simp [opD, h, h2]
theorem pow_18 : opD .pow (.v (.int 10)) (.v (.int 18)) = some (.v (.int 1000000000000000000)) := by simp [opD]
theorem add_ll (xs ys : List D) (h : xs.length + ys.length ≤ Lm) : opD .add (.o (.lst xs)) (.o (.lst ys)) = some (.o (.lst (xs ++ ys))) := by simp only [opD, h, if_true]
end
theorem atD_at {α : Type} {xs : List α} {i : Nat} {a : α} (h : xs[i]? = some a) : atD xs (i : Int) = some a := by
  have hl := (List.getElem?_eq_some_iff.mp h).1
  have : ixNN xs.length (i : Int) = some i := by unfold ixNN; rw [if_pos (by omega), if_pos (by omega)]; simp
  simp [atD, this, h]
theorem at_0 {α : Type} (a : α) (r : List α) : atD (a :: r) 0 = some a := by
  have : ixNN (a :: r).length 0 = some 0 := by unfold ixNN; rw [if_pos (by omega), if_pos (by rw [List.length_cons]; omega)]; rfl
  simp only [atD, this]; rfl
theorem at_1 {α : Type} (a b : α) (r : List α) : atD (a :: b :: r) 1 = some b := by
  have : ixNN (a :: b :: r).length 1 = some 1 := by unfold ixNN; rw [if_pos (by omega), if_pos (by rw [List.length_cons, List.length_cons]; omega)]; rfl
  simp only [atD, this]; rfl
theorem at_2 {α : Type} (a b c : α) (r : List α) : atD (a :: b :: c :: r) 2 = some c := by
  have : ixNN (a :: b :: c :: r).length 2 = some 2 := by unfold ixNN; rw [if_pos (by omega), if_pos (by rw [List.length_cons, List.length_cons, List.length_cons]; omega)]; rfl
  simp only [atD, this]; rfl
theorem at_3 {α : Type} (a b c d : α) (r : List α) : atD (a :: b :: c :: d :: r) 3 = some d := by
  have : ixNN (a :: b :: c :: d :: r).length 3 = some 3 := by unfold ixNN; rw [if_pos (by omega), if_pos (by rw [List.length_cons, List.length_cons, List.length_cons, List.length_cons]; omega)]; rfl
  simp only [atD, this]; rfl
theorem atD_last {α : Type} {xs : List α} {a : α} (h : xs.getLast? = some a) : atD xs (-1) = some a := by
  have hn : xs ≠ [] := fun z => by rw [z] at h; cases h
  have hl : 0 < xs.length := List.length_pos_iff.mpr hn
  have : ixNN xs.length (-1) = some (xs.length - 1) := by
    unfold ixNN
    rw [if_neg (by omega), if_pos (by omega)]
    congr 1; omega
  simp [atD, this, ← List.getLast?_eq_getElem?, h]
/-- a comprehension whose turns leave the frame -/
theorem lcGo_map {turn : D → Fr → R (Option D)} {g : D → Option D} {f : Fr} : ∀ (ds acc : List D), (∀ d ∈ ds, turn d f = .ok (g d) f) → acc.length + ds.length ≤ Lm → lcGo turn ds acc f = .ok (acc ++ ds.filterMap g) f
  | [], acc, _, _ => by simp [lcGo]
  | d :: ds, acc, h, hl => by
    rw [List.length_cons] at hl
    have h1 := h d (List.mem_cons_self ..)
    have ih := fun acc hl => lcGo_map ds acc (fun e he => h e (List.mem_cons_of_mem _ he)) hl
    simp only [lcGo, h1, R.bind_ok]
    cases hg : g d with
    | none => simp only [hg]; rw [ih acc (by omega), List.filterMap_cons, hg]
    | some y =>
      simp only [hg]
      rw [if_pos (by omega), ih (acc ++ [y]) (by simp; omega), List.filterMap_cons, hg, List.append_assoc]
      rfl
theorem lcGo_all {turn : D → Fr → R (Option D)} {g : D → D} {f : Fr} (ds : List D) (h : ∀ d ∈ ds, turn d f = .ok (some (g d)) f) (hl : ds.length ≤ Lm) : lcGo turn ds [] f = .ok (ds.map g) f := by
  rw [lcGo_map (g := fun d => some (g d)) ds [] h (by simpa using hl), List.filterMap_eq_map', List.nil_append]
/-- a loop with an invariant -/
theorem frGo_inv {t : Tg} {b : Fr → S} (I : Nat → Fr → Prop) : ∀ (ds : List D) (n : Nat) (f : Fr), I n f → (∀ i d f, ds[i]? = some d → I (n + i) f → ∃ f1 f2, setT t d f = some f1 ∧ (b f1 = .nxt f2 ∨ b f1 = .cnt f2) ∧ I (n + i + 1) f2) → ∃ f', frGo t b ds f = .nxt f' ∧ I (n + ds.length) f'
  | [], n, f, h, _ => ⟨f, rfl, h⟩
  | d :: ds, n, f, h, st => by
    obtain ⟨f1, f2, e1, e2, h2⟩ := st 0 d f rfl h
    obtain ⟨f', e3, h3⟩ := frGo_inv I ds (n + 1) f2 h2 fun i d f e hi => by
      have := st (i + 1) d f (by simpa using e) (by rw [show n + (i + 1) = n + 1 + i by omega]; exact hi)
      rw [show n + (i + 1) + 1 = n + 1 + i + 1 by omega] at this
      exact this
    refine ⟨f', ?_, by rw [List.length_cons, show n + (ds.length + 1) = n + 1 + ds.length by omega]; exact h3⟩
    simp only [frGo, e1]
    rcases e2 with e2 | e2 <;> simp only [e2, e3]
theorem rng_nat (n : Nat) : rng 0 (n : Int) = (List.range n).map fun k => D.int (k : Nat) := by
  unfold rng
  rw [show ((n : Int) - 0).toNat = n by omega]
  exact List.map_congr_left fun k _ => by rw [Int.zero_add]

/-! the evaluator's arms -/
section
variable (c : Ctx) (f : Fr)
theorem ev_var (i : Nat) : ev c (.var i) f = evVar i f := rfl
theorem ev_cst (x : String) (d : D) : ev c (.cst x d) f = .ok (.v d) f := rfl
theorem ev_lit (d : D) : ev c (.lit d) f = .ok (.v d) f := rfl
theorem ev_op (o : BO) (a b : Ex) : ev c (.op o a b) f = (opd a (ev c a) f).bind fun x f1 => (opd b (ev c b) f1).bind fun y f2 => ofO f2 ((rd f2 x).bind fun u => (rd f2 y).bind fun v => opD o u v) := rfl
theorem ev_neg (a : Ex) : ev c (.neg a) f = (opd a (ev c a) f).bind fun x f1 => match rd f1 x with
      | some (.v (.int i)) => .ok (.v (.int (-i))) f1
      | _ => .bad := rfl
theorem ev_nt (a : Ex) : ev c (.nt a) f = (opd a (ev c a) f).bind fun x f1 => ofO f1 (((rd f1 x).bind truth).map fun k => .v (.bl (!k))) := rfl
theorem ev_cmp (o : CO) (a b : Ex) : ev c (.cmp o a b) f = (opd a (ev c a) f).bind fun x f1 => (opd b (ev c b) f1).bind fun y f2 => ofO f2 ((rd f2 x).bind fun u => (rd f2 y).bind fun v => (cmpD o u v).map fun k => .v (.bl k)) := rfl
theorem ev_ch2 (o o1 : CO) (a b d : Ex) : ev c (.ch2 o o1 a b d) f = (opd a (ev c a) f).bind fun x f1 => (opd b (ev c b) f1).bind fun y f2 =>
      (ofO f2 ((rd f2 x).bind fun u => (rd f2 y).bind fun v => cmpD o u v)).bind fun k f3 =>
      if k then (opd d (ev c d) f3).bind fun z f4 => ofO f4 ((rd f4 y).bind fun u => (rd f4 z).bind fun v => (cmpD o1 u v).map fun k => .v (.bl k))
      else .ok (.v (.bl false)) f3 := rfl
theorem ev_bool (con : Bool) (es : Exs) : ev c (.bool con es) f = evB c con es f := rfl
theorem ev_ite (t : Tx) (a b : Ex) : ev c (.ite t a b) f = (evT c t f).bind fun k f1 => if k then ev c a f1 else ev c b f1 := rfl
theorem ev_tup (es : Exs) : ev c (.tup es) f = (evs c es f).bind fun ds f1 => if ds.length ≤ 1000 then .ok (.v (.tup ds)) f1 else .bad := rfl
theorem ev_lst (es : Exs) : ev c (.lst es) f = (evs c es f).bind fun ds f1 => if ds.length ≤ 1000 then .ok (.o (.lst ds)) f1 else .bad := rfl
theorem ev_ix (a i : Ex) : ev c (.ix a i) f = (opd a (ev c a) f).bind fun x f1 => (opd i (ev c i) f1).bind fun y f2 => ofO f2 ((rd f2 x).bind fun u => (rd f2 y).bind fun v => ixD u v) := rfl
theorem ev_sl (a : Ex) (lo hi : Exo) : ev c (.sl a lo hi) f = (opd a (ev c a) f).bind fun x f1 => (evP c lo f1).bind fun l f2 => (evP c hi f2).bind fun h f3 => ofO f3 ((rd f3 x).bind fun u => slD u l h) := rfl
theorem ev_call (g : String) (es : Exs) : ev c (.call g es) f = (args c es f).bind fun as f1 => doCall c g as f1 := rfl
theorem ev_b (g : String) (es : Exs) : ev c (.b g es) f = (opds c es f).bind fun xs f1 => ofO f1 ((rds f1 xs).bind fun us => bD g us) := rfl
theorem ev_isi (a : Ex) (ts : List String) : ev c (.isi a ts) f = (opd a (ev c a) f).bind fun x f1 => ofO f1 ((rd f1 x).bind fun u => (isiAny u ts).map fun k => .v (.bl k)) := rfl
theorem ev_m (g : String) (a : Ex) (es : Exs) : ev c (.m g a es) f = (opd a (ev c a) f).bind fun x f1 => if ((rd f1 x).any (recOk g)) = true then (opds c es f1).bind fun xs f2 =>
      ofO f2 ((rd f2 x).bind fun u => (rds f2 xs).bind fun us => mD g u us) else .bad := rfl
theorem ev_lc (own : List Nat) (tg : Tg) (it : It) (co : Txo) (e : Ex) : ev c (.lc own tg it co e) f = (evI c it f).bind fun dl f1 => if noOwn f1 own then
      (lcGo (lcTurn own tg (evC c co) (ev c e)) dl.1 [] (wipeF f1 own)).bind fun acc f5 => .ok (.o (.lst acc)) (unlk (unwipe f1 f5 own) dl.2)
      else .bad := rfl
end

/-! ranges -/
def r1F (j : Int) (f : Fr) : R (List D × List Nat) := if bnd j = true then .ok (rng 0 j, []) f else .bad
def r2F (i j : Int) (f : Fr) : R (List D × List Nat) := if (bnd i && bnd j) = true then .ok (rng i j, []) f else .bad
def r3F (i j k : Int) (f : Fr) : R (List D × List Nat) := if (decide (k = -1) && bnd i && bnd j) = true then .ok (rngD i j, []) f else .bad
theorem bnd_ok {j : Int} (h : -1000000 ≤ j ∧ j ≤ 1000000) : bnd j = true := Nat.ble_eq_true_of_le (by omega)
section
variable (c : Ctx) (f : Fr)
theorem evI_ex (e : Ex) : evI c (.ex e) f = evW e (ev c e) f := rfl
theorem evI_en (a : Ex) : evI c (.en a) f = (evW a (ev c a) f).bind fun x f1 => .ok (enumD 0 x.1, x.2) f1 := rfl
theorem evI_r1 (a : Ex) : evI c (.r1 a) f = (opd a (ev c a) f).bind fun x f1 => match rd f1 x with
      | some (.v (.int j)) => r1F j f1
      | _ => .bad := rfl
theorem evI_r2 (a b : Ex) : evI c (.r2 a b) f = (opd a (ev c a) f).bind fun x f1 => (opd b (ev c b) f1).bind fun y f2 => match rd f2 x, rd f2 y with
      | some (.v (.int i)), some (.v (.int j)) => r2F i j f2
      | _, _ => .bad := rfl
theorem evI_r3 (a b d : Ex) : evI c (.r3 a b d) f = (opd a (ev c a) f).bind fun x f1 => (opd b (ev c b) f1).bind fun y f2 => (opd d (ev c d) f2).bind fun z f3 => match rd f3 x, rd f3 y, rd f3 z with
      | some (.v (.int i)), some (.v (.int j)), some (.v (.int k)) => r3F i j k f3
      | _, _, _ => .bad := rfl
end
theorem lrF_ok' {i j : Int} {f : Fr} (h : -500000 ≤ i ∧ i ≤ 500000) (h' : -500000 ≤ j ∧ j ≤ 500000) : lrF i j f = .ok (.o (.lst (rng i j))) f := if_pos (by
  have : Nat.ble (j - i).toNat 1000000 = true := Nat.ble_eq_true_of_le (by omega)
  rw [bnd_ok (by omega), bnd_ok (by omega), this]; rfl)
theorem r1F_ok {j : Int} {f : Fr} (h : -1000000 ≤ j ∧ j ≤ 1000000) : r1F j f = .ok (rng 0 j, []) f := if_pos (bnd_ok h)
theorem r2F_ok {i j : Int} {f : Fr} (h : -1000000 ≤ i ∧ i ≤ 1000000) (h' : -1000000 ≤ j ∧ j ≤ 1000000) : r2F i j f = .ok (rng i j, []) f := if_pos (by rw [bnd_ok h, bnd_ok h']; rfl)
theorem r3F_ok {i j : Int} {f : Fr} (h : -1000000 ≤ i ∧ i ≤ 1000000) (h' : -1000000 ≤ j ∧ j ≤ 1000000) : r3F i j (-1) f = .ok (rngD i j, []) f := if_pos (by rw [bnd_ok h, bnd_ok h']; rfl)

/-! operands, arguments, moved values by form -/
section
variable (d : Fr → R Rt) (f : Fr)
theorem opd_var (i : Nat) : opd (.var i) d f = match f[i]? with
    | some (.val _) => .ok (.look i) f
    | some (.own _ _ _) => .ok (.look i) f
    | _ => .bad := rfl
theorem arg_var (i : Nat) : arg (.var i) d f = match f[i]? with
    | some (.val d) => .ok (.val d) f
    | some (.own _ false _) => .ok (.bor i) f
    | _ => .bad := rfl
theorem mvR_var (i : Nat) : mvR (.var i) d f = match f[i]? with
    | some (.val d) => .ok (.v d) f
    | some (.own false false o) => .ok (.o o) (f.set i .no)
    | _ => .bad := rfl
theorem opd_cst (x : String) (e : D) : opd (.cst x e) d f = (d f).bind fun r f1 => .ok (.rt r) f1 := rfl
theorem arg_cst (x : String) (e : D) : arg (.cst x e) d f = (d f).bind fun r f1 => match r with | .v d => .ok (.val d) f1 | .o ob => .ok (.tmp ob) f1 := rfl
theorem mvR_cst (x : String) (e : D) : mvR (.cst x e) d f = d f := rfl
theorem opd_lit (e : D) : opd (.lit e) d f = (d f).bind fun r f1 => .ok (.rt r) f1 := rfl
theorem arg_lit (e : D) : arg (.lit e) d f = (d f).bind fun r f1 => match r with | .v d => .ok (.val d) f1 | .o ob => .ok (.tmp ob) f1 := rfl
theorem mvR_lit (e : D) : mvR (.lit e) d f = d f := rfl
theorem opd_op (o : BO) (a b : Ex) : opd (.op o a b) d f = (d f).bind fun r f1 => .ok (.rt r) f1 := rfl
theorem arg_op (o : BO) (a b : Ex) : arg (.op o a b) d f = (d f).bind fun r f1 => match r with | .v d => .ok (.val d) f1 | .o ob => .ok (.tmp ob) f1 := rfl
theorem mvR_op (o : BO) (a b : Ex) : mvR (.op o a b) d f = d f := rfl
theorem opd_neg (a : Ex) : opd (.neg a) d f = (d f).bind fun r f1 => .ok (.rt r) f1 := rfl
theorem arg_neg (a : Ex) : arg (.neg a) d f = (d f).bind fun r f1 => match r with | .v d => .ok (.val d) f1 | .o ob => .ok (.tmp ob) f1 := rfl
theorem mvR_neg (a : Ex) : mvR (.neg a) d f = d f := rfl
theorem opd_nt (a : Ex) : opd (.nt a) d f = (d f).bind fun r f1 => .ok (.rt r) f1 := rfl
theorem arg_nt (a : Ex) : arg (.nt a) d f = (d f).bind fun r f1 => match r with | .v d => .ok (.val d) f1 | .o ob => .ok (.tmp ob) f1 := rfl
theorem mvR_nt (a : Ex) : mvR (.nt a) d f = d f := rfl
theorem opd_cmp (o : CO) (a b : Ex) : opd (.cmp o a b) d f = (d f).bind fun r f1 => .ok (.rt r) f1 := rfl
theorem arg_cmp (o : CO) (a b : Ex) : arg (.cmp o a b) d f = (d f).bind fun r f1 => match r with | .v d => .ok (.val d) f1 | .o ob => .ok (.tmp ob) f1 := rfl
theorem mvR_cmp (o : CO) (a b : Ex) : mvR (.cmp o a b) d f = d f := rfl
theorem opd_ch2 (o o1 : CO) (a b e : Ex) : opd (.ch2 o o1 a b e) d f = (d f).bind fun r f1 => .ok (.rt r) f1 := rfl
theorem arg_ch2 (o o1 : CO) (a b e : Ex) : arg (.ch2 o o1 a b e) d f = (d f).bind fun r f1 => match r with | .v d => .ok (.val d) f1 | .o ob => .ok (.tmp ob) f1 := rfl
theorem mvR_ch2 (o o1 : CO) (a b e : Ex) : mvR (.ch2 o o1 a b e) d f = d f := rfl
theorem opd_ch3 (o o1 o2 : CO) (a b e g : Ex) : opd (.ch3 o o1 o2 a b e g) d f = (d f).bind fun r f1 => .ok (.rt r) f1 := rfl
theorem arg_ch3 (o o1 o2 : CO) (a b e g : Ex) : arg (.ch3 o o1 o2 a b e g) d f = (d f).bind fun r f1 => match r with | .v d => .ok (.val d) f1 | .o ob => .ok (.tmp ob) f1 := rfl
theorem mvR_ch3 (o o1 o2 : CO) (a b e g : Ex) : mvR (.ch3 o o1 o2 a b e g) d f = d f := rfl
theorem opd_bool (k : Bool) (es : Exs) : opd (.bool k es) d f = (d f).bind fun r f1 => .ok (.rt r) f1 := rfl
theorem arg_bool (k : Bool) (es : Exs) : arg (.bool k es) d f = (d f).bind fun r f1 => match r with | .v d => .ok (.val d) f1 | .o ob => .ok (.tmp ob) f1 := rfl
theorem mvR_bool (k : Bool) (es : Exs) : mvR (.bool k es) d f = d f := rfl
theorem opd_ite (t : Tx) (a b : Ex) : opd (.ite t a b) d f = (d f).bind fun r f1 => .ok (.rt r) f1 := rfl
theorem arg_ite (t : Tx) (a b : Ex) : arg (.ite t a b) d f = (d f).bind fun r f1 => match r with | .v d => .ok (.val d) f1 | .o ob => .ok (.tmp ob) f1 := rfl
theorem mvR_ite (t : Tx) (a b : Ex) : mvR (.ite t a b) d f = d f := rfl
theorem opd_tup (es : Exs) : opd (.tup es) d f = (d f).bind fun r f1 => .ok (.rt r) f1 := rfl
theorem arg_tup (es : Exs) : arg (.tup es) d f = (d f).bind fun r f1 => match r with | .v d => .ok (.val d) f1 | .o ob => .ok (.tmp ob) f1 := rfl
theorem mvR_tup (es : Exs) : mvR (.tup es) d f = d f := rfl
theorem opd_lst (es : Exs) : opd (.lst es) d f = (d f).bind fun r f1 => .ok (.rt r) f1 := rfl
theorem arg_lst (es : Exs) : arg (.lst es) d f = (d f).bind fun r f1 => match r with | .v d => .ok (.val d) f1 | .o ob => .ok (.tmp ob) f1 := rfl
theorem mvR_lst (es : Exs) : mvR (.lst es) d f = d f := rfl
theorem opd_ix (a b : Ex) : opd (.ix a b) d f = (d f).bind fun r f1 => .ok (.rt r) f1 := rfl
theorem arg_ix (a b : Ex) : arg (.ix a b) d f = (d f).bind fun r f1 => match r with | .v d => .ok (.val d) f1 | .o ob => .ok (.tmp ob) f1 := rfl
theorem mvR_ix (a b : Ex) : mvR (.ix a b) d f = d f := rfl
theorem opd_sl (a : Ex) (l h : Exo) : opd (.sl a l h) d f = (d f).bind fun r f1 => .ok (.rt r) f1 := rfl
theorem arg_sl (a : Ex) (l h : Exo) : arg (.sl a l h) d f = (d f).bind fun r f1 => match r with | .v d => .ok (.val d) f1 | .o ob => .ok (.tmp ob) f1 := rfl
theorem mvR_sl (a : Ex) (l h : Exo) : mvR (.sl a l h) d f = d f := rfl
theorem opd_call (g : String) (es : Exs) : opd (.call g es) d f = (d f).bind fun r f1 => .ok (.rt r) f1 := rfl
theorem arg_call (g : String) (es : Exs) : arg (.call g es) d f = (d f).bind fun r f1 => match r with | .v d => .ok (.val d) f1 | .o ob => .ok (.tmp ob) f1 := rfl
theorem mvR_call (g : String) (es : Exs) : mvR (.call g es) d f = d f := rfl
theorem opd_b (g : String) (es : Exs) : opd (.b g es) d f = (d f).bind fun r f1 => .ok (.rt r) f1 := rfl
theorem arg_b (g : String) (es : Exs) : arg (.b g es) d f = (d f).bind fun r f1 => match r with | .v d => .ok (.val d) f1 | .o ob => .ok (.tmp ob) f1 := rfl
theorem mvR_b (g : String) (es : Exs) : mvR (.b g es) d f = d f := rfl
theorem opd_isi (a : Ex) (ts : List String) : opd (.isi a ts) d f = (d f).bind fun r f1 => .ok (.rt r) f1 := rfl
theorem arg_isi (a : Ex) (ts : List String) : arg (.isi a ts) d f = (d f).bind fun r f1 => match r with | .v d => .ok (.val d) f1 | .o ob => .ok (.tmp ob) f1 := rfl
theorem mvR_isi (a : Ex) (ts : List String) : mvR (.isi a ts) d f = d f := rfl
theorem opd_m (g : String) (a : Ex) (es : Exs) : opd (.m g a es) d f = (d f).bind fun r f1 => .ok (.rt r) f1 := rfl
theorem arg_m (g : String) (a : Ex) (es : Exs) : arg (.m g a es) d f = (d f).bind fun r f1 => match r with | .v d => .ok (.val d) f1 | .o ob => .ok (.tmp ob) f1 := rfl
theorem mvR_m (g : String) (a : Ex) (es : Exs) : mvR (.m g a es) d f = d f := rfl
theorem opd_pop (i : Nat) : opd (.pop i) d f = (d f).bind fun r f1 => .ok (.rt r) f1 := rfl
theorem arg_pop (i : Nat) : arg (.pop i) d f = (d f).bind fun r f1 => match r with | .v d => .ok (.val d) f1 | .o ob => .ok (.tmp ob) f1 := rfl
theorem mvR_pop (i : Nat) : mvR (.pop i) d f = d f := rfl
end
theorem is_non (x : D) : cmpD .is_ (.v x) (.v .non) = some (isNon x) := rfl
theorem isn_non (x : D) : cmpD .isn (.v x) (.v .non) = some (!isNon x) := rfl
end VI

set_option Elab.async false
set_option linter.all false
set_option maxRecDepth 100000
set_option maxHeartbeats 4000000
set_option autoImplicit false
namespace VI
section
variable (c : Ctx) (f : Fr)
@[simp] theorem S_var (i : Nat) : ev c (.var i) f = evVar i f := rfl
@[simp] theorem S_cst (x : String) (d : D) : ev c (.cst x d) f = .ok (.v d) f := rfl
@[simp] theorem S_lit (d : D) : ev c (.lit d) f = .ok (.v d) f := rfl
@[simp] theorem S_op (o : BO) (a b : Ex) : ev c (.op o a b) f = (opd a (ev c a) f).bind fun x f1 => (opd b (ev c b) f1).bind fun y f2 => ofO f2 ((rd f2 x).bind fun u => (rd f2 y).bind fun v => opD o u v) := rfl
@[simp] theorem S_neg (a : Ex) : ev c (.neg a) f = (opd a (ev c a) f).bind fun x f1 => match rd f1 x with
      | some (.v (.int i)) => .ok (.v (.int (-i))) f1
      | _ => .bad := rfl
@[simp] theorem S_nt (a : Ex) : ev c (.nt a) f = (opd a (ev c a) f).bind fun x f1 => ofO f1 (((rd f1 x).bind truth).map fun k => .v (.bl (!k))) := rfl
@[simp] theorem S_cmp (o : CO) (a b : Ex) : ev c (.cmp o a b) f = (opd a (ev c a) f).bind fun x f1 => (opd b (ev c b) f1).bind fun y f2 => ofO f2 ((rd f2 x).bind fun u => (rd f2 y).bind fun v => (cmpD o u v).map fun k => .v (.bl k)) := rfl
@[simp] theorem S_ch2 (o o1 : CO) (a b d : Ex) : ev c (.ch2 o o1 a b d) f = (opd a (ev c a) f).bind fun x f1 => (opd b (ev c b) f1).bind fun y f2 =>
      (ofO f2 ((rd f2 x).bind fun u => (rd f2 y).bind fun v => cmpD o u v)).bind fun k f3 =>
      if k then (opd d (ev c d) f3).bind fun z f4 => ofO f4 ((rd f4 y).bind fun u => (rd f4 z).bind fun v => (cmpD o1 u v).map fun k => .v (.bl k))
      else .ok (.v (.bl false)) f3 := rfl
@[simp] theorem S_ch3 (o o1 o2 : CO) (a b d e : Ex) : ev c (.ch3 o o1 o2 a b d e) f = (opd a (ev c a) f).bind fun x f1 => (opd b (ev c b) f1).bind fun y f2 =>
      (ofO f2 ((rd f2 x).bind fun u => (rd f2 y).bind fun v => cmpD o u v)).bind fun k f3 =>
      if k then (opd d (ev c d) f3).bind fun z f4 =>
        (ofO f4 ((rd f4 y).bind fun u => (rd f4 z).bind fun v => cmpD o1 u v)).bind fun k1 f5 =>
        if k1 then (opd e (ev c e) f5).bind fun w f6 => ofO f6 ((rd f6 z).bind fun u => (rd f6 w).bind fun v => (cmpD o2 u v).map fun k => .v (.bl k))
        else .ok (.v (.bl false)) f5
      else .ok (.v (.bl false)) f3 := rfl
@[simp] theorem S_bool (con : Bool) (es : Exs) : ev c (.bool con es) f = evB c con es f := rfl
@[simp] theorem S_ite (t : Tx) (a b : Ex) : ev c (.ite t a b) f = (evT c t f).bind fun k f1 => if k then ev c a f1 else ev c b f1 := rfl
@[simp] theorem S_tup (es : Exs) : ev c (.tup es) f = (evs c es f).bind fun ds f1 => if ds.length ≤ 1000 then .ok (.v (.tup ds)) f1 else .bad := rfl
@[simp] theorem S_lst (es : Exs) : ev c (.lst es) f = (evs c es f).bind fun ds f1 => if ds.length ≤ 1000 then .ok (.o (.lst ds)) f1 else .bad := rfl
@[simp] theorem S_dct (t : Bool) : ev c (.dct t .nil .nil) f = .ok (.o (if t then .dT [] else .dK [])) f := rfl
@[simp] theorem S_ix (a i : Ex) : ev c (.ix a i) f = (opd a (ev c a) f).bind fun x f1 => (opd i (ev c i) f1).bind fun y f2 => ofO f2 ((rd f2 x).bind fun u => (rd f2 y).bind fun v => ixD u v) := rfl
@[simp] theorem S_dsp (t : Bool) (ps : Kvs) : ev c (.dsp t ps) f = (evKV c ps f).bind fun ps f1 => if ps.length ≤ 15 then ofO f1 ((dputs (if t then .dT [] else .dK []) ps).map .o) else .bad := rfl
@[simp] theorem S_kv0 : evKV c .nil f = .ok [] f := rfl
@[simp] theorem S_kv1 (k v : Ex) (r : Kvs) : evKV c (.cons k v r) f = (ev c k f).bind fun x f1 => match fz x with
      | none => .bad
      | some d => (ev c v f1).bind fun y f2 => match fz y with
        | none => .bad
        | some e => (evKV c r f2).bind fun ps f3 => .ok ((d, e) :: ps) f3 := rfl
@[simp] theorem S_dp0 (ob : Ob) : dputs ob [] = some ob := rfl
@[simp] theorem S_dp1 (ob : Ob) (p : D × D) (r : List (D × D)) : dputs ob (p :: r) = (dput ob (.v p.1) p.2).bind fun ob1 => dputs ob1 r := rfl
@[simp] theorem S_sit (a : Ex) : ev c (.sit a) f = (opd a (ev c a) f).bind fun x f1 => ofO f1 ((rd f1 x).bind sitD) := rfl
@[simp] theorem S_lr1 (a : Ex) : ev c (.lr1 a) f = (opd a (ev c a) f).bind fun x f1 => match rd f1 x with
      | some (.v (.int j)) => lrF 0 j f1
      | _ => .bad := rfl
@[simp] theorem S_lr2 (a b : Ex) : ev c (.lr2 a b) f = (opd a (ev c a) f).bind fun x f1 => (opd b (ev c b) f1).bind fun y f2 => match rd f2 x, rd f2 y with
      | some (.v (.int i)), some (.v (.int j)) => lrF i j f2
      | _, _ => .bad := rfl
@[simp] theorem S_sl (a : Ex) (lo hi : Exo) : ev c (.sl a lo hi) f = (opd a (ev c a) f).bind fun x f1 => (evP c lo f1).bind fun l f2 => (evP c hi f2).bind fun h f3 => ofO f3 ((rd f3 x).bind fun u => slD u l h) := rfl
@[simp] theorem S_rev (a : Ex) : ev c (.rev a) f = (opd a (ev c a) f).bind fun x f1 => ofO f1 ((rd f1 x).bind revD) := rfl
@[simp] theorem S_call (g : String) (es : Exs) : ev c (.call g es) f = (args c es f).bind fun as f1 => doCall c g as f1 := rfl
@[simp] theorem S_b (g : String) (es : Exs) : ev c (.b g es) f = (opds c es f).bind fun xs f1 => ofO f1 ((rds f1 xs).bind fun us => bD g us) := rfl
@[simp] theorem S_isi (a : Ex) (ts : List String) : ev c (.isi a ts) f = (opd a (ev c a) f).bind fun x f1 => ofO f1 ((rd f1 x).bind fun u => (isiAny u ts).map fun k => .v (.bl k)) := rfl
@[simp] theorem S_m (g : String) (a : Ex) (es : Exs) : ev c (.m g a es) f = (opd a (ev c a) f).bind fun x f1 => if ((rd f1 x).any (recOk g)) = true then (opds c es f1).bind fun xs f2 =>
      ofO f2 ((rd f2 x).bind fun u => (rds f2 xs).bind fun us => mD g u us) else .bad := rfl
@[simp] theorem S_gt (a k d : Ex) : ev c (.gt a k d) f = (opd a (ev c a) f).bind fun x f1 => if ((rd f1 x).any (recOk "get")) = true then (opd k (ev c k) f1).bind fun y f2 => (ev c d f2).bind fun z f3 => match fz z with
      | none => .bad
      | some d => ofO f3 ((rd f3 x).bind fun u => (rd f3 y).bind fun v => getD2 u v d) else .bad := rfl
@[simp] theorem S_pop (i : Nat) : ev c (.pop i) f = match f[i]? with
      | some (.own p false (.lst ds)) => (match ds.getLast? with
        | some d => .ok (.v d) (f.set i (.own p false (.lst ds.dropLast)))
        | none => .bad)
      | _ => .bad := rfl
@[simp] theorem S_Tbool (con : Bool) (es : Txs) : evT c (.bool con es) f = evBT c con es f := rfl
@[simp] theorem S_Tnt (a : Tx) : evT c (.nt a) f = (evT c a f).bind fun b f1 => .ok (!b) f1 := rfl
@[simp] theorem S_Tite (t a b : Tx) : evT c (.ite t a b) f = (evT c t f).bind fun k f1 => if k then evT c a f1 else evT c b f1 := rfl
@[simp] theorem S_Tex (e : Ex) : evT c (.ex e) f = (opd e (ev c e) f).bind fun x f1 => ofO f1 ((rd f1 x).bind truth) := rfl
@[simp] theorem S_B1 (con : Bool) (e : Ex) : evB c con (.cons e .nil) f = ev c e f := rfl
@[simp] theorem S_B2 (con : Bool) (e e2 : Ex) (r : Exs) : evB c con (.cons e (.cons e2 r)) f = (ev c e f).bind fun x f1 => match x with
      | .v d => (match truth (.v d) with
        | some k => if k = con then evB c con (.cons e2 r) f1 else .ok (.v d) f1
        | none => .bad)
      | _ => .bad := rfl
@[simp] theorem S_BT1 (con : Bool) (e : Tx) : evBT c con (.cons e .nil) f = evT c e f := rfl
@[simp] theorem S_BT2 (con : Bool) (e e2 : Tx) (r : Txs) : evBT c con (.cons e (.cons e2 r)) f = (evT c e f).bind fun k f1 => if k = con then evBT c con (.cons e2 r) f1 else .ok k f1 := rfl
@[simp] theorem S_es0 : evs c .nil f = .ok [] f := rfl
@[simp] theorem S_es1 (e : Ex) (r : Exs) : evs c (.cons e r) f = (ev c e f).bind fun x f1 => match fz x with
      | none => .bad
      | some d => (evs c r f1).bind fun ds f2 => .ok (d :: ds) f2 := rfl
@[simp] theorem S_os0 : opds c .nil f = .ok [] f := rfl
@[simp] theorem S_os1 (e : Ex) (r : Exs) : opds c (.cons e r) f = (opd e (ev c e) f).bind fun x f1 => (opds c r f1).bind fun xs f2 => .ok (x :: xs) f2 := rfl
@[simp] theorem S_as0 : args c .nil f = .ok [] f := rfl
@[simp] theorem S_as1 (e : Ex) (r : Exs) : args c (.cons e r) f = (arg e (ev c e) f).bind fun x f1 => (args c r f1).bind fun xs f2 => .ok (x :: xs) f2 := rfl
@[simp] theorem S_P0 : evP c .no f = .ok none f := rfl
@[simp] theorem S_P1 (e : Ex) : evP c (.so e) f = (opd e (ev c e) f).bind fun x f1 => match rd f1 x with
      | some (.v (.int i)) => .ok (some i) f1
      | _ => .bad := rfl
@[simp] theorem S_C0 : evC c .no f = .ok true f := rfl
@[simp] theorem S_C1 (e : Tx) : evC c (.so e) f = evT c e f := rfl
@[simp] theorem S_Iex (e : Ex) : evI c (.ex e) f = evW e (ev c e) f := rfl
@[simp] theorem S_Ien (a : Ex) : evI c (.en a) f = (evW a (ev c a) f).bind fun x f1 => .ok (enumD 0 x.1, x.2) f1 := rfl
@[simp] theorem S_Izp (a b : Ex) : evI c (.zp a b) f = (evW a (ev c a) f).bind fun x f1 => (evW b (ev c b) f1).bind fun y f2 => .ok (zipD x.1 y.1, x.2 ++ y.2) f2 := rfl
@[simp] theorem S_Ir1 (a : Ex) : evI c (.r1 a) f = (opd a (ev c a) f).bind fun x f1 => match rd f1 x with
      | some (.v (.int j)) => r1F j f1
      | _ => .bad := rfl
@[simp] theorem S_Ir2 (a b : Ex) : evI c (.r2 a b) f = (opd a (ev c a) f).bind fun x f1 => (opd b (ev c b) f1).bind fun y f2 => match rd f2 x, rd f2 y with
      | some (.v (.int i)), some (.v (.int j)) => r2F i j f2
      | _, _ => .bad := rfl
@[simp] theorem S_Ir3 (a b d : Ex) : evI c (.r3 a b d) f = (opd a (ev c a) f).bind fun x f1 => (opd b (ev c b) f1).bind fun y f2 => (opd d (ev c d) f2).bind fun z f3 => match rd f3 x, rd f3 y, rd f3 z with
      | some (.v (.int i)), some (.v (.int j)), some (.v (.int k)) => r3F i j k f3
      | _, _, _ => .bad := rfl
@[simp] theorem S_pass : exC c .pass f = .nxt f := rfl
@[simp] theorem S_brk : exC c .brk f = .brk f := rfl
@[simp] theorem S_cnt : exC c .cnt f = .cnt f := rfl
@[simp] theorem S_never : exC c .never f = .bad := rfl
@[simp] theorem S_Sex (e : Ex) : exC c (.ex e) f = match ev c e f with
      | .ok _ f1 => .nxt f1
      | .bad => .bad := rfl
@[simp] theorem S_ret (e : Ex) : exC c (.ret e) f = match mvR e (ev c e) f with
      | .ok r f1 => .ret r f1
      | .bad => .bad := rfl
@[simp] theorem S_retn : exC c .retn f = .ret (.v .non) f := rfl
@[simp] theorem S_asg (i : Nat) (e : Ex) : exC c (.asg i e) f = match mvR e (ev c e) f with
      | .ok r f1 => stoS i r f1
      | .bad => .bad := rfl
@[simp] theorem S_asgt (t : Tg) (e : Ex) : exC c (.asgt t e) f = match (opd e (ev c e) f).bind fun x f1 => ofO f1 (rd f1 x) with
      | .ok (.v d) f1 => (match setT t d f1 with
        | some f2 => .nxt f2
        | none => .bad)
      | _ => .bad := rfl
@[simp] theorem S_par (is : List Nat) (es : Exs) : exC c (.par is es) f = match exR c es f with
      | .ok rs f1 => (match stosS is rs f1 with
        | some f2 => if is.length ≤ 1000 then .nxt f2 else .bad
        | none => .bad)
      | .bad => .bad := rfl
@[simp] theorem S_aug (i : Nat) (o : BO) (e : Ex) : exC c (.aug i o e) f = match f[i]? with
      | some (.val (.int a)) => (match (opd e (ev c e) f).bind fun x f1 => ofO f1 (rd f1 x) with
        | .ok (.v (.int b)) f1 => (match augI o a b with
          | some r => stoS i (.v (.int r)) f1
          | none => .bad)
        | _ => .bad)
      | _ => .bad := rfl
@[simp] theorem S_sset (i : Nat) (k e : Ex) : exC c (.sset i k e) f = match ev c e f with
      | .ok r f1 => (match f1[i]? with
        | some (.own _ _ _) => (match fz r, opd k (ev c k) f1 with
          | some d, .ok x f2 => (match rd f2 x, f2[i]? with
            | some u, some (.own p false ob) => (match ssetO ob u d with
                | some ob2 => .nxt (f2.set i (.own p false ob2))
                | none => .bad)
            | _, _ => .bad)
          | _, _ => .bad)
        | _ => .bad)
      | .bad => .bad := rfl
@[simp] theorem S_saug (i : Nat) (k : Ex) (o : BO) (e : Ex) : exC c (.saug i k o e) f = match f[i]? with
      | some (.own _ _ _) => (match opd k (ev c k) f with
        | .ok x f2 => (match rd f2 x, f2[i]? with
          | some (.v kd), some (.own _ _ ob) => (match ixD (.o ob) (.v kd) with
            | some (.v (.int a)) => (match (opd e (ev c e) f2).bind fun y f3 => ofO f3 (rd f3 y) with
              | .ok (.v (.int b)) f3 => (match augI o a b, f3[i]? with
                | some r, some (.own p false ob3) => (match ssetO ob3 (.v kd) (.int r) with
                  | some ob4 => .nxt (f3.set i (.own p false ob4))
                  | none => .bad)
                | _, _ => .bad)
              | _ => .bad)
            | _ => .bad)
          | _, _ => .bad)
        | .bad => .bad)
      | _ => .bad := rfl
@[simp] theorem S_app (i : Nat) (e : Ex) : exC c (.app i e) f = match f[i]? with
      | some (.own _ _ (.lst _)) => (match ev c e f with
        | .ok r f1 => (match fz r, f1[i]? with
          | some d, some (.own p false (.lst ds)) => if ds.length < Lm then .nxt (f1.set i (.own p false (.lst (ds ++ [d])))) else .bad
          | _, _ => .bad)
        | .bad => .bad)
      | _ => .bad := rfl
@[simp] theorem S_ife (t : Tx) (a b : Cms) : exC c (.ife t a b) f = match evT c t f with
      | .ok k f1 => if k then exCs c a f1 else exCs c b f1
      | .bad => .bad := rfl
@[simp] theorem S_whl (t : Tx) (b : Cms) : exC c (.whl t b) f = whl (evT c t) (exCs c b) f := rfl
@[simp] theorem S_fr (t : Tg) (it : It) (b : Cms) : exC c (.fr t it b) f = match evI c it f with
      | .ok dl f1 => (frGo t (exCs c b) dl.1 f1).unl dl.2
      | .bad => .bad := rfl
@[simp] theorem S_nil : exCs c .nil f = .nxt f := rfl
@[simp] theorem S_cons (s : Cm) (r : Cms) : exCs c (.cons s r) f = match exC c s f with
      | .nxt f1 => exCs c r f1
      | x => x := rfl
@[simp] theorem S_R0 : exR c .nil f = .ok [] f := rfl
@[simp] theorem S_R1 (e : Ex) (r : Exs) : exR c (.cons e r) f = (argV (ev c e) f).bind fun x f1 => (exR c r f1).bind fun xs f2 => .ok (x :: xs) f2 := rfl
@[simp] theorem S_argV (d : Fr → R Rt) : argV d f = (d f).bind fun r f1 => match r with
  | .v d => .ok (.val d) f1
  | .o ob => .ok (.tmp ob) f1 := rfl
@[simp] theorem S_stoS (i : Nat) (r : Rt) : stoS i r f = match sto i r f with
  | some f1 => .nxt f1
  | none => .bad := rfl
@[simp] theorem S_sto (i : Nat) (r : Rt) : sto i r f = match f[i]? with
  | some (.own true _ _) => none
  | some (.own _ true _) => none
  | some _ => some (f.set i (match r with | .v d => .val d | .o ob => .own false false ob))
  | none => none := rfl
@[simp] theorem S_stos0 : stosS [] [] f = some f := rfl
@[simp] theorem S_stosv (i : Nat) (r : List Nat) (d : D) (xs : List Arg) : stosS (i :: r) (.val d :: xs) f = (sto i (.v d) f).bind fun f1 => stosS r xs f1 := rfl
@[simp] theorem S_stost (i : Nat) (r : List Nat) (o : Ob) (xs : List Arg) : stosS (i :: r) (.tmp o :: xs) f = (sto i (.o o) f).bind fun f1 => stosS r xs f1 := rfl
@[simp] theorem S_evVar (i : Nat) : evVar i f = match f[i]? with
  | some (.val d) => .ok (.v d) f
  | some (.own false false (.lst ds)) => .ok (.v (.lst ds)) (f.set i (.val (.lst ds)))
  | _ => .bad := rfl
@[simp] theorem S_rdl (i : Nat) : rd f (.look i) = match f[i]? with
    | some (.val d) => some (.v d)
    | some (.own _ _ o) => some (.o o)
    | _ => none := rfl
@[simp] theorem S_rdr (r : Rt) : rd f (.rt r) = some r := rfl
@[simp] theorem S_rds0 : rds f [] = some [] := rfl
@[simp] theorem S_rds1 (o : Opd) (r : List Opd) : rds f (o :: r) = (rd f o).bind fun x => (rds f r).map (x :: ·) := rfl
@[simp] theorem S_doCall (g : String) (as : List Arg) : doCall c g as f = match slotsOf f as with
  | none => .bad
  | some sl => if (bors as).Nodup then (match c.call g sl with
    | .bad => .bad
    | .ok r outs => match back f as outs with
      | some f' => .ok r f'
      | none => .bad) else .bad := rfl
@[simp] theorem S_sl0 : slotsOf f [] = some [] := rfl
@[simp] theorem S_slv (d : D) (r : List Arg) : slotsOf f (.val d :: r) = (slotsOf f r).map (.val d :: ·) := rfl
@[simp] theorem S_slt (o : Ob) (r : List Arg) : slotsOf f (.tmp o :: r) = (slotsOf f r).map (.own true false o :: ·) := rfl
@[simp] theorem S_slb (i : Nat) (r : List Arg) : slotsOf f (.bor i :: r) = match f[i]? with
    | some (.own _ false o) => (slotsOf f r).map (.own true false o :: ·)
    | _ => none := rfl
@[simp] theorem S_bo0 : bors [] = [] := rfl
@[simp] theorem S_bov (d : D) (r : List Arg) : bors (.val d :: r) = bors r := rfl
@[simp] theorem S_bot (o : Ob) (r : List Arg) : bors (.tmp o :: r) = bors r := rfl
@[simp] theorem S_bob (i : Nat) (r : List Arg) : bors (.bor i :: r) = i :: bors r := rfl
@[simp] theorem S_bk0 : back f [] [] = some f := rfl
@[simp] theorem S_bkv (d : D) (r : List Arg) (s : Slot) (ss : List Slot) : back f (.val d :: r) (s :: ss) = back f r ss := rfl
@[simp] theorem S_bkt (o : Ob) (r : List Arg) (s : Slot) (ss : List Slot) : back f (.tmp o :: r) (s :: ss) = back f r ss := rfl
@[simp] theorem S_bkb (i : Nat) (r : List Arg) (s : Slot) (ss : List Slot) : back f (.bor i :: r) (s :: ss) = match f[i]?, s with
    | some (.own p _ _), .own _ _ o => back (f.set i (.own p false o)) r ss
    | _, _ => none := rfl
@[simp] theorem S_setn (i : Nat) (d : D) : setT (.nm i) d f = sto i (.v d) f := rfl
@[simp] theorem S_sett (ts : Tgs) (ds : List D) : setT (.tp ts) (.tup ds) f = setTs ts ds f := rfl
@[simp] theorem S_sts0 : setTs .nil [] f = some f := rfl
@[simp] theorem S_sts1 (t : Tg) (r : Tgs) (d : D) (ds : List D) : setTs (.cons t r) (d :: ds) f = (setT t d f).bind fun f1 => setTs r ds f1 := rfl
@[simp] theorem S_unl (ls : List Nat) : S.unl ls (.nxt f) = .nxt (unlk f ls) := rfl
@[simp] theorem S_unlr (ls : List Nat) (r : Rt) : S.unl ls (.ret r f) = .ret r f := rfl
@[simp] theorem S_unl0 : unlk f [] = f := rfl
@[simp] theorem S_wipe0 : wipeF f [] = f := rfl
@[simp] theorem S_wipe1 (v : Nat) (vs : List Nat) : wipeF f (v :: vs) = (wipeF f vs).set v .no := rfl
end

section
variable (d : Fr → R Rt) (f : Fr)
@[simp] theorem So_var (i : Nat) : opd (.var i) d f = match f[i]? with
    | some (.val _) => .ok (.look i) f
    | some (.own _ _ _) => .ok (.look i) f
    | _ => .bad := rfl
@[simp] theorem Sa_var (i : Nat) : arg (.var i) d f = match f[i]? with
    | some (.val d) => .ok (.val d) f
    | some (.own _ false _) => .ok (.bor i) f
    | _ => .bad := rfl
@[simp] theorem Sm_var (i : Nat) : mvR (.var i) d f = match f[i]? with
    | some (.val d) => .ok (.v d) f
    | some (.own false false o) => .ok (.o o) (f.set i .no)
    | _ => .bad := rfl
@[simp] theorem Sw_var (i : Nat) : evW (.var i) d f = match f[i]? with
    | some (.val d) => ofO f ((walkR (.v d)).map fun ds => (ds, []))
    | some (.own p false (.lst ds)) => .ok (ds, [i]) (f.set i (.own p true (.lst ds)))
    | some (.own _ true (.lst ds)) => .ok (ds, []) f
    | _ => .bad := rfl
@[simp] theorem So_cst (x : String) (e : D) : opd (.cst x e) d f = (d f).bind fun r f1 => .ok (.rt r) f1 := rfl
@[simp] theorem Sa_cst (x : String) (e : D) : arg (.cst x e) d f = (d f).bind fun r f1 => match r with | .v d => .ok (.val d) f1 | .o ob => .ok (.tmp ob) f1 := rfl
@[simp] theorem Sm_cst (x : String) (e : D) : mvR (.cst x e) d f = d f := rfl
@[simp] theorem Sw_cst (x : String) (e : D) : evW (.cst x e) d f = (d f).bind fun x f1 => ofO f1 ((walkR x).map fun ds => (ds, [])) := rfl
@[simp] theorem So_lit (e : D) : opd (.lit e) d f = (d f).bind fun r f1 => .ok (.rt r) f1 := rfl
@[simp] theorem Sa_lit (e : D) : arg (.lit e) d f = (d f).bind fun r f1 => match r with | .v d => .ok (.val d) f1 | .o ob => .ok (.tmp ob) f1 := rfl
@[simp] theorem Sm_lit (e : D) : mvR (.lit e) d f = d f := rfl
@[simp] theorem Sw_lit (e : D) : evW (.lit e) d f = (d f).bind fun x f1 => ofO f1 ((walkR x).map fun ds => (ds, [])) := rfl
@[simp] theorem So_op (o : BO) (a b : Ex) : opd (.op o a b) d f = (d f).bind fun r f1 => .ok (.rt r) f1 := rfl
@[simp] theorem Sa_op (o : BO) (a b : Ex) : arg (.op o a b) d f = (d f).bind fun r f1 => match r with | .v d => .ok (.val d) f1 | .o ob => .ok (.tmp ob) f1 := rfl
@[simp] theorem Sm_op (o : BO) (a b : Ex) : mvR (.op o a b) d f = d f := rfl
@[simp] theorem Sw_op (o : BO) (a b : Ex) : evW (.op o a b) d f = (d f).bind fun x f1 => ofO f1 ((walkR x).map fun ds => (ds, [])) := rfl
@[simp] theorem So_neg (a : Ex) : opd (.neg a) d f = (d f).bind fun r f1 => .ok (.rt r) f1 := rfl
@[simp] theorem Sa_neg (a : Ex) : arg (.neg a) d f = (d f).bind fun r f1 => match r with | .v d => .ok (.val d) f1 | .o ob => .ok (.tmp ob) f1 := rfl
@[simp] theorem Sm_neg (a : Ex) : mvR (.neg a) d f = d f := rfl
@[simp] theorem Sw_neg (a : Ex) : evW (.neg a) d f = (d f).bind fun x f1 => ofO f1 ((walkR x).map fun ds => (ds, [])) := rfl
@[simp] theorem So_nt (a : Ex) : opd (.nt a) d f = (d f).bind fun r f1 => .ok (.rt r) f1 := rfl
@[simp] theorem Sa_nt (a : Ex) : arg (.nt a) d f = (d f).bind fun r f1 => match r with | .v d => .ok (.val d) f1 | .o ob => .ok (.tmp ob) f1 := rfl
@[simp] theorem Sm_nt (a : Ex) : mvR (.nt a) d f = d f := rfl
@[simp] theorem Sw_nt (a : Ex) : evW (.nt a) d f = (d f).bind fun x f1 => ofO f1 ((walkR x).map fun ds => (ds, [])) := rfl
@[simp] theorem So_cmp (o : CO) (a b : Ex) : opd (.cmp o a b) d f = (d f).bind fun r f1 => .ok (.rt r) f1 := rfl
@[simp] theorem Sa_cmp (o : CO) (a b : Ex) : arg (.cmp o a b) d f = (d f).bind fun r f1 => match r with | .v d => .ok (.val d) f1 | .o ob => .ok (.tmp ob) f1 := rfl
@[simp] theorem Sm_cmp (o : CO) (a b : Ex) : mvR (.cmp o a b) d f = d f := rfl
@[simp] theorem Sw_cmp (o : CO) (a b : Ex) : evW (.cmp o a b) d f = (d f).bind fun x f1 => ofO f1 ((walkR x).map fun ds => (ds, [])) := rfl
@[simp] theorem So_ch2 (o o1 : CO) (a b e : Ex) : opd (.ch2 o o1 a b e) d f = (d f).bind fun r f1 => .ok (.rt r) f1 := rfl
@[simp] theorem Sa_ch2 (o o1 : CO) (a b e : Ex) : arg (.ch2 o o1 a b e) d f = (d f).bind fun r f1 => match r with | .v d => .ok (.val d) f1 | .o ob => .ok (.tmp ob) f1 := rfl
@[simp] theorem Sm_ch2 (o o1 : CO) (a b e : Ex) : mvR (.ch2 o o1 a b e) d f = d f := rfl
@[simp] theorem Sw_ch2 (o o1 : CO) (a b e : Ex) : evW (.ch2 o o1 a b e) d f = (d f).bind fun x f1 => ofO f1 ((walkR x).map fun ds => (ds, [])) := rfl
@[simp] theorem So_ch3 (o o1 o2 : CO) (a b e g : Ex) : opd (.ch3 o o1 o2 a b e g) d f = (d f).bind fun r f1 => .ok (.rt r) f1 := rfl
@[simp] theorem Sa_ch3 (o o1 o2 : CO) (a b e g : Ex) : arg (.ch3 o o1 o2 a b e g) d f = (d f).bind fun r f1 => match r with | .v d => .ok (.val d) f1 | .o ob => .ok (.tmp ob) f1 := rfl
@[simp] theorem Sm_ch3 (o o1 o2 : CO) (a b e g : Ex) : mvR (.ch3 o o1 o2 a b e g) d f = d f := rfl
@[simp] theorem Sw_ch3 (o o1 o2 : CO) (a b e g : Ex) : evW (.ch3 o o1 o2 a b e g) d f = (d f).bind fun x f1 => ofO f1 ((walkR x).map fun ds => (ds, [])) := rfl
@[simp] theorem So_bool (k : Bool) (es : Exs) : opd (.bool k es) d f = (d f).bind fun r f1 => .ok (.rt r) f1 := rfl
@[simp] theorem Sa_bool (k : Bool) (es : Exs) : arg (.bool k es) d f = (d f).bind fun r f1 => match r with | .v d => .ok (.val d) f1 | .o ob => .ok (.tmp ob) f1 := rfl
@[simp] theorem Sm_bool (k : Bool) (es : Exs) : mvR (.bool k es) d f = d f := rfl
@[simp] theorem Sw_bool (k : Bool) (es : Exs) : evW (.bool k es) d f = (d f).bind fun x f1 => ofO f1 ((walkR x).map fun ds => (ds, [])) := rfl
@[simp] theorem So_ite (t : Tx) (a b : Ex) : opd (.ite t a b) d f = (d f).bind fun r f1 => .ok (.rt r) f1 := rfl
@[simp] theorem Sa_ite (t : Tx) (a b : Ex) : arg (.ite t a b) d f = (d f).bind fun r f1 => match r with | .v d => .ok (.val d) f1 | .o ob => .ok (.tmp ob) f1 := rfl
@[simp] theorem Sm_ite (t : Tx) (a b : Ex) : mvR (.ite t a b) d f = d f := rfl
@[simp] theorem Sw_ite (t : Tx) (a b : Ex) : evW (.ite t a b) d f = (d f).bind fun x f1 => ofO f1 ((walkR x).map fun ds => (ds, [])) := rfl
@[simp] theorem So_tup (es : Exs) : opd (.tup es) d f = (d f).bind fun r f1 => .ok (.rt r) f1 := rfl
@[simp] theorem Sa_tup (es : Exs) : arg (.tup es) d f = (d f).bind fun r f1 => match r with | .v d => .ok (.val d) f1 | .o ob => .ok (.tmp ob) f1 := rfl
@[simp] theorem Sm_tup (es : Exs) : mvR (.tup es) d f = d f := rfl
@[simp] theorem Sw_tup (es : Exs) : evW (.tup es) d f = (d f).bind fun x f1 => ofO f1 ((walkR x).map fun ds => (ds, [])) := rfl
@[simp] theorem So_lst (es : Exs) : opd (.lst es) d f = (d f).bind fun r f1 => .ok (.rt r) f1 := rfl
@[simp] theorem Sa_lst (es : Exs) : arg (.lst es) d f = (d f).bind fun r f1 => match r with | .v d => .ok (.val d) f1 | .o ob => .ok (.tmp ob) f1 := rfl
@[simp] theorem Sm_lst (es : Exs) : mvR (.lst es) d f = d f := rfl
@[simp] theorem Sw_lst (es : Exs) : evW (.lst es) d f = (d f).bind fun x f1 => ofO f1 ((walkR x).map fun ds => (ds, [])) := rfl
@[simp] theorem So_dct (t : Bool) (ks vs : Exs) : opd (.dct t ks vs) d f = (d f).bind fun r f1 => .ok (.rt r) f1 := rfl
@[simp] theorem Sa_dct (t : Bool) (ks vs : Exs) : arg (.dct t ks vs) d f = (d f).bind fun r f1 => match r with | .v d => .ok (.val d) f1 | .o ob => .ok (.tmp ob) f1 := rfl
@[simp] theorem Sm_dct (t : Bool) (ks vs : Exs) : mvR (.dct t ks vs) d f = d f := rfl
@[simp] theorem Sw_dct (t : Bool) (ks vs : Exs) : evW (.dct t ks vs) d f = (d f).bind fun x f1 => ofO f1 ((walkR x).map fun ds => (ds, [])) := rfl
@[simp] theorem So_ix (a b : Ex) : opd (.ix a b) d f = (d f).bind fun r f1 => .ok (.rt r) f1 := rfl
@[simp] theorem Sa_ix (a b : Ex) : arg (.ix a b) d f = (d f).bind fun r f1 => match r with | .v d => .ok (.val d) f1 | .o ob => .ok (.tmp ob) f1 := rfl
@[simp] theorem Sm_ix (a b : Ex) : mvR (.ix a b) d f = d f := rfl
@[simp] theorem Sw_ix (a b : Ex) : evW (.ix a b) d f = (d f).bind fun x f1 => ofO f1 ((walkR x).map fun ds => (ds, [])) := rfl
@[simp] theorem So_sl (a : Ex) (l h : Exo) : opd (.sl a l h) d f = (d f).bind fun r f1 => .ok (.rt r) f1 := rfl
@[simp] theorem Sa_sl (a : Ex) (l h : Exo) : arg (.sl a l h) d f = (d f).bind fun r f1 => match r with | .v d => .ok (.val d) f1 | .o ob => .ok (.tmp ob) f1 := rfl
@[simp] theorem Sm_sl (a : Ex) (l h : Exo) : mvR (.sl a l h) d f = d f := rfl
@[simp] theorem Sw_sl (a : Ex) (l h : Exo) : evW (.sl a l h) d f = (d f).bind fun x f1 => ofO f1 ((walkR x).map fun ds => (ds, [])) := rfl
@[simp] theorem So_rev (a : Ex) : opd (.rev a) d f = (d f).bind fun r f1 => .ok (.rt r) f1 := rfl
@[simp] theorem Sa_rev (a : Ex) : arg (.rev a) d f = (d f).bind fun r f1 => match r with | .v d => .ok (.val d) f1 | .o ob => .ok (.tmp ob) f1 := rfl
@[simp] theorem Sm_rev (a : Ex) : mvR (.rev a) d f = d f := rfl
@[simp] theorem Sw_rev (a : Ex) : evW (.rev a) d f = (d f).bind fun x f1 => ofO f1 ((walkR x).map fun ds => (ds, [])) := rfl
@[simp] theorem So_call (g : String) (es : Exs) : opd (.call g es) d f = (d f).bind fun r f1 => .ok (.rt r) f1 := rfl
@[simp] theorem Sa_call (g : String) (es : Exs) : arg (.call g es) d f = (d f).bind fun r f1 => match r with | .v d => .ok (.val d) f1 | .o ob => .ok (.tmp ob) f1 := rfl
@[simp] theorem Sm_call (g : String) (es : Exs) : mvR (.call g es) d f = d f := rfl
@[simp] theorem Sw_call (g : String) (es : Exs) : evW (.call g es) d f = (d f).bind fun x f1 => ofO f1 ((walkR x).map fun ds => (ds, [])) := rfl
@[simp] theorem So_b (g : String) (es : Exs) : opd (.b g es) d f = (d f).bind fun r f1 => .ok (.rt r) f1 := rfl
@[simp] theorem Sa_b (g : String) (es : Exs) : arg (.b g es) d f = (d f).bind fun r f1 => match r with | .v d => .ok (.val d) f1 | .o ob => .ok (.tmp ob) f1 := rfl
@[simp] theorem Sm_b (g : String) (es : Exs) : mvR (.b g es) d f = d f := rfl
@[simp] theorem Sw_b (g : String) (es : Exs) : evW (.b g es) d f = (d f).bind fun x f1 => ofO f1 ((walkR x).map fun ds => (ds, [])) := rfl
@[simp] theorem So_isi (a : Ex) (ts : List String) : opd (.isi a ts) d f = (d f).bind fun r f1 => .ok (.rt r) f1 := rfl
@[simp] theorem Sa_isi (a : Ex) (ts : List String) : arg (.isi a ts) d f = (d f).bind fun r f1 => match r with | .v d => .ok (.val d) f1 | .o ob => .ok (.tmp ob) f1 := rfl
@[simp] theorem Sm_isi (a : Ex) (ts : List String) : mvR (.isi a ts) d f = d f := rfl
@[simp] theorem Sw_isi (a : Ex) (ts : List String) : evW (.isi a ts) d f = (d f).bind fun x f1 => ofO f1 ((walkR x).map fun ds => (ds, [])) := rfl
@[simp] theorem So_m (g : String) (a : Ex) (es : Exs) : opd (.m g a es) d f = (d f).bind fun r f1 => .ok (.rt r) f1 := rfl
@[simp] theorem Sa_m (g : String) (a : Ex) (es : Exs) : arg (.m g a es) d f = (d f).bind fun r f1 => match r with | .v d => .ok (.val d) f1 | .o ob => .ok (.tmp ob) f1 := rfl
@[simp] theorem Sm_m (g : String) (a : Ex) (es : Exs) : mvR (.m g a es) d f = d f := rfl
@[simp] theorem Sw_m (g : String) (a : Ex) (es : Exs) : evW (.m g a es) d f = (d f).bind fun x f1 => ofO f1 ((walkR x).map fun ds => (ds, [])) := rfl
@[simp] theorem So_gt (a k e : Ex) : opd (.gt a k e) d f = (d f).bind fun r f1 => .ok (.rt r) f1 := rfl
@[simp] theorem Sa_gt (a k e : Ex) : arg (.gt a k e) d f = (d f).bind fun r f1 => match r with | .v d => .ok (.val d) f1 | .o ob => .ok (.tmp ob) f1 := rfl
@[simp] theorem Sm_gt (a k e : Ex) : mvR (.gt a k e) d f = d f := rfl
@[simp] theorem Sw_gt (a k e : Ex) : evW (.gt a k e) d f = (d f).bind fun x f1 => ofO f1 ((walkR x).map fun ds => (ds, [])) := rfl
@[simp] theorem So_pop (i : Nat) : opd (.pop i) d f = (d f).bind fun r f1 => .ok (.rt r) f1 := rfl
@[simp] theorem Sa_pop (i : Nat) : arg (.pop i) d f = (d f).bind fun r f1 => match r with | .v d => .ok (.val d) f1 | .o ob => .ok (.tmp ob) f1 := rfl
@[simp] theorem Sm_pop (i : Nat) : mvR (.pop i) d f = d f := rfl
@[simp] theorem Sw_pop (i : Nat) : evW (.pop i) d f = (d f).bind fun x f1 => ofO f1 ((walkR x).map fun ds => (ds, [])) := rfl
@[simp] theorem So_dsp (t : Bool) (ps : Kvs) : opd (.dsp t ps) d f = (d f).bind fun r f1 => .ok (.rt r) f1 := rfl
@[simp] theorem Sa_dsp (t : Bool) (ps : Kvs) : arg (.dsp t ps) d f = (d f).bind fun r f1 => match r with | .v d => .ok (.val d) f1 | .o ob => .ok (.tmp ob) f1 := rfl
@[simp] theorem Sm_dsp (t : Bool) (ps : Kvs) : mvR (.dsp t ps) d f = d f := rfl
@[simp] theorem Sw_dsp (t : Bool) (ps : Kvs) : evW (.dsp t ps) d f = (d f).bind fun x f1 => ofO f1 ((walkR x).map fun ds => (ds, [])) := rfl
@[simp] theorem So_sit (a : Ex) : opd (.sit a) d f = (d f).bind fun r f1 => .ok (.rt r) f1 := rfl
@[simp] theorem Sa_sit (a : Ex) : arg (.sit a) d f = (d f).bind fun r f1 => match r with | .v d => .ok (.val d) f1 | .o ob => .ok (.tmp ob) f1 := rfl
@[simp] theorem Sm_sit (a : Ex) : mvR (.sit a) d f = d f := rfl
@[simp] theorem Sw_sit (a : Ex) : evW (.sit a) d f = (d f).bind fun x f1 => ofO f1 ((walkR x).map fun ds => (ds, [])) := rfl
@[simp] theorem So_lr1 (a : Ex) : opd (.lr1 a) d f = (d f).bind fun r f1 => .ok (.rt r) f1 := rfl
@[simp] theorem Sa_lr1 (a : Ex) : arg (.lr1 a) d f = (d f).bind fun r f1 => match r with | .v d => .ok (.val d) f1 | .o ob => .ok (.tmp ob) f1 := rfl
@[simp] theorem Sm_lr1 (a : Ex) : mvR (.lr1 a) d f = d f := rfl
@[simp] theorem Sw_lr1 (a : Ex) : evW (.lr1 a) d f = (d f).bind fun x f1 => ofO f1 ((walkR x).map fun ds => (ds, [])) := rfl
@[simp] theorem So_lr2 (a b : Ex) : opd (.lr2 a b) d f = (d f).bind fun r f1 => .ok (.rt r) f1 := rfl
@[simp] theorem Sa_lr2 (a b : Ex) : arg (.lr2 a b) d f = (d f).bind fun r f1 => match r with | .v d => .ok (.val d) f1 | .o ob => .ok (.tmp ob) f1 := rfl
@[simp] theorem Sm_lr2 (a b : Ex) : mvR (.lr2 a b) d f = d f := rfl
@[simp] theorem Sw_lr2 (a b : Ex) : evW (.lr2 a b) d f = (d f).bind fun x f1 => ofO f1 ((walkR x).map fun ds => (ds, [])) := rfl
@[simp] theorem So_lc (own : List Nat) (tg : Tg) (it : It) (co : Txo) (e : Ex) : opd (.lc own tg it co e) d f = (d f).bind fun r f1 => .ok (.rt r) f1 := rfl
@[simp] theorem Sa_lc (own : List Nat) (tg : Tg) (it : It) (co : Txo) (e : Ex) : arg (.lc own tg it co e) d f = (d f).bind fun r f1 => match r with | .v d => .ok (.val d) f1 | .o ob => .ok (.tmp ob) f1 := rfl
@[simp] theorem Sm_lc (own : List Nat) (tg : Tg) (it : It) (co : Txo) (e : Ex) : mvR (.lc own tg it co e) d f = d f := rfl
@[simp] theorem Sw_lc (own : List Nat) (tg : Tg) (it : It) (co : Txo) (e : Ex) : evW (.lc own tg it co e) d f = (d f).bind fun x f1 => ofO f1 ((walkR x).map fun ds => (ds, [])) := rfl
@[simp] theorem So_lc2 (own own1 : List Nat) (tg : Tg) (it : It) (co : Txo) (tg1 : Tg) (it1 : It) (co1 : Txo) (e : Ex) : opd (.lc2 own own1 tg it co tg1 it1 co1 e) d f = (d f).bind fun r f1 => .ok (.rt r) f1 := rfl
@[simp] theorem Sa_lc2 (own own1 : List Nat) (tg : Tg) (it : It) (co : Txo) (tg1 : Tg) (it1 : It) (co1 : Txo) (e : Ex) : arg (.lc2 own own1 tg it co tg1 it1 co1 e) d f = (d f).bind fun r f1 => match r with | .v d => .ok (.val d) f1 | .o ob => .ok (.tmp ob) f1 := rfl
@[simp] theorem Sm_lc2 (own own1 : List Nat) (tg : Tg) (it : It) (co : Txo) (tg1 : Tg) (it1 : It) (co1 : Txo) (e : Ex) : mvR (.lc2 own own1 tg it co tg1 it1 co1 e) d f = d f := rfl
@[simp] theorem Sw_lc2 (own own1 : List Nat) (tg : Tg) (it : It) (co : Txo) (tg1 : Tg) (it1 : It) (co1 : Txo) (e : Ex) : evW (.lc2 own own1 tg it co tg1 it1 co1 e) d f = (d f).bind fun x f1 => ofO f1 ((walkR x).map fun ds => (ds, [])) := rfl
end
/-! values -/
section
variable (i j : Int) (x y : List Nat) (a b : Bool)
@[simp] theorem V_lt : cmpD .lt (.v (.int i)) (.v (.int j)) = some (decide (i < j)) := rfl
@[simp] theorem V_le : cmpD .le (.v (.int i)) (.v (.int j)) = some (decide (i ≤ j)) := rfl
@[simp] theorem V_gt : cmpD .gt (.v (.int i)) (.v (.int j)) = some (decide (j < i)) := rfl
@[simp] theorem V_ge : cmpD .ge (.v (.int i)) (.v (.int j)) = some (decide (j ≤ i)) := rfl
@[simp] theorem V_eq : cmpD .eq (.v (.int i)) (.v (.int j)) = some (decide (i = j)) := eq_ii i j
@[simp] theorem V_ne : cmpD .ne (.v (.int i)) (.v (.int j)) = some (!decide (i = j)) := ne_ii i j
@[simp] theorem V_eqs : cmpD .eq (.v (.str x)) (.v (.str y)) = some (decide (x = y)) := eq_ss x y
@[simp] theorem V_nes : cmpD .ne (.v (.str x)) (.v (.str y)) = some (!decide (x = y)) := by simp [cmpD, eqR, dpt, eqD]
@[simp] theorem V_eqb : cmpD .eq (.v (.bl a)) (.v (.bl b)) = some (a == b) := eq_bb a b
@[simp] theorem V_neb : cmpD .ne (.v (.bl a)) (.v (.bl b)) = some (!(a == b)) := ne_bb a b
@[simp] theorem V_eqnil (u : List D) : cmpD .eq (.o (.lst u)) (.o (.lst [])) = some u.isEmpty := eq_nil u
@[simp] theorem V_nenil (u : List D) : cmpD .ne (.o (.lst u)) (.o (.lst [])) = some (!u.isEmpty) := by
  cases u <;> simp [cmpD, eqR, dpts, eqDs]
@[simp] theorem V_eqnn : cmpD .eq (.v .non) (.v .non) = some true := by simp [cmpD, eqR, dpt, eqD]
@[simp] theorem V_isn (d : D) : cmpD .is_ (.v d) (.v .non) = some (isNon d) := rfl
@[simp] theorem V_isnn (d : D) : cmpD .isn (.v d) (.v .non) = some (!isNon d) := rfl
@[simp] theorem V_isb : cmpD .is_ (.v (.bl a)) (.v (.bl b)) = some (decide (a = b)) := rfl
@[simp] theorem V_isnb : cmpD .isn (.v (.bl a)) (.v (.bl b)) = some (!decide (a = b)) := rfl
@[simp] theorem V_add : opD .add (.v (.int i)) (.v (.int j)) = some (.v (.int (i + j))) := rfl
@[simp] theorem V_sub : opD .sub (.v (.int i)) (.v (.int j)) = some (.v (.int (i - j))) := rfl
@[simp] theorem V_adds : opD .add (.v (.str x)) (.v (.str y)) = if x.length + y.length ≤ Lm then some (.v (.str (x ++ y))) else none := rfl
@[simp] theorem V_addt (u v : List D) : opD .add (.v (.tup u)) (.v (.tup v)) = if u.length + v.length ≤ Lm then some (.v (.tup (u ++ v))) else none := rfl
@[simp] theorem V_addvv (u v : List D) : opD .add (.v (.lst u)) (.v (.lst v)) = if u.length + v.length ≤ Lm then some (.o (.lst (u ++ v))) else none := rfl
@[simp] theorem V_addvl (u v : List D) : opD .add (.v (.lst u)) (.o (.lst v)) = if u.length + v.length ≤ Lm then some (.o (.lst (u ++ v))) else none := rfl
@[simp] theorem V_addlv (u v : List D) : opD .add (.o (.lst u)) (.v (.lst v)) = if u.length + v.length ≤ Lm then some (.o (.lst (u ++ v))) else none := rfl
@[simp] theorem V_addl (u v : List D) : opD .add (.o (.lst u)) (.o (.lst v)) = if u.length + v.length ≤ Lm then some (.o (.lst (u ++ v))) else none := rfl
@[simp] theorem V_tn : truth (.v .non) = some false := rfl
@[simp] theorem V_tb : truth (.v (.bl a)) = some a := rfl
@[simp] theorem V_ti : truth (.v (.int i)) = some (i != 0) := rfl
@[simp] theorem V_ts : truth (.v (.str x)) = some ((x.length : Int) != 0) := rfl
@[simp] theorem V_tt (u : List D) : truth (.v (.tup u)) = some (!u.isEmpty) := rfl
@[simp] theorem V_tl (u : List D) : truth (.v (.lst u)) = some (!u.isEmpty) := rfl
@[simp] theorem V_tol (u : List D) : truth (.o (.lst u)) = some (!u.isEmpty) := rfl
@[simp] theorem V_fzv (d : D) : fz (.v d) = some d := rfl
@[simp] theorem V_fzl (u : List D) : fz (.o (.lst u)) = some (.lst u) := rfl
@[simp] theorem V_wt (u : List D) : walkR (.v (.tup u)) = some u := rfl
@[simp] theorem V_wl (u : List D) : walkR (.v (.lst u)) = some u := rfl
@[simp] theorem V_wo (u : List D) : walkR (.o (.lst u)) = some u := rfl
@[simp] theorem V_ws : walkR (.v (.str x)) = some (x.map fun c => .str [c]) := rfl
@[simp] theorem V_st (u : List D) : seqR (.v (.tup u)) = some u := rfl
@[simp] theorem V_sl (u : List D) : seqR (.v (.lst u)) = some u := rfl
@[simp] theorem V_so (u : List D) : seqR (.o (.lst u)) = some u := rfl
@[simp] theorem V_ll (u : List D) : lstR (.v (.lst u)) = some u := rfl
@[simp] theorem V_lo (u : List D) : lstR (.o (.lst u)) = some u := rfl
@[simp] theorem V_lent (u : List D) : bD "len" [.v (.tup u)] = some (.v (.int u.length)) := rfl
@[simp] theorem V_lenl (u : List D) : bD "len" [.v (.lst u)] = some (.v (.int u.length)) := rfl
@[simp] theorem V_leno (u : List D) : bD "len" [.o (.lst u)] = some (.v (.int u.length)) := rfl
@[simp] theorem V_lens : bD "len" [.v (.str x)] = some (.v (.int x.length)) := rfl
@[simp] theorem V_int : bD "int" [.v (.int i)] = some (.v (.int i)) := rfl
@[simp] theorem V_abs : bD "abs" [.v (.int i)] = some (.v (.int (if i < 0 then -i else i))) := rfl
@[simp] theorem V_min : bD "min" [.v (.int i), .v (.int j)] = some (.v (.int (if j < i then j else i))) := rfl
@[simp] theorem V_max : bD "max" [.v (.int i), .v (.int j)] = some (.v (.int (if j > i then j else i))) := rfl
@[simp] theorem V_tup (r : Rt) : bD "tuple" [r] = (seqR r).map fun ds => .v (.tup ds) := by cases r <;> rfl
@[simp] theorem V_listt (u : List D) : bD "list" [.v (.tup u)] = some (.o (.lst u)) := rfl
@[simp] theorem V_listl (u : List D) : bD "list" [.v (.lst u)] = some (.o (.lst u)) := rfl
@[simp] theorem V_listo (u : List D) : bD "list" [.o (.lst u)] = some (.o (.lst u)) := rfl
@[simp] theorem V_lists : bD "list" [.v (.str x)] = some (.o (.lst (x.map fun c => .str [c]))) := rfl
theorem V_sorted (u : List D) : bD "sorted" [.o (.lst u)] = if (alkD u && srtK u && decide (dpts u ≤ 60)) = true then some (.o (.lst (srtD u))) else none := rfl
theorem V_sortedk (r : Rt) (h : lstR r = none) : bD "sorted" [r] = (keysR r).bind fun ds => if (alkD ds && srtK ds && decide (dpts ds ≤ 60)) = true then some (.o (.lst (srtD ds))) else none := by
  show ((lstR r).or (keysR r)).bind _ = _
  rw [h]; rfl
theorem V_best (r : Rt) : bD "max" [r] = (seqR r).bind fun ds => bestD maxI maxDD ds := by cases r <;> first | rfl | (rename_i d; cases d <;> rfl)
theorem V_besm (r : Rt) : bD "min" [r] = (seqR r).bind fun ds => bestD minI minDD ds := by cases r <;> first | rfl | (rename_i d; cases d <;> rfl)
@[simp] theorem V_all (r : Rt) : bD "all" [r] = (lstR r).bind fun ds => (boolL ds).map fun is => .v (.bl (is.all id)) := by cases r <;> rfl
@[simp] theorem V_any (r : Rt) : bD "any" [r] = (lstR r).bind fun ds => (boolL ds).map fun is => .v (.bl (is.any id)) := by cases r <;> rfl
@[simp] theorem V_ixt (u : List D) : ixD (.v (.tup u)) (.v (.int i)) = (atD u i).map .v := rfl
@[simp] theorem V_ixl (u : List D) : ixD (.v (.lst u)) (.v (.int i)) = (atD u i).map .v := rfl
@[simp] theorem V_ixo (u : List D) : ixD (.o (.lst u)) (.v (.int i)) = (atD u i).map .v := rfl
@[simp] theorem V_ixs : ixD (.v (.str x)) (.v (.int i)) = (atD x i).map fun c => .v (.str [c]) := rfl
@[simp] theorem V_slt (u : List D) (lo hi : Option Int) : slD (.v (.tup u)) lo hi = some (.v (.tup (cutD u lo hi))) := rfl
@[simp] theorem V_sll (u : List D) (lo hi : Option Int) : slD (.v (.lst u)) lo hi = some (.o (.lst (cutD u lo hi))) := rfl
@[simp] theorem V_slo (u : List D) (lo hi : Option Int) : slD (.o (.lst u)) lo hi = some (.o (.lst (cutD u lo hi))) := rfl
@[simp] theorem V_sls (lo hi : Option Int) : slD (.v (.str x)) lo hi = some (.v (.str (cutD x lo hi))) := rfl
@[simp] theorem V_revt (u : List D) : revD (.v (.tup u)) = some (.v (.tup u.reverse)) := rfl
@[simp] theorem V_revl (u : List D) : revD (.v (.lst u)) = some (.o (.lst u.reverse)) := rfl
@[simp] theorem V_revo (u : List D) : revD (.o (.lst u)) = some (.o (.lst u.reverse)) := rfl
@[simp] theorem V_revs : revD (.v (.str x)) = some (.v (.str x.reverse)) := rfl
@[simp] theorem V_isi0 (r : Rt) : isiAny r [] = some false := rfl
@[simp] theorem V_isi1 (r : Rt) (t : String) (ts : List String) : isiAny r (t :: ts) = (isiD t r).bind fun b => (isiAny r ts).map (b || ·) := rfl
@[simp] theorem V_isib (t : String) : isiD t (.v (.bl a)) = some (t == "bool" || t == "int") := rfl
@[simp] theorem V_isii (t : String) : isiD t (.v (.int i)) = some (t == "int") := rfl
@[simp] theorem V_isis (t : String) : isiD t (.v (.str x)) = some (t == "str") := rfl
@[simp] theorem V_isit (t : String) (u : List D) : isiD t (.v (.tup u)) = some (t == "tuple") := rfl
@[simp] theorem V_isil (t : String) (u : List D) : isiD t (.v (.lst u)) = some (t == "list") := rfl
@[simp] theorem V_isiol (t : String) (u : List D) : isiD t (.o (.lst u)) = some (t == "list") := rfl
@[simp] theorem V_isin (t : String) : isiD t (.v .non) = some (t == "NoneType") := rfl
@[simp] theorem V_at0 {α : Type} (a : α) (r : List α) : atD (a :: r) 0 = some a := at_0 a r
@[simp] theorem V_at1 {α : Type} (a b : α) (r : List α) : atD (a :: b :: r) 1 = some b := at_1 a b r
@[simp] theorem V_at2 {α : Type} (a b c : α) (r : List α) : atD (a :: b :: c :: r) 2 = some c := at_2 a b c r
@[simp] theorem V_at3 {α : Type} (a b c d : α) (r : List α) : atD (a :: b :: c :: d :: r) 3 = some d := at_3 a b c d r
@[simp] theorem V_nn : isNon .non = true := rfl
@[simp] theorem V_nb : isNon (.bl a) = false := rfl
@[simp] theorem V_ni : isNon (.int i) = false := rfl
@[simp] theorem V_ns : isNon (.str x) = false := rfl
@[simp] theorem V_nt (u : List D) : isNon (.tup u) = false := rfl
@[simp] theorem V_nl (u : List D) : isNon (.lst u) = false := rfl
@[simp] theorem V_aug1 : augI .add i j = some (i + j) := rfl
@[simp] theorem V_aug2 : augI .sub i j = some (i - j) := rfl
@[simp] theorem V_ssl (u : List D) (d : D) : ssetO (.lst u) (.v (.int i)) d = (ixNN u.length i).map fun n => .lst (u.set n d) := rfl
@[simp] theorem V_sst (u : List (List K1 × D)) (r : Rt) (d : D) : ssetO (.dT u) r d = dput (.dT u) r d := by cases r <;> first | rfl | (rename_i x; cases x <;> rfl)
@[simp] theorem V_ssk (u : List (K1 × D)) (r : Rt) (d : D) : ssetO (.dK u) r d = dput (.dK u) r d := by cases r <;> first | rfl | (rename_i x; cases x <;> rfl)
@[simp] theorem V_recj : recOk "join" (.v (.str x)) = true := rfl
@[simp] theorem V_reck (u : List (K1 × D)) : recOk "get" (.o (.dK u)) = true := rfl
@[simp] theorem V_rect (u : List (List K1 × D)) : recOk "get" (.o (.dT u)) = true := rfl
@[simp] theorem V_recc (u : List D) : recOk "count" (.o (.lst u)) = true := rfl
@[simp] theorem V_reccv (u : List D) : recOk "count" (.v (.lst u)) = true := rfl
@[simp] theorem V_recl (u : List D) : recOk "index" (.o (.lst u)) = true := rfl
@[simp] theorem V_recv (u : List D) : recOk "index" (.v (.lst u)) = true := rfl
@[simp] theorem V_getD2 (ob : Ob) (r : Rt) (d : D) : getD2 (.o ob) r d = (dget ob r).map fun o => .v (o.getD d) := rfl
@[simp] theorem V_dgT (u : List (List K1 × D)) (r : Rt) : dget (.dT u) r = (keyT r).map (look u) := rfl
@[simp] theorem V_dgK (u : List (K1 × D)) (r : Rt) : dget (.dK u) r = (key1 r).map (look u) := rfl
@[simp] theorem V_dpT (u : List (List K1 × D)) (r : Rt) (v : D) : dput (.dT u) r v = (keyT r).bind fun k => if u.length < Lm then some (.dT (put u k v)) else none := rfl
@[simp] theorem V_dpK (u : List (K1 × D)) (r : Rt) (v : D) : dput (.dK u) r v = (key1 r).bind fun k => if u.length < Lm then some (.dK (put u k v)) else none := rfl
@[simp] theorem V_ixT (u : List (List K1 × D)) (r : Rt) : ixD (.o (.dT u)) r = ((dget (.dT u) r).bind id).map .v := by cases r <;> first | rfl | (rename_i x; cases x <;> rfl)
@[simp] theorem V_ixK (u : List (K1 × D)) (r : Rt) : ixD (.o (.dK u)) r = ((dget (.dK u) r).bind id).map .v := by cases r <;> first | rfl | (rename_i x; cases x <;> rfl)
@[simp] theorem V_inT (u : List (List K1 × D)) (r : Rt) : cmpD .in_ r (.o (.dT u)) = (dget (.dT u) r).map (·.isSome) := by
  cases r with
  | v d => cases d <;> first | rfl | (rename_i s; rcases s with _ | ⟨c, _ | ⟨_, _⟩⟩ <;> rfl)
  | o ob => cases ob <;> rfl
@[simp] theorem V_inK (u : List (K1 × D)) (r : Rt) : cmpD .in_ r (.o (.dK u)) = (dget (.dK u) r).map (·.isSome) := by
  cases r with
  | v d => cases d <;> first | rfl | (rename_i s; rcases s with _ | ⟨c, _ | ⟨_, _⟩⟩ <;> rfl)
  | o ob => cases ob <;> rfl
@[simp] theorem V_ninT (u : List (List K1 × D)) (r : Rt) : cmpD .nin r (.o (.dT u)) = (dget (.dT u) r).map (fun o => !o.isSome) := by
  have h : inD r (.o (.dT u)) = _ := V_inT u r
  show (inD r (.o (.dT u))).map (!·) = _
  rw [h, Option.map_map]; rfl
@[simp] theorem V_ninK (u : List (K1 × D)) (r : Rt) : cmpD .nin r (.o (.dK u)) = (dget (.dK u) r).map (fun o => !o.isSome) := by
  have h : inD r (.o (.dK u)) = _ := V_inK u r
  show (inD r (.o (.dK u))).map (!·) = _
  rw [h, Option.map_map]; rfl
@[simp] theorem V_kT (u : List D) : keyT (.v (.tup u)) = keys1 u := rfl
@[simp] theorem V_ks0 : keys1 [] = some [] := rfl
@[simp] theorem V_ks1 (d : D) (r : List D) : keys1 (d :: r) = (key1 (.v d)).bind fun k => (keys1 r).map (k :: ·) := rfl
@[simp] theorem V_ki : key1 (.v (.int i)) = some (.inl i) := rfl
@[simp] theorem V_kst : key1 (.v (.str x)) = some (.inr x) := rfl
end
end VI

set_option Elab.async false
set_option linter.all false
set_option maxRecDepth 100000
set_option maxHeartbeats 4000000
set_option autoImplicit false
namespace VI
theorem wipe_leN (f : Fr) : ∀ own : List Nat, (wipeF f own).length = f.length
  | [] => rfl
  | v :: vs => by rw [wipeF, List.length_set, wipe_leN f vs]
theorem wipe_geT (f : Fr) : ∀ (own : List Nat) (i : Nat), i ∉ own → (wipeF f own)[i]? = f[i]?
  | [], _, _ => rfl
  | v :: vs, i, h => by
    rw [wipeF, List.getElem?_set_ne (fun z => h (by rw [z]; exact List.mem_cons_self ..)), wipe_geT f vs i fun z => h (List.mem_cons_of_mem _ z)]
theorem unwipe_leN (f0 f : Fr) : ∀ own : List Nat, (unwipe f0 f own).length = f.length
  | [] => rfl
  | v :: vs => by
    rw [unwipe]
    split
    · rw [List.length_set, unwipe_leN f0 f vs]
    · exact unwipe_leN f0 f vs
theorem unwipe_geT (f0 f : Fr) (hl : f.length = f0.length) : ∀ (own : List Nat) (i : Nat), (unwipe f0 f own)[i]? = if i ∈ own then f0[i]? else f[i]?
  | [], i => by simp [unwipe]
  | v :: vs, i => by
    have ih := unwipe_geT f0 f hl vs i
    rw [unwipe]
    by_cases hv : v = i
    · subst hv
      cases h : f0[v]? with
      | none =>
        simp only [h]
        rw [ih]
        simp [h]
        intro _
        have := List.getElem?_eq_none_iff.mp h
        omega
      | some s =>
        simp only [h]
        have := (List.getElem?_eq_some_iff.mp h).1
        rw [List.getElem?_set_self (by rw [unwipe_leN, hl]; exact this)]
        simp
    · have hm : (i ∈ v :: vs) ↔ i ∈ vs := by simp [show ¬ i = v from fun z => hv z.symm]
      simp only [hm]
      split
      · rw [List.getElem?_set_ne hv, ih]
      · exact ih
theorem unwipe_wipe (f : Fr) (own : List Nat) : unwipe f (wipeF f own) own = f := by
  apply List.ext_getElem?
  intro i
  rw [unwipe_geT f _ (wipe_leN f own)]
  split
  · rfl
  · rename_i h; exact wipe_geT f own i h
@[simp] theorem S_lc (c : Ctx) (own : List Nat) (tg : Tg) (it : It) (co : Txo) (e : Ex) (f : Fr) : ev c (.lc own tg it co e) f = (evI c it f).bind fun dl f1 => if noOwn f1 own then
      (lcGo (lcTurn own tg (evC c co) (ev c e)) dl.1 [] (wipeF f1 own)).bind fun acc f5 => .ok (.o (.lst acc)) (unlk (unwipe f1 f5 own) dl.2)
      else .bad := rfl
theorem lc_run {c : Ctx} {own : List Nat} {tg : Tg} {it : It} {co : Txo} {e : Ex} {f f1 : Fr} (ds : List D) (ls : List Nat) (g : D → Option D) (hi : evI c it f = .ok (ds, ls) f1) (hn : noOwn f1 own = true) (hl : ds.length ≤ Lm)
    (ht : ∀ d ∈ ds, lcTurn own tg (evC c co) (ev c e) d (wipeF f1 own) = .ok (g d) (wipeF f1 own)) : ev c (.lc own tg it co e) f = .ok (.o (.lst (ds.filterMap g))) (unlk f1 ls) := by
  rw [S_lc, hi, R.bind_ok, if_pos hn, lcGo_map (g := g) ds [] ht (by simpa using hl), R.bind_ok, List.nil_append, unwipe_wipe]
theorem lc_map {c : Ctx} {own : List Nat} {tg : Tg} {it : It} {co : Txo} {e : Ex} {f f1 : Fr} (ds : List D) (ls : List Nat) (g : D → D) (hi : evI c it f = .ok (ds, ls) f1) (hn : noOwn f1 own = true) (hl : ds.length ≤ Lm)
    (ht : ∀ d ∈ ds, lcTurn own tg (evC c co) (ev c e) d (wipeF f1 own) = .ok (some (g d)) (wipeF f1 own)) : ev c (.lc own tg it co e) f = .ok (.o (.lst (ds.map g))) (unlk f1 ls) := by
  rw [lc_run ds ls (fun d => some (g d)) hi hn hl ht, List.filterMap_eq_map']
theorem lcGo_inv {turn : D → Fr → R (Option D)} (I : Nat → List D → Fr → Prop) : ∀ (ds : List D) (n : Nat) (acc : List D) (f : Fr), I n acc f →
    (∀ (i : Nat) (d : D) (acc : List D) (f : Fr), ds[i]? = some d → I (n + i) acc f → ∃ o f', turn d f = .ok o f' ∧ acc.length < Lm ∧ I (n + i + 1) (acc ++ o.toList) f') → ∃ acc' f', lcGo turn ds acc f = .ok acc' f' ∧ I (n + ds.length) acc' f'
  | [], n, acc, f, h, _ => ⟨acc, f, rfl, h⟩
  | d :: ds, n, acc, f, h, st => by
    obtain ⟨o, f1, e1, hl, h1⟩ := st 0 d acc f rfl h
    obtain ⟨acc', f', e2, h2⟩ := lcGo_inv I ds (n + 1) (acc ++ o.toList) f1 h1 fun i d acc f e hi => by
      have := st (i + 1) d acc f (by simpa using e) (by rw [show n + (i + 1) = n + 1 + i by omega]; exact hi)
      rw [show n + (i + 1) + 1 = n + 1 + i + 1 by omega] at this
      exact this
    refine ⟨acc', f', ?_, by rw [List.length_cons, show n + (ds.length + 1) = n + 1 + ds.length by omega]; exact h2⟩
    rw [lcGo, e1, R.bind_ok]
    cases o with
    | none => simpa using e2
    | some y => simp only [if_pos hl]; simpa using e2
/-- a comprehension whose turns change the frame: f1' is the frame behind -/
theorem lc_inv {c : Ctx} {own : List Nat} {tg : Tg} {it : It} {co : Txo} {e : Ex} {f f1 : Fr} (ds : List D) (ls : List Nat) (I : Nat → List D → Fr → Prop) (hi : evI c it f = .ok (ds, ls) f1) (hn : noOwn f1 own = true)
    (h0 : I 0 [] (wipeF f1 own)) (ht : ∀ (i : Nat) (d : D) (acc : List D) (f : Fr), ds[i]? = some d → I i acc f → ∃ o f', lcTurn own tg (evC c co) (ev c e) d f = .ok o f' ∧ acc.length < Lm ∧ I (i + 1) (acc ++ o.toList) f') :
    ∃ acc f', I ds.length acc f' ∧ ev c (.lc own tg it co e) f = .ok (.o (.lst acc)) (unlk (unwipe f1 f' own) ls) := by
  obtain ⟨acc, f', e1, h1⟩ := lcGo_inv I ds 0 [] (wipeF f1 own) h0 fun i d acc f e hi => by
    rw [Nat.zero_add] at hi ⊢; exact ht i d acc f e hi
  rw [Nat.zero_add] at h1
  exact ⟨acc, f', h1, by rw [S_lc, hi, R.bind_ok, if_pos hn, e1, R.bind_ok]⟩
theorem lcGo2_app {turn : D → List D → Fr → R (List D)} {g : D → List D} {f : Fr} : ∀ (ds acc : List D), (∀ d ∈ ds, ∀ acc : List D, acc.length + (g d).length ≤ Lm → turn d acc f = .ok (acc ++ g d) f) → acc.length + (ds.flatMap g).length ≤ Lm → lcGo2 turn ds acc f = .ok (acc ++ ds.flatMap g) f
  | [], acc, _, _ => by simp [lcGo2]
  | d :: ds, acc, h, hl => by
    rw [List.flatMap_cons, List.length_append] at hl
    rw [lcGo2, h d (List.mem_cons_self ..) acc (by omega), R.bind_ok, lcGo2_app ds _ (fun e he => h e (List.mem_cons_of_mem _ he)) (by rw [List.length_append]; omega), List.flatMap_cons, List.append_assoc]
/-- two clauses: the inner walk's items and what is made of each -/
theorem lc2_run {c : Ctx} {own own1 : List Nat} {tg tg1 : Tg} {it it1 : It} {co co1 : Txo} {e : Ex} {f f1 : Fr} (ds : List D) (ls : List Nat) (g : D → List D) (hi : evI c it f = .ok (ds, ls) f1) (hn : noOwn f1 own = true) (hl : (ds.flatMap g).length ≤ Lm)
    (ht : ∀ d ∈ ds, ∃ f2, setT tg d (wipeF (wipeF f1 own) own) = some f2 ∧ ((∃ f3, evC c co f2 = .ok false f3 ∧ wipeF f3 own = wipeF f1 own ∧ g d = []) ∨ ∃ f3 es ks f4, evC c co f2 = .ok true f3 ∧ evI c it1 f3 = .ok (es, ks) f4 ∧ wipeF (unlk (wipeF f4 own1) ks) own = wipeF f1 own ∧
      ∃ g1 : D → Option D, g d = es.filterMap g1 ∧ es.length ≤ Lm ∧ ∀ x ∈ es, lcTurn own1 tg1 (evC c co1) (ev c e) x (wipeF f4 own1) = .ok (g1 x) (wipeF f4 own1))) :
    ev c (.lc2 own own1 tg it co tg1 it1 co1 e) f = .ok (.o (.lst (ds.flatMap g))) (unlk f1 ls) := by
  show ((evI c it f).bind fun dl f1 => if noOwn f1 own then (lcGo2 (fun d acc f => match setT tg d (wipeF f own) with
        | none => .bad
        | some f2 => (evC c co f2).bind fun k f3 => if k then (evI c it1 f3).bind fun el f4 =>
            (lcGo (lcTurn own1 tg1 (evC c co1) (ev c e)) el.1 acc (wipeF f4 own1)).bind
              fun acc1 f8 => .ok acc1 (wipeF (unlk f8 el.2) own)
          else .ok acc (wipeF f3 own)) dl.1 [] (wipeF f1 own)).bind
        fun acc f5 => R.ok (Rt.o (Ob.lst acc)) (unlk (unwipe f1 f5 own) dl.2)
      else .bad) = _
  rw [hi, R.bind_ok, if_pos hn]
  rw [lcGo2_app (g := g) ds [] (fun d hd acc ha => ?_) (by simpa using hl), R.bind_ok, List.nil_append, unwipe_wipe]
  obtain ⟨f2, e2, h⟩ := ht d hd
  simp only [e2]
  rcases h with ⟨f3, e3, e4, e5⟩ | ⟨f3, es, ks, f4, e3, e4, e5, g1, e6, hl1, e7⟩
  · rw [e3, R.bind_ok, if_neg Bool.false_ne_true, e4, e5, List.append_nil]
  · rw [e3, R.bind_ok, if_pos rfl, e4, R.bind_ok]
    have : acc.length + es.length ≤ Lm ∨ True := .inr trivial
    have hh : ∀ (xs acc : List D), (∀ x ∈ xs, lcTurn own1 tg1 (evC c co1) (ev c e) x (wipeF f4 own1) = .ok (g1 x) (wipeF f4 own1)) → acc.length + (xs.filterMap g1).length ≤ Lm → lcGo (lcTurn own1 tg1 (evC c co1) (ev c e)) xs acc (wipeF f4 own1) = .ok (acc ++ xs.filterMap g1) (wipeF f4 own1) := by
      intro xs
      induction xs with
      | nil => intro acc _ _; simp [lcGo]
      | cons x xs ih =>
        intro acc hx hl
        have h1 := hx x (List.mem_cons_self ..)
        rw [lcGo, h1, R.bind_ok]
        cases hg : g1 x with
        | none => 
          simp only [hg]
          rw [List.filterMap_cons, hg] at hl
          rw [ih acc (fun y hy => hx y (List.mem_cons_of_mem _ hy)) hl, List.filterMap_cons, hg]
        | some y =>
          rw [List.filterMap_cons, hg, List.length_cons] at hl
          simp only [hg]
          rw [if_pos (by omega), ih _ (fun y hy => hx y (List.mem_cons_of_mem _ hy)) (by rw [List.length_append]; simp; omega), List.filterMap_cons, hg, List.append_assoc]
          rfl
    rw [hh es acc e7 (by rw [← e6]; exact ha), R.bind_ok]
    simp only [e5, e6]
/-- a for loop: it goes on, breaks or returns -/
theorem frGo_gen {t : Tg} {b : Fr → S} (I : Nat → Fr → Prop) (P : S → Prop) : ∀ (ds : List D) (n : Nat) (f : Fr), I n f →
    (∀ (i : Nat) (d : D) (f : Fr), ds[i]? = some d → I (n + i) f → ∃ f1, setT t d f = some f1 ∧ ((∃ f2, (b f1 = .nxt f2 ∨ b f1 = .cnt f2) ∧ I (n + i + 1) f2) ∨ (∃ f2, b f1 = .brk f2 ∧ P (.nxt f2)) ∨ ∃ r f2, b f1 = .ret r f2 ∧ P (.ret r f2))) →
    (∀ f, I (n + ds.length) f → P (.nxt f)) → P (frGo t b ds f)
  | [], n, f, h, _, fin => fin f h
  | d :: ds, n, f, h, st, fin => by
    obtain ⟨f1, e1, h1⟩ := st 0 d f rfl h
    rw [frGo, e1]
    rcases h1 with ⟨f2, e2, h2⟩ | ⟨f2, e2, h2⟩ | ⟨r, f2, e2, h2⟩
    · have := frGo_gen I P ds (n + 1) f2 h2 (fun i d f e hi => by
        have := st (i + 1) d f (by simpa using e) (by rw [show n + (i + 1) = n + 1 + i by omega]; exact hi)
        rw [show n + (i + 1) + 1 = n + 1 + i + 1 by omega] at this
        exact this) (fun f hf => fin f (by rw [List.length_cons, show n + (ds.length + 1) = n + 1 + ds.length by omega]; exact hf))
      rcases e2 with e2 | e2 <;> simp only [e2] <;> exact this
    · simp only [e2]; exact h2
    · simp only [e2]; exact h2
/-- a while loop by a measure -/
theorem whGo_meas {t : Fr → R Bool} {b : Fr → S} (I : Fr → Prop) (μ : Fr → Nat) (P : S → Prop)
    (st : ∀ f, I f → (∃ f1, t f = .ok false f1 ∧ P (.nxt f1)) ∨ ∃ f1, t f = .ok true f1 ∧ ((∃ f2, (b f1 = .nxt f2 ∨ b f1 = .cnt f2) ∧ I f2 ∧ μ f2 < μ f) ∨ (∃ f2, b f1 = .brk f2 ∧ P (.nxt f2)) ∨ ∃ r f2, b f1 = .ret r f2 ∧ P (.ret r f2))) :
    ∀ (n : Nat) (f : Fr), μ f < n → I f → ∃ s, whGo t b n f = some s ∧ P s
  | 0, f, h, _ => by omega
  | n + 1, f, h, hi => by
    rcases st f hi with ⟨f1, e1, h1⟩ | ⟨f1, e1, h1⟩
    · exact ⟨_, by rw [whGo, e1], h1⟩
    · rcases h1 with ⟨f2, e2, h2, h3⟩ | ⟨f2, e2, h2⟩ | ⟨r, f2, e2, h2⟩
      · obtain ⟨s, e4, h4⟩ := whGo_meas I μ P st n f2 (by omega) h2
        refine ⟨s, ?_, h4⟩
        rw [whGo, e1]
        rcases e2 with e2 | e2 <;> simp only [e2] <;> exact e4
      · exact ⟨_, by rw [whGo, e1]; simp only [e2], h2⟩
      · exact ⟨_, by rw [whGo, e1]; simp only [e2], h2⟩
theorem whl_meas {t : Fr → R Bool} {b : Fr → S} (I : Fr → Prop) (μ : Fr → Nat) (P : S → Prop)
    (st : ∀ f, I f → (∃ f1, t f = .ok false f1 ∧ P (.nxt f1)) ∨ ∃ f1, t f = .ok true f1 ∧ ((∃ f2, (b f1 = .nxt f2 ∨ b f1 = .cnt f2) ∧ I f2 ∧ μ f2 < μ f) ∨ (∃ f2, b f1 = .brk f2 ∧ P (.nxt f2)) ∨ ∃ r f2, b f1 = .ret r f2 ∧ P (.ret r f2)))
    (f : Fr) (h : I f) : P (whl t b f) := by
  obtain ⟨s, e, hs⟩ := whGo_meas I μ P st (μ f + 1) f (by omega) h
  rw [whl_of e]; exact hs
end VI

set_option Elab.async false
set_option linter.all false
set_option maxRecDepth 100000
set_option maxHeartbeats 4000000
set_option autoImplicit false
namespace VI
def cD (c : Int × Int) : D := .tup [.int c.1, .int c.2]
theorem cD_inj {a b : Int × Int} (h : cD a = cD b) : a = b := by
  obtain ⟨a1, a2⟩ := a
  obtain ⟨b1, b2⟩ := b
  simp only [cD, D.tup.injEq, List.cons.injEq, D.int.injEq, and_true] at h
  rw [h.1, h.2]
@[simp] theorem eqD_cD (a b : Int × Int) : eqD (cD a) (cD b) = decide (a = b) := by
  obtain ⟨a1, a2⟩ := a
  obtain ⟨b1, b2⟩ := b
  by_cases h1 : a1 = b1 <;> by_cases h2 : a2 = b2 <;> simp [cD, eqD, eqDs, h1, h2]
@[simp] theorem dpt_cD (a : Int × Int) : dpt (cD a) = 1 := by simp [cD, dpt, dpts]
@[simp] theorem V_eqc (a b : Int × Int) : cmpD .eq (.v (cD a)) (.v (cD b)) = some (decide (a = b)) := by simp [cmpD, eqR]
@[simp] theorem V_nec (a b : Int × Int) : cmpD .ne (.v (cD a)) (.v (cD b)) = some (!decide (a = b)) := by simp [cmpD, eqR]
abbrev Cols := List (Int × Int)
def regD (cols : Cols) : D := .tup (cols.map cD)
structure Good (h : Int) (cols : Cols) : Prop where
  all : ∀ c ∈ cols, 0 ≤ c.1 ∧ c.1 ≤ c.2 ∧ c.2 ≤ h
  fst : ∀ c, cols[0]? = some c → c.1 = 0
  nxt : ∀ (i : Nat) (a b : Int × Int), cols[i]? = some a → cols[i + 1]? = some b → a.1 ≤ b.1 ∧ b.1 ≤ a.2 ∧ a.2 ≤ b.2
theorem Good.nil (h : Int) : Good h [] := ⟨fun _ h => (nomatch h), fun _ h => (nomatch h), fun _ _ _ h => (nomatch h)⟩
theorem Good.snoc {h : Int} {cols : Cols} {low top : Int} (g : Good h cols) (h1 : 0 ≤ low ∧ low ≤ top ∧ top ≤ h) (h2 : cols = [] → low = 0) (h3 : ∀ a, cols.getLast? = some a → a.1 ≤ low ∧ low ≤ a.2 ∧ a.2 ≤ top) : Good h (cols ++ [(low, top)]) where
  all := fun c hc => by
    rcases List.mem_append.mp hc with hc | hc
    · exact g.all c hc
    · rw [List.mem_singleton.mp hc]; exact h1
  fst := fun c hc => by
    cases cols with
    | nil => simp at hc; rw [← hc]; exact h2 rfl
    | cons d r => exact g.fst c (by simpa using hc)
  nxt := fun i a b ha hb => by
    have hl := (List.getElem?_eq_some_iff.mp hb).1
    rw [List.length_append] at hl
    simp only [List.length_cons, List.length_nil] at hl
    rw [List.getElem?_append_left (by omega)] at ha
    by_cases hi : i + 1 < cols.length
    · rw [List.getElem?_append_left hi] at hb
      exact g.nxt i a b ha hb
    · have e : i + 1 = cols.length := by omega
      rw [List.getElem?_append_right (by omega), e, Nat.sub_self] at hb
      cases hb
      exact h3 a (by rw [List.getLast?_eq_getElem?, ← e]; exact ha)
/-- a region of a text of at most 60 columns -/
structure Reg (cols : Cols) : Prop where
  good : Good 59 cols
  pos : 0 < cols.length
  len : cols.length ≤ 60
theorem Good.mono {h h' : Int} {cols : Cols} (g : Good h cols) (hh : h ≤ h') : Good h' cols := ⟨fun c hc => ⟨(g.all c hc).1, (g.all c hc).2.1, Int.le_trans (g.all c hc).2.2 hh⟩, g.fst, g.nxt⟩
/-- is a span one of the region's -/
def opn (cols : Cols) (x y : Int) : Bool := decide (0 ≤ x) && (match cols[x.toNat]? with
  | some c => decide (c.1 ≤ y) && decide (y ≤ c.2)
  | none => false)
theorem opn_iff {cols : Cols} {x y : Int} : opn cols x y = true ↔ 0 ≤ x ∧ ∃ c, cols[x.toNat]? = some c ∧ c.1 ≤ y ∧ y ≤ c.2 := by
  unfold opn
  cases h : cols[x.toNat]? with
  | none => simp
  | some c => simp
theorem opn_x {cols : Cols} {x y : Int} (h : opn cols x y = true) : 0 ≤ x ∧ x < cols.length := by
  obtain ⟨h0, c, hc, _⟩ := opn_iff.mp h
  have := (List.getElem?_eq_some_iff.mp hc).1
  omega
def topP (cols : Cols) : Int := match cols.getLast? with
  | some c => c.2
  | none => 0
def endP (cols : Cols) : Int × Int := ((cols.length : Int) - 1, topP cols)
def afterP (s : Int × Int) (c : Nat) : Int × Int := if c = 76 then (s.1 + 1, s.2) else (s.1, s.2 + 1)
@[simp] theorem after_L (s : Int × Int) : afterP s 76 = (s.1 + 1, s.2) := rfl
@[simp] theorem after_R (s : Int × Int) : afterP s 82 = (s.1, s.2 + 1) := rfl
def stepsP (cols : Cols) (s : Int × Int) : List Nat := (if opn cols (s.1 + 1) s.2 = true then [76] else []) ++ (if opn cols s.1 (s.2 + 1) = true then [82] else [])
def rngI (i j : Int) : List Int := (List.range (j - i).toNat).map fun (k : Nat) => i + k
theorem rng_I (i j : Int) : rng i j = (rngI i j).map .int := by
  unfold rng rngI
  rw [List.map_map]; rfl
theorem mem_rngI {i j x : Int} : x ∈ rngI i j ↔ i ≤ x ∧ x < j := by
  unfold rngI
  simp only [List.mem_map, List.mem_range]
  constructor
  · rintro ⟨k, hk, rfl⟩; omega
  · rintro ⟨h1, h2⟩; exact ⟨(x - i).toNat, by omega, by omega⟩
theorem rngI_len (i j : Int) : (rngI i j).length = (j - i).toNat := by simp [rngI]
theorem rngI_nil {i j : Int} (h : j ≤ i) : rngI i j = [] := by
  unfold rngI; rw [show (j - i).toNat = 0 by omega]; rfl
theorem rngI_cons {i j : Int} (h : i < j) : rngI i j = i :: rngI (i + 1) j := by
  unfold rngI
  rw [show (j - i).toNat = (j - (i + 1)).toNat + 1 by omega, List.range_succ_eq_map, List.map_cons, List.map_map]
  congr 1
  · omega
  · apply List.map_congr_left
    intro k _
    show i + ((k + 1 : Nat) : Int) = i + 1 + k
    omega
theorem rngI_snoc {i j : Int} (h : i ≤ j) : rngI i (j + 1) = rngI i j ++ [j] := by
  unfold rngI
  rw [show (j + 1 - i).toNat = (j - i).toNat + 1 by omega, List.range_succ, List.map_append]
  congr 1
  show [i + (((j - i).toNat : Nat) : Int)] = [j]
  congr 1; omega
theorem rngI_get {i j : Int} {n : Nat} (h : i + n < j) : (rngI i j)[n]? = some (i + n) := by
  unfold rngI
  rw [List.getElem?_map, List.getElem?_range (by omega)]; rfl
theorem rngI_get' {i j x : Int} {n : Nat} (h : (rngI i j)[n]? = some x) : x = i + n ∧ i + n < j := by
  have hl := (List.getElem?_eq_some_iff.mp h).1
  rw [rngI_len] at hl
  rw [rngI_get (by omega)] at h
  exact ⟨(Option.some.inj h).symm, by omega⟩
/-- the spans, column by column, from column n on -/
def spX : Int → Cols → List (Int × Int)
  | _, [] => []
  | n, c :: r => (rngI c.1 (c.2 + 1)).map (fun y => (n, y)) ++ spX (n + 1) r
def spansP (cols : Cols) : List (Int × Int) := spX 0 cols
theorem mem_spX : ∀ {cols : Cols} {n x y : Int}, (x, y) ∈ spX n cols ↔ n ≤ x ∧ ∃ c, cols[(x - n).toNat]? = some c ∧ c.1 ≤ y ∧ y ≤ c.2
  | [], n, x, y => by simp [spX]
  | c :: r, n, x, y => by
    simp only [spX, List.mem_append, List.mem_map, mem_rngI, Prod.mk.injEq]
    rw [mem_spX (cols := r)]
    constructor
    · rintro (⟨z, hz, rfl, rfl⟩ | ⟨h1, d, h2, h3⟩)
      · exact ⟨Int.le_refl _, c, by simp, by omega⟩
      · refine ⟨by omega, d, ?_, h3⟩
        rw [show (x - n).toNat = (x - (n + 1)).toNat + 1 by omega]
        simpa using h2
    · rintro ⟨h1, d, h2, h3⟩
      by_cases hx : x = n
      · subst hx
        simp at h2; subst h2
        exact .inl ⟨y, by omega, rfl, rfl⟩
      · refine .inr ⟨by omega, d, ?_, h3⟩
        rw [show (x - n).toNat = (x - (n + 1)).toNat + 1 by omega] at h2
        simpa using h2
theorem mem_spans {cols : Cols} {x y : Int} : (x, y) ∈ spansP cols ↔ opn cols x y = true := by
  rw [opn_iff]
  unfold spansP
  rw [mem_spX]
  rw [Int.sub_zero]
theorem mem_spans' {cols : Cols} {s : Int × Int} : s ∈ spansP cols ↔ opn cols s.1 s.2 = true := mem_spans (x := s.1) (y := s.2)
theorem spX_append : ∀ (a b : Cols) (n : Int), spX n (a ++ b) = spX n a ++ spX (n + a.length) b
  | [], b, n => by simp [spX]
  | c :: r, b, n => by
    simp only [List.cons_append, spX, List.append_assoc]
    rw [spX_append r b (n + 1), List.length_cons, show n + ((r.length + 1 : Nat) : Int) = n + 1 + r.length by omega]
theorem spX_len : ∀ {cols : Cols} {n : Int} {h : Int}, (∀ c ∈ cols, 0 ≤ c.1 ∧ c.1 ≤ c.2 ∧ c.2 ≤ h) → 0 ≤ h → (spX n cols).length ≤ cols.length * (h.toNat + 1)
  | [], _, _, _, _ => by simp [spX]
  | c :: r, n, h, g, h0 => by
    have ih := spX_len (cols := r) (n := n + 1) (h := h) (fun d hd => g d (List.mem_cons_of_mem _ hd)) h0
    have := g c (List.mem_cons_self ..)
    simp only [spX, List.length_append, List.length_map, rngI_len, List.length_cons]
    rw [Nat.succ_mul]
    omega
theorem inSeq_cD (s : Int × Int) : ∀ l : List (Int × Int), inSeq (cD s) (l.map cD) = decide (s ∈ l)
  | [] => by simp [inSeq]
  | x :: l => by
    have ih := inSeq_cD s l
    unfold inSeq at ih ⊢
    rw [List.map_cons, List.any_cons, ih, eqD_cD]
    by_cases h : x = s
    · subst h; simp
    · have : ¬ s = x := fun z => h z.symm
      simp [h, this]
theorem dpts_cD : ∀ l : List (Int × Int), dpts (l.map cD) ≤ 1
  | [] => by simp [dpts]
  | x :: l => by simp [dpts, dpts_cD l]
end VI
namespace VI
mutual
def wdD : D → Nat
  | .tup ds => max ds.length (wdDs ds)
  | .lst ds => max ds.length (wdDs ds)
  | _ => 0
def wdDs : List D → Nat
  | [] => 0
  | d :: ds => max (wdD d) (wdDs ds)
end
theorem dpts_mem : ∀ {ds : List D} {d : D}, d ∈ ds → dpt d ≤ dpts ds
  | e :: ds, d, h => by
    rw [dpts]
    rcases List.mem_cons.mp h with rfl | h
    · exact Nat.le_max_left _ _
    · exact Nat.le_trans (dpts_mem h) (Nat.le_max_right _ _)
theorem wdDs_mem : ∀ {ds : List D} {d : D}, d ∈ ds → wdD d ≤ wdDs ds
  | e :: ds, d, h => by
    rw [wdDs]
    rcases List.mem_cons.mp h with rfl | h
    · exact Nat.le_max_left _ _
    · exact Nat.le_trans (wdDs_mem h) (Nat.le_max_right _ _)
mutual
theorem eqD_refl : ∀ d : D, eqD d d = true
  | .non => rfl
  | .bl b => by simp [eqD]
  | .int i => by simp [eqD]
  | .str s => by simp [eqD]
  | .tup ds => by simp [eqD, eqDs_refl ds]
  | .lst ds => by simp [eqD, eqDs_refl ds]
theorem eqDs_refl : ∀ d : List D, eqDs d d = true
  | [] => rfl
  | d :: ds => by simp [eqDs, eqD_refl d, eqDs_refl ds]
end
/-- a slot that holds d -/
def SlD (s : Slot) (d : D) : Prop := s = .val d ∨ ∃ ds, s = .own true false (.lst ds) ∧ d = .lst ds
end VI
/-! words -/
namespace VI
def pathX : Int × Int → List Nat → List (Int × Int)
  | s, [] => [s]
  | s, c :: r => s :: pathX (afterP s c) r
abbrev pathP (w : List Nat) : List (Int × Int) := pathX (0, 0) w
def lastX (s : Int × Int) (w : List Nat) : Int × Int := w.foldl afterP s
theorem pathX_len : ∀ (w : List Nat) (s : Int × Int), (pathX s w).length = w.length + 1
  | [], _ => rfl
  | c :: r, s => by rw [pathX, List.length_cons, pathX_len r, List.length_cons]
theorem pathX_snoc : ∀ (w : List Nat) (s : Int × Int) (c : Nat), pathX s (w ++ [c]) = pathX s w ++ [afterP (lastX s w) c]
  | [], s, c => rfl
  | d :: r, s, c => by
    rw [List.cons_append, pathX, pathX_snoc r, pathX]; rfl
theorem lastX_snoc (w : List Nat) (s : Int × Int) (c : Nat) : lastX s (w ++ [c]) = afterP (lastX s w) c := by simp [lastX]
theorem pathX_last : ∀ (w : List Nat) (s : Int × Int), (pathX s w).getLast? = some (lastX s w)
  | [], s => rfl
  | c :: r, s => by
    rw [pathX, List.getLast?_cons, pathX_last r]; rfl
theorem lastX_append (a b : List Nat) (s : Int × Int) : lastX s (a ++ b) = lastX (lastX s a) b := by simp [lastX]
theorem pathX_get : ∀ (w : List Nat) (s : Int × Int) (i : Nat), i ≤ w.length → (pathX s w)[i]? = some (lastX s (w.take i))
  | [], s, i, h => by
    have : i = 0 := by simpa using h
    subst this; rfl
  | c :: r, s, 0, _ => rfl
  | c :: r, s, i + 1, h => by
    rw [pathX, List.getElem?_cons_succ, pathX_get r _ i (by simpa using h)]
    rfl
/-- a walk over open spans -/
def Wk (cols : Cols) : Int × Int → List Nat → Int × Int → Prop
  | s, [], t => s = t
  | s, c :: r, t => (c = 76 ∨ c = 82) ∧ opn cols (afterP s c).1 (afterP s c).2 = true ∧ Wk cols (afterP s c) r t
theorem Wk.last {cols : Cols} : ∀ {w : List Nat} {s t : Int × Int}, Wk cols s w t → lastX s w = t
  | [], _, _, h => h
  | c :: r, s, t, h => Wk.last (w := r) h.2.2
theorem Wk.snoc {cols : Cols} : ∀ {w : List Nat} {s t : Int × Int} {c : Nat}, Wk cols s w t → (c = 76 ∨ c = 82) → opn cols (afterP t c).1 (afterP t c).2 = true → Wk cols s (w ++ [c]) (afterP t c)
  | [], s, t, c, h, hc, ho => by
    have h : s = t := h
    subst h; exact ⟨hc, ho, rfl⟩
  | d :: r, s, t, c, h, hc, ho => ⟨h.1, h.2.1, Wk.snoc (w := r) h.2.2 hc ho⟩
theorem Wk.append {cols : Cols} : ∀ {a b : List Nat} {s t : Int × Int}, Wk cols s (a ++ b) t → Wk cols s a (lastX s a) ∧ Wk cols (lastX s a) b t
  | [], b, s, t, h => ⟨rfl, h⟩
  | c :: r, b, s, t, h => by
    obtain ⟨h1, h2⟩ := Wk.append (a := r) (b := b) h.2.2
    exact ⟨⟨h.1, h.2.1, h1⟩, h2⟩
theorem Wk.mem {cols : Cols} : ∀ {w : List Nat} {s t : Int × Int}, Wk cols s w t → ∀ c ∈ w, c = 76 ∨ c = 82
  | d :: r, s, t, h, c, hc => by
    rcases List.mem_cons.mp hc with rfl | hc
    · exact h.1
    · exact Wk.mem (w := r) h.2.2 c hc
theorem after_sum (s : Int × Int) (c : Nat) : (afterP s c).1 + (afterP s c).2 = s.1 + s.2 + 1 := by
  unfold afterP; split <;> simp only <;> omega
theorem last_sum : ∀ (w : List Nat) (s : Int × Int), (lastX s w).1 + (lastX s w).2 = s.1 + s.2 + w.length
  | [], s => by simp [lastX]
  | c :: r, s => by
    have h := last_sum r (afterP s c)
    have h2 := after_sum s c
    rw [List.length_cons, show lastX s (c :: r) = lastX (afterP s c) r from rfl]
    omega
theorem mem_steps {cols : Cols} {s : Int × Int} {c : Nat} : c ∈ stepsP cols s ↔ (c = 76 ∨ c = 82) ∧ opn cols (afterP s c).1 (afterP s c).2 = true := by
  unfold stepsP
  rw [List.mem_append]
  by_cases h1 : c = 76
  · subst h1
    have e : (82 : Nat) ≠ 76 := by decide
    by_cases h : opn cols (s.1 + 1) s.2 = true <;> by_cases h' : opn cols s.1 (s.2 + 1) = true <;> simp [h, h', e]
  · by_cases h2 : c = 82
    · subst h2
      by_cases h : opn cols (s.1 + 1) s.2 = true <;> by_cases h' : opn cols s.1 (s.2 + 1) = true <;> simp [h, h']
    · by_cases h : opn cols (s.1 + 1) s.2 = true <;> by_cases h' : opn cols s.1 (s.2 + 1) = true <;> simp [h, h', h1, h2]
/-- the two steps that are open, as a filter -/
theorem steps_filter (cols : Cols) (s : Int × Int) : stepsP cols s = ([76, 82] : List Nat).filter fun c => opn cols (afterP s c).1 (afterP s c).2 := by
  unfold stepsP
  by_cases h : opn cols (s.1 + 1) s.2 = true <;> by_cases h' : opn cols s.1 (s.2 + 1) = true <;> simp [h, h', List.filter]
section
variable {cols : Cols}
theorem Reg.last (g : Reg cols) : ∃ c, cols.getLast? = some c ∧ cols[cols.length - 1]? = some c ∧ endP cols = ((cols.length : Int) - 1, c.2) := by
  obtain ⟨c, hc⟩ : ∃ c, cols.getLast? = some c := ⟨_, List.getLast?_eq_some_getLast (fun z => by have := g.pos; rw [z] at this; exact absurd this (by decide))⟩
  exact ⟨c, hc, by rw [← List.getLast?_eq_getElem?]; exact hc, by simp [endP, topP, hc]⟩
theorem Reg.end_open (g : Reg cols) : opn cols (endP cols).1 (endP cols).2 = true := by
  obtain ⟨c, h1, h2, h3⟩ := g.last
  rw [h3, opn_iff]
  have := g.pos
  refine ⟨by simp only; omega, c, ?_, (g.good.all c (List.mem_of_getElem? h2)).2.1, Int.le_refl _⟩
  show cols[((cols.length : Int) - 1).toNat]? = some c
  rw [show ((cols.length : Int) - 1).toNat = cols.length - 1 by omega]; exact h2
theorem Reg.start_open (g : Reg cols) : opn cols 0 0 = true := by
  rw [opn_iff]
  have hp := g.pos
  have e : cols[(0 : Int).toNat]? = some cols[0] := List.getElem?_eq_getElem hp
  have h1 := g.good.fst cols[0] e
  have h2 := g.good.all cols[0] (List.getElem_mem hp)
  exact ⟨Int.le_refl _, cols[0], e, by omega, by omega⟩
/-- the columns rise -/
theorem Reg.mono (g : Reg cols) : ∀ (d i : Nat) (a b : Int × Int), cols[i]? = some a → cols[i + d]? = some b → a.1 ≤ b.1 ∧ a.2 ≤ b.2
  | 0, i, a, b, ha, hb => by
    rw [Nat.add_zero, ha] at hb; cases hb; exact ⟨Int.le_refl _, Int.le_refl _⟩
  | d + 1, i, a, b, ha, hb => by
    have hl := (List.getElem?_eq_some_iff.mp hb).1
    obtain ⟨c, hc⟩ : ∃ c, cols[i + d]? = some c := ⟨cols[i + d]'(by omega), List.getElem?_eq_getElem _⟩
    have h1 := Reg.mono g d i a c ha hc
    have h2 := g.good.nxt (i + d) c b hc hb
    omega
theorem Reg.le_end (g : Reg cols) {x y : Int} (h : opn cols x y = true) : 0 ≤ x ∧ 0 ≤ y ∧ x ≤ (endP cols).1 ∧ y ≤ (endP cols).2 := by
  obtain ⟨h0, c, hc, h1, h2⟩ := opn_iff.mp h
  obtain ⟨e, h3, h4, h5⟩ := g.last
  have hl := (List.getElem?_eq_some_iff.mp hc).1
  have hm := g.mono (cols.length - 1 - x.toNat) x.toNat c e hc (by rw [show x.toNat + (cols.length - 1 - x.toNat) = cols.length - 1 by omega]; exact h4)
  have ha := g.good.all c (List.mem_of_getElem? hc)
  rw [h5]
  refine ⟨h0, by omega, ?_, ?_⟩ <;> simp only <;> omega
/-- no dead ends -/
theorem Reg.step (g : Reg cols) {s : Int × Int} (h : opn cols s.1 s.2 = true) (hn : s ≠ endP cols) : stepsP cols s ≠ [] := by
  obtain ⟨h0, c, hc, h1, h2⟩ := opn_iff.mp h
  obtain ⟨x, y⟩ := s
  simp only at *
  have hl := (List.getElem?_eq_some_iff.mp hc).1
  by_cases hy : y < c.2
  · have : opn cols x (y + 1) = true := opn_iff.mpr ⟨h0, c, hc, by omega, by omega⟩
    intro z
    have := (mem_steps (cols := cols) (s := (x, y)) (c := 82)).mpr ⟨.inr rfl, this⟩
    rw [z] at this; exact nomatch this
  · have hyc : y = c.2 := by omega
    by_cases hx : x.toNat + 1 < cols.length
    · obtain ⟨d, hd⟩ : ∃ d, cols[x.toNat + 1]? = some d := ⟨cols[x.toNat + 1], List.getElem?_eq_getElem hx⟩
      have hnx := g.good.nxt _ _ _ hc hd
      have : opn cols (x + 1) y = true := opn_iff.mpr ⟨by omega, d, by rw [show (x + 1).toNat = x.toNat + 1 by omega]; exact hd, by omega, by omega⟩
      intro z
      have := (mem_steps (cols := cols) (s := (x, y)) (c := 76)).mpr ⟨.inl rfl, this⟩
      rw [z] at this; exact nomatch this
    · exfalso
      obtain ⟨e, h3, h4, h5⟩ := g.last
      have hxe : x.toNat = cols.length - 1 := by omega
      rw [hxe, h4] at hc
      cases hc
      exact hn (by rw [h5, hyc]; congr 1; omega)
theorem spX_last : ∀ {cols : Cols} {n : Int} {c : Int × Int}, cols.getLast? = some c → c.1 ≤ c.2 → (spX n cols).getLast? = some (n + cols.length - 1, c.2)
  | [], _, _, h, _ => by simp at h
  | [d], n, c, h, hc => by
    simp at h; subst h
    simp only [spX, List.append_nil, rngI_snoc hc, List.map_append, List.map_cons, List.map_nil, List.getLast?_append, List.getLast?_singleton, Option.some_or, List.length_cons, List.length_nil]
    congr 2; omega
  | d :: e :: r, n, c, h, hc => by
    have ih := spX_last (cols := e :: r) (n := n + 1) (c := c) (by simpa using h) hc
    rw [spX, List.getLast?_append, ih, Option.some_or, List.length_cons, List.length_cons]
    congr 2
    rw [List.length_cons]
    omega
theorem Reg.spans_last (g : Reg cols) : (spansP cols).getLast? = some (endP cols) := by
  obtain ⟨c, h1, h2, h3⟩ := g.last
  rw [h3]
  have := spX_last (n := 0) h1 (g.good.all c (List.mem_of_getElem? h2)).2.1
  unfold spansP
  rw [this]
  congr 2
  omega
/-- how many rooms are entered -/
theorem Reg.end_sum (g : Reg cols) : 0 ≤ (endP cols).1 ∧ (endP cols).1 ≤ 59 ∧ 0 ≤ (endP cols).2 ∧ (endP cols).2 ≤ 59 := by
  obtain ⟨c, h1, h2, h3⟩ := g.last
  have := g.good.all c (List.mem_of_getElem? h2)
  have h4 := g.pos
  have h5 := g.len
  rw [h3]
  simp only
  omega
theorem Wk.open_last {cols : Cols} : ∀ {w : List Nat} {s t : Int × Int}, Wk cols s w t → opn cols s.1 s.2 = true → opn cols t.1 t.2 = true
  | [], s, t, h, ho => by rw [show s = t from h] at ho; exact ho
  | c :: r, s, t, h, _ => Wk.open_last (w := r) h.2.2 h.2.1
theorem Reg.word_len (g : Reg cols) {w : List Nat} {t : Int × Int} (h : Wk cols (0, 0) w t) : w.length ≤ 118 ∧ 0 ≤ t.1 ∧ 0 ≤ t.2 ∧ t.1 ≤ 59 ∧ t.2 ≤ 59 ∧ t.1 + t.2 = w.length := by
  have h1 := last_sum w (0, 0)
  rw [h.last] at h1
  have h2 := g.le_end (h.open_last g.start_open)
  have h3 := g.end_sum
  simp only at h1
  omega
end
end VI
namespace VI
@[simp] theorem V_inco (s : Int × Int) (l : List (Int × Int)) : cmpD .in_ (.v (cD s)) (.o (.lst (l.map cD))) = some (decide (s ∈ l)) := by
  have h := dpts_cD l
  show (if min (dpt (cD s)) (dpts (l.map cD)) ≤ 60 then some (inSeq (cD s) (l.map cD)) else none) = _
  rw [if_pos (by rw [dpt_cD]; omega), inSeq_cD]
@[simp] theorem V_incv (s : Int × Int) (l : List (Int × Int)) : cmpD .in_ (.v (cD s)) (.v (.lst (l.map cD))) = some (decide (s ∈ l)) := by
  have h := dpts_cD l
  show (if min (dpt (cD s)) (dpts (l.map cD)) ≤ 60 then some (inSeq (cD s) (l.map cD)) else none) = _
  rw [if_pos (by rw [dpt_cD]; omega), inSeq_cD]
@[simp] theorem V_ninco (s : Int × Int) (l : List (Int × Int)) : cmpD .nin (.v (cD s)) (.o (.lst (l.map cD))) = some (!decide (s ∈ l)) := by
  have h := V_inco s l
  show (inD (.v (cD s)) (.o (.lst (l.map cD)))).map (!·) = _
  rw [show inD (.v (cD s)) (.o (.lst (l.map cD))) = _ from h]; rfl
@[simp] theorem V_nincv (s : Int × Int) (l : List (Int × Int)) : cmpD .nin (.v (cD s)) (.v (.lst (l.map cD))) = some (!decide (s ∈ l)) := by
  have h := V_incv s l
  show (inD (.v (cD s)) (.v (.lst (l.map cD)))).map (!·) = _
  rw [show inD (.v (cD s)) (.v (.lst (l.map cD))) = _ from h]; rfl
@[simp] theorem V_ins (c : Nat) (t : List Nat) : cmpD .in_ (.v (.str [c])) (.v (.str t)) = some (decide (c ∈ t)) := rfl
@[simp] theorem V_nins (c : Nat) (t : List Nat) : cmpD .nin (.v (.str [c])) (.v (.str t)) = some (!decide (c ∈ t)) := rfl
theorem atD_lastm {α : Type} {xs : List α} {a : α} (h : xs.getLast? = some a) : atD xs (-1) = some a := atD_last h
/-- rooms by the walk: what is entered -/
def roomOf (s : Int × Int) (c : Nat) : Int := if c = 76 then 0 - s.1 - 1 else s.2 + 1
def roomsX : Int × Int → List Nat → List Int
  | _, [] => []
  | s, c :: r => roomOf s c :: roomsX (afterP s c) r
def roomsP (w : List Nat) : List Int := 0 :: roomsX (0, 0) w
theorem roomsX_len : ∀ (w : List Nat) (s : Int × Int), (roomsX s w).length = w.length
  | [], _ => rfl
  | c :: r, s => by rw [roomsX, List.length_cons, roomsX_len r, List.length_cons]
theorem roomsX_snoc : ∀ (w : List Nat) (s : Int × Int) (c : Nat), roomsX s (w ++ [c]) = roomsX s w ++ [roomOf (lastX s w) c]
  | [], s, c => rfl
  | d :: r, s, c => by
    rw [List.cons_append, roomsX, roomsX_snoc r, roomsX]; rfl
/-- the signs of a text as values -/
abbrev chD (w : List Nat) : List D := w.map fun c => D.str [c]
end VI
/-! dicts whose keys are spans -/
namespace VI
def kP (s : Int × Int) : List K1 := [.inl s.1, .inl s.2]
theorem kP_inj {a b : Int × Int} : kP a = kP b ↔ a = b := by
  obtain ⟨a1, a2⟩ := a
  obtain ⟨b1, b2⟩ := b
  simp [kP]
@[simp] theorem V_kc (s : Int × Int) : keyT (.v (cD s)) = some (kP s) := rfl
def mkD (l : List (Int × Int)) (v : Int × Int → D) : List (List K1 × D) := l.map fun s => (kP s, v s)
theorem look_mkD (v : Int × Int → D) (s : Int × Int) : ∀ l : List (Int × Int), look (mkD l v) (kP s) = if s ∈ l then some (v s) else none
  | [] => rfl
  | x :: l => by
    have ih := look_mkD v s l
    unfold look mkD at ih ⊢
    rw [List.map_cons, List.find?_cons]
    by_cases h : x = s
    · subst h; simp
    · have h' : ¬ s = x := fun z => h z.symm
      simp only [kP_inj, h, decide_false]
      rw [ih]
      simp [h']
theorem put_mkD (v : Int × Int → D) (s : Int × Int) (d : D) (l : List (Int × Int)) (h : s ∉ l) : put (mkD l v) (kP s) d = mkD l v ++ [(kP s, d)] := by
  unfold put
  rw [if_neg]
  intro z
  rw [List.any_eq_true] at z
  obtain ⟨p, hp, he⟩ := z
  unfold mkD at hp
  obtain ⟨x, hx, rfl⟩ := List.mem_map.mp hp
  have := kP_inj.mp (of_decide_eq_true he)
  rw [this] at hx; exact h hx
theorem mkD_snoc (v : Int × Int → D) (s : Int × Int) (l : List (Int × Int)) : mkD (l ++ [s]) v = mkD l v ++ [(kP s, v s)] := by simp [mkD]
theorem mkD_len (v : Int × Int → D) (l : List (Int × Int)) : (mkD l v).length = l.length := by simp [mkD]
theorem mkD_congr {v v' : Int × Int → D} {l : List (Int × Int)} (h : ∀ s ∈ l, v s = v' s) : mkD l v = mkD l v' := List.map_congr_left fun s hs => by rw [h s hs]
def ltP (a b : Int × Int) : Prop := a.1 < b.1 ∨ (a.1 = b.1 ∧ a.2 < b.2)
theorem ltP_asymm {a b : Int × Int} (h : ltP a b) : ¬ ltP b a := by unfold ltP at *; omega
theorem ltP_irrefl {a : Int × Int} : ¬ ltP a a := by unfold ltP; omega
theorem rngI_sorted : ∀ (n : Nat) (i j : Int), (j - i).toNat = n → (rngI i j).Pairwise (· < ·)
  | 0, i, j, h => by rw [rngI_nil (by omega)]; exact .nil
  | n + 1, i, j, h => by
    rw [rngI_cons (by omega)]
    refine .cons (fun x hx => ?_) (rngI_sorted n (i + 1) j (by omega))
    rw [mem_rngI] at hx; omega
theorem spX_sorted : ∀ (cols : Cols) (n : Int), (spX n cols).Pairwise ltP
  | [], n => .nil
  | c :: r, n => by
    rw [spX, List.pairwise_append]
    refine ⟨?_, spX_sorted r (n + 1), ?_⟩
    · rw [List.pairwise_map]
      exact (rngI_sorted _ c.1 (c.2 + 1) rfl).imp fun h => .inr ⟨rfl, h⟩
    · intro a ha b hb
      obtain ⟨y, _, rfl⟩ := List.mem_map.mp ha
      obtain ⟨h1, _⟩ := mem_spX.mp hb
      exact .inl (by simp only; omega)
theorem spans_sorted (cols : Cols) : (spansP cols).Pairwise ltP := spX_sorted cols 0
theorem spans_nodup (cols : Cols) : (spansP cols).Nodup := (spans_sorted cols).imp fun h z => by subst z; exact ltP_irrefl h
/-- what is less stands ahead -/
theorem take_of_lt {l : List (Int × Int)} (hs : l.Pairwise ltP) {i : Nat} {s t : Int × Int} (hi : l[i]? = some s) (ht : t ∈ l) (h : ltP t s) : t ∈ l.take i := by
  obtain ⟨j, hj⟩ := List.getElem?_of_mem ht
  have hjl := (List.getElem?_eq_some_iff.mp hj).1
  have hil := (List.getElem?_eq_some_iff.mp hi).1
  have hlt : j < i := by
    rcases Nat.lt_trichotomy j i with q | q | q
    · exact q
    · subst q; rw [hi] at hj; cases hj; exact (ltP_irrefl h).elim
    · have := List.pairwise_iff_getElem.mp hs i j hil hjl q
      rw [(List.getElem?_eq_some_iff.mp hi).2, (List.getElem?_eq_some_iff.mp hj).2] at this
      exact (ltP_asymm h this).elim
  exact List.mem_of_getElem? (i := j) (by rw [List.getElem?_take_of_lt hlt]; exact hj)
/-- .. and behind, from the back -/
theorem take_rev_of_gt {l : List (Int × Int)} (hs : l.Pairwise ltP) {i : Nat} {s t : Int × Int} (hi : l.reverse[i]? = some s) (ht : t ∈ l) (h : ltP s t) : t ∈ l.reverse.take i := by
  obtain ⟨j, hj⟩ := List.getElem?_of_mem (List.mem_reverse.mpr ht)
  have hjl := (List.getElem?_eq_some_iff.mp hj).1
  have hil := (List.getElem?_eq_some_iff.mp hi).1
  have hs' : l.reverse.Pairwise (fun a b => ltP b a) := List.pairwise_reverse.mpr hs
  have hlt : j < i := by
    rcases Nat.lt_trichotomy j i with q | q | q
    · exact q
    · subst q; rw [hi] at hj; cases hj; exact (ltP_irrefl h).elim
    · have := List.pairwise_iff_getElem.mp hs' i j hil hjl q
      rw [(List.getElem?_eq_some_iff.mp hi).2, (List.getElem?_eq_some_iff.mp hj).2] at this
      exact (ltP_asymm h this).elim
  exact List.mem_of_getElem? (i := j) (by rw [List.getElem?_take_of_lt hlt]; exact hj)
theorem ltP_after (s : Int × Int) (c : Nat) : ltP s (afterP s c) := by
  by_cases h : c = 76
  · subst h; exact .inl (by simp only [after_L]; omega)
  · have : afterP s c = (s.1, s.2 + 1) := if_neg h
    rw [this]; exact .inr ⟨rfl, by simp only; omega⟩
theorem nodup_rev {α : Type} {l : List α} (h : l.Nodup) : l.reverse.Nodup := List.pairwise_reverse.mpr (h.imp fun h z => h z.symm)
theorem nodup_take {α : Type} {l : List α} (h : l.Nodup) {i : Nat} {s : α} (hi : l[i]? = some s) : s ∉ l.take i := by
  intro hm
  obtain ⟨j, hj⟩ := List.getElem?_of_mem hm
  have hjl := (List.getElem?_eq_some_iff.mp hj).1
  rw [List.length_take] at hjl
  rw [List.getElem?_take_of_lt (by omega)] at hj
  have hil := (List.getElem?_eq_some_iff.mp hi).1
  have hjl' := (List.getElem?_eq_some_iff.mp hj).1
  have := List.pairwise_iff_getElem.mp h j i hjl' hil (by omega)
  rw [(List.getElem?_eq_some_iff.mp hi).2, (List.getElem?_eq_some_iff.mp hj).2] at this
  exact this rfl
end VI
namespace VI
@[simp] theorem V_lenr (cols : Cols) : bD "len" [.v (regD cols)] = some (.v (.int cols.length)) := by simp [regD]
theorem V_ixr {cols : Cols} {c : Int × Int} (h : cols.getLast? = some c) : ixD (.v (regD cols)) (.v (.int (-1))) = some (.v (.tup [.int c.1, .int c.2])) := by
  have : atD (cols.map cD) (-1) = some (cD c) := atD_last (by rw [List.getLast?_map, h]; rfl)
  simp [regD, this]; rfl
abbrev Vs (x : Slot) : Prop := x = .no ∨ ∃ d, x = .val d
end VI

set_option Elab.async false
set_option linter.all false
set_option maxRecDepth 100000
set_option maxHeartbeats 4000000
set_option autoImplicit false
/-! VQ: plays: how many, all of them. -/
namespace VI
def rem (cols : Cols) (s : Int × Int) : Nat := ((endP cols).1 + (endP cols).2 - s.1 - s.2).toNat
theorem rem_after {cols : Cols} (g : Reg cols) {s : Int × Int} {c : Nat} (h : opn cols (afterP s c).1 (afterP s c).2 = true) : rem cols s = rem cols (afterP s c) + 1 := by
  have h1 := g.le_end h
  have h2 := after_sum s c
  unfold rem
  omega
theorem steps_len (cols : Cols) (s : Int × Int) : (stepsP cols s).length ≤ 2 := by
  unfold stepsP
  rw [List.length_append]
  split <;> split <;> simp
/-- the number of plays from a span on -/
def nF (cols : Cols) : Nat → Int × Int → Nat
  | 0, _ => 0
  | n + 1, s => if s = endP cols then 1 else ((stepsP cols s).map fun c => nF cols n (afterP s c)).sum
def nP (cols : Cols) (s : Int × Int) : Nat := nF cols (rem cols s + 1) s
theorem nP_eq {cols : Cols} (g : Reg cols) (s : Int × Int) : nP cols s = if s = endP cols then 1 else ((stepsP cols s).map fun c => nP cols (afterP s c)).sum := by
  unfold nP
  rw [nF]
  split
  · rfl
  · congr 1
    apply List.map_congr_left
    intro c hc
    rw [rem_after g (mem_steps.mp hc).2]
theorem nP_end {cols : Cols} (g : Reg cols) : nP cols (endP cols) = 1 := by rw [nP_eq g, if_pos rfl]
theorem steps_end {cols : Cols} (g : Reg cols) : stepsP cols (endP cols) = [] := by
  cases h : stepsP cols (endP cols) with
  | nil => rfl
  | cons c r =>
    have h1 := (mem_steps.mp (by rw [h]; exact List.mem_cons_self ..) : (c = 76 ∨ c = 82) ∧ opn cols (afterP (endP cols) c).1 (afterP (endP cols) c).2 = true)
    have h2 := g.le_end h1.2
    have h3 := after_sum (endP cols) c
    omega
/-- as the table is filled -/
theorem nP_two {cols : Cols} (g : Reg cols) (s : Int × Int) : (nP cols s : Int) = if s = endP cols then 1 else (if opn cols (s.1 + 1) s.2 = true then (nP cols (s.1 + 1, s.2) : Int) else 0) + (if opn cols s.1 (s.2 + 1) = true then (nP cols (s.1, s.2 + 1) : Int) else 0) := by
  rw [nP_eq g]
  split
  · rfl
  · unfold stepsP
    by_cases h : opn cols (s.1 + 1) s.2 = true <;> by_cases h' : opn cols s.1 (s.2 + 1) = true <;> simp [h, h']
theorem nP_pos {cols : Cols} (g : Reg cols) : ∀ (n : Nat) (s : Int × Int), rem cols s ≤ n → opn cols s.1 s.2 = true → 0 < nP cols s
  | n, s, hn, ho => by
    rw [nP_eq g]
    split
    · decide
    · rename_i hs
      have hst := g.step ho hs
      cases h : stepsP cols s with
      | nil => exact (hst h).elim
      | cons c r =>
        have hc := (mem_steps.mp (by rw [h]; exact List.mem_cons_self ..) : (c = 76 ∨ c = 82) ∧ opn cols (afterP s c).1 (afterP s c).2 = true)
        have hr := rem_after g hc.2
        cases n with
        | zero => omega
        | succ n =>
          have := nP_pos g n (afterP s c) (by omega) hc.2
          rw [List.map_cons, List.sum_cons]
          omega
/-- the walks of so many steps, in order -/
def levP (cols : Cols) : Nat → List (List Nat × (Int × Int))
  | 0 => [([], (0, 0))]
  | n + 1 => (levP cols n).flatMap fun p => (stepsP cols p.2).map fun c => (p.1 ++ [c], afterP p.2 c)
theorem mem_lev {cols : Cols} : ∀ {n : Nat} {w : List Nat} {s : Int × Int}, (w, s) ∈ levP cols n ↔ w.length = n ∧ Wk cols (0, 0) w s
  | 0, w, s => by
    simp only [levP, List.mem_singleton, Prod.mk.injEq]
    constructor
    · rintro ⟨rfl, rfl⟩; exact ⟨rfl, rfl⟩
    · rintro ⟨h1, h2⟩
      have : w = [] := List.length_eq_zero_iff.mp h1
      subst this; exact ⟨rfl, h2.symm⟩
  | n + 1, w, s => by
    simp only [levP, List.mem_flatMap, List.mem_map, Prod.mk.injEq]
    constructor
    · rintro ⟨⟨v, t⟩, h1, c, h2, rfl, rfl⟩
      obtain ⟨h3, h4⟩ := mem_lev.mp h1
      obtain ⟨h5, h6⟩ := mem_steps.mp h2
      exact ⟨by simp [h3], h4.snoc h5 h6⟩
    · rintro ⟨h1, h2⟩
      obtain ⟨v, c, rfl⟩ : ∃ v c, w = v ++ [c] := ⟨w.dropLast, w.getLast (fun z => by rw [z] at h1; simp at h1), (List.dropLast_concat_getLast _).symm⟩
      obtain ⟨h3, h4⟩ := Wk.append h2
      refine ⟨(v, lastX (0, 0) v), mem_lev.mpr ⟨by simpa using h1, h3⟩, c, ?_, rfl, ?_⟩
      · exact mem_steps.mpr ⟨h4.1, h4.2.1⟩
      · exact h4.2.2
def listP (cols : Cols) : List (List Nat) := (levP cols ((endP cols).1 + (endP cols).2).toNat).map (·.1)
theorem sum_flat {α : Type} (f : α → List Nat) : ∀ l : List α, (l.flatMap f).sum = (l.map fun a => (f a).sum).sum
  | [] => rfl
  | x :: l => by rw [List.flatMap_cons, List.sum_append, sum_flat f l]; rfl
theorem lev_sum {cols : Cols} (g : Reg cols) : ∀ n : Nat, n ≤ ((endP cols).1 + (endP cols).2).toNat → ((levP cols n).map fun p => nP cols p.2).sum = nP cols (0, 0)
  | 0, _ => by simp [levP]
  | n + 1, hn => by
    rw [← lev_sum g n (by omega), levP, List.map_flatMap, sum_flat]
    congr 1
    apply List.map_congr_left
    rintro ⟨w, s⟩ hp
    obtain ⟨h1, h2⟩ := mem_lev.mp hp
    have h3 := g.word_len h2
    simp only [List.map_map, Function.comp_def]
    rw [nP_eq g s, if_neg]
    intro z
    rw [z] at h3
    omega
theorem lev_end {cols : Cols} (g : Reg cols) {w : List Nat} {s : Int × Int} (h : (w, s) ∈ levP cols ((endP cols).1 + (endP cols).2).toNat) : s = endP cols := by
  obtain ⟨h1, h2⟩ := mem_lev.mp h
  have h3 := g.word_len h2
  have h4 := g.le_end (h2.open_last g.start_open)
  obtain ⟨x, y⟩ := s
  have : endP cols = ((endP cols).1, (endP cols).2) := rfl
  rw [this]
  simp only at *
  congr 1 <;> omega
theorem listP_len {cols : Cols} (g : Reg cols) : (listP cols).length = nP cols (0, 0) := by
  have h := lev_sum g _ (Nat.le_refl _)
  rw [← h]
  unfold listP
  rw [List.length_map]
  have : ∀ l : List (List Nat × (Int × Int)), (∀ p ∈ l, nP cols p.2 = 1) → (l.map fun p => nP cols p.2).sum = l.length := by
    intro l
    induction l with
    | nil => intro _; rfl
    | cons x l ih =>
      intro h
      rw [List.map_cons, List.sum_cons, h x (List.mem_cons_self ..), ih fun p hp => h p (List.mem_cons_of_mem _ hp), List.length_cons]
      omega
  rw [this]
  rintro ⟨w, s⟩ hp
  rw [lev_end g hp]; exact nP_end g
theorem mem_listP {cols : Cols} (g : Reg cols) {w : List Nat} : w ∈ listP cols ↔ Wk cols (0, 0) w (endP cols) := by
  unfold listP
  rw [List.mem_map]
  constructor
  · rintro ⟨⟨v, s⟩, h, rfl⟩
    have h1 := lev_end g h
    obtain ⟨_, h2⟩ := mem_lev.mp h
    rw [h1] at h2; exact h2
  · intro h
    have h3 := g.word_len h
    exact ⟨(w, endP cols), mem_lev.mpr ⟨by omega, h⟩, rfl⟩
theorem lev_len {cols : Cols} : ∀ n : Nat, (levP cols n).length ≤ 2 ^ n
  | 0 => by simp [levP]
  | n + 1 => by
    have ih := lev_len (cols := cols) n
    rw [levP, List.length_flatMap]
    have : ∀ l : List (List Nat × (Int × Int)), (l.map fun a => ((stepsP cols a.2).map fun c => (a.1 ++ [c], afterP a.2 c)).length).sum ≤ 2 * l.length := by
      intro l
      induction l with
      | nil => simp
      | cons x l ih =>
        have := steps_len cols x.2
        rw [List.map_cons, List.sum_cons, List.length_map, List.length_cons]
        omega
    have := this (levP cols n)
    rw [Nat.pow_succ]
    omega
theorem lev_le {cols : Cols} (g : Reg cols) (n : Nat) (hn : n ≤ ((endP cols).1 + (endP cols).2).toNat) : (levP cols n).length ≤ nP cols (0, 0) := by
  rw [← lev_sum g n hn]
  have : ∀ l : List (List Nat × (Int × Int)), (∀ p ∈ l, 0 < nP cols p.2) → l.length ≤ (l.map fun p => nP cols p.2).sum := by
    intro l
    induction l with
    | nil => intro _; simp
    | cons x l ih =>
      intro h
      have h1 := h x (List.mem_cons_self ..)
      have h2 := ih fun p hp => h p (List.mem_cons_of_mem _ hp)
      rw [List.map_cons, List.sum_cons, List.length_cons]
      omega
  apply this
  rintro ⟨w, s⟩ hp
  exact nP_pos g _ s (Nat.le_refl _) ((mem_lev.mp hp).2.open_last g.start_open)
end VI
namespace VI
/-- the number of ways to a span -/
def aF (cols : Cols) : Nat → Int × Int → Nat
  | 0, _ => 0
  | n + 1, s => if s = (0, 0) then 1 else (if opn cols (s.1 - 1) s.2 = true then aF cols n (s.1 - 1, s.2) else 0) + (if opn cols s.1 (s.2 - 1) = true then aF cols n (s.1, s.2 - 1) else 0)
def aP (cols : Cols) (s : Int × Int) : Nat := aF cols ((s.1 + s.2).toNat + 1) s
theorem aP_two {cols : Cols} (g : Reg cols) (s : Int × Int) : (aP cols s : Int) = if s = (0, 0) then 1 else (if opn cols (s.1 - 1) s.2 = true then (aP cols (s.1 - 1, s.2) : Int) else 0) + (if opn cols s.1 (s.2 - 1) = true then (aP cols (s.1, s.2 - 1) : Int) else 0) := by
  unfold aP
  rw [aF]
  split
  · rfl
  · rename_i hs
    by_cases h : opn cols (s.1 - 1) s.2 = true
    · have h1 := g.le_end h
      have e1 : (s.1 + s.2).toNat = (s.1 - 1 + s.2).toNat + 1 := by omega
      by_cases h' : opn cols s.1 (s.2 - 1) = true
      · have e2 : (s.1 + s.2).toNat = (s.1 + (s.2 - 1)).toNat + 1 := by have := g.le_end h'; omega
        simp only [h, h', if_true]
        rw [← e1, ← e2]; omega
      · simp only [h, h', if_true, if_false]
        rw [← e1]; simp
    · by_cases h' : opn cols s.1 (s.2 - 1) = true
      · have e2 : (s.1 + s.2).toNat = (s.1 + (s.2 - 1)).toNat + 1 := by have := g.le_end h'; omega
        simp only [h, h', if_true]
        rw [← e2]; simp
      · simp [h, h']
theorem aF_le (cols : Cols) : ∀ (n : Nat) (s : Int × Int), aF cols n s ≤ 2 ^ n
  | 0, s => by simp [aF]
  | n + 1, s => by
    have h1 := aF_le cols n (s.1 - 1, s.2)
    have h2 := aF_le cols n (s.1, s.2 - 1)
    have h3 : 0 < 2 ^ n := Nat.pow_pos (by decide)
    rw [aF, Nat.pow_succ]
    split
    · omega
    · split <;> split <;> omega
end VI
namespace VI
theorem inSeq_str (v : List Nat) : ∀ l : List (List Nat), inSeq (.str v) (l.map .str) = decide (v ∈ l)
  | [] => by simp [inSeq]
  | x :: l => by
    have ih := inSeq_str v l
    unfold inSeq at ih ⊢
    rw [List.map_cons, List.any_cons, ih]
    by_cases h : x = v
    · subst h; simp [eqD]
    · have : ¬ v = x := fun z => h z.symm
      simp [eqD, h, this]
theorem dpts_str : ∀ l : List (List Nat), dpts (l.map .str) = 0
  | [] => rfl
  | x :: l => by simp [dpts, dpt, dpts_str l]
theorem inSeq_non : ∀ l : List (List Nat), inSeq .non (l.map .str) = false
  | [] => rfl
  | x :: l => by
    have ih := inSeq_non l
    unfold inSeq at ih ⊢
    rw [List.map_cons, List.any_cons, ih]; rfl
theorem inSeq_lst (ds : List D) : ∀ l : List (List Nat), inSeq (.lst ds) (l.map .str) = false
  | [] => rfl
  | x :: l => by
    have ih := inSeq_lst ds l
    unfold inSeq at ih ⊢
    rw [List.map_cons, List.any_cons, ih]; rfl
theorem in_strs (d : D) (l : List (List Nat)) : cmpD .in_ (.v d) (.o (.lst (l.map .str))) = some (inSeq d (l.map .str)) := by
  have h : (if min (dpt d) (dpts (l.map D.str)) ≤ 60 then some (inSeq d (l.map .str)) else none) = some (inSeq d (l.map .str)) := by
    rw [if_pos (by rw [dpts_str]; omega)]
  rw [← h]
  cases d <;> first | rfl | (rename_i s; rcases s with _ | ⟨c, _ | ⟨_, _⟩⟩ <;> rfl)
theorem wdDs_str : ∀ l : List (List Nat), wdDs (l.map .str) = 0
  | [] => rfl
  | x :: l => by simp [wdDs, wdD, wdDs_str l]
/-- signs joined -/
theorem join_chars : ∀ (w : List Nat), mD "join" (.v (.str [])) [.o (.lst (chD w))] = if w.length ≤ Lm then some (.v (.str w)) else none := by
  intro w
  have h1 : ∀ w : List Nat, strL (chD w) = some (w.map fun c => [c]) := fun w => by
    induction w with
    | nil => rfl
    | cons c w ih => show (strL (chD w)).map _ = _; rw [ih]; rfl
  have h2 : ∀ w : List Nat, ((w.map fun c => [c]).map (·.length)).sum = w.length := fun w => by
    induction w with
    | nil => rfl
    | cons c w ih => show 1 + ((w.map fun c => [c]).map (·.length)).sum = w.length + 1; rw [ih]; omega
  have h3 : ∀ w : List Nat, joinD [] (w.map fun c => [c]) = w := fun w => by
    induction w with
    | nil => rfl
    | cons c w ih =>
      cases w with
      | nil => rfl
      | cons d w => 
        have : joinD [] ([c] :: [d] :: w.map fun c => [c]) = [c] ++ ([] ++ joinD [] ([d] :: w.map fun c => [c])) := rfl
        rw [List.map_cons, List.map_cons, this]
        rw [List.map_cons] at ih
        rw [ih]; rfl
  show ((seqR (.o (.lst (chD w)))).bind fun ds => (strL ds).bind fun xs => if (xs.map (·.length)).sum + xs.length * ([] : List Nat).length ≤ Lm then some (Rt.v (.str (joinD [] xs))) else none) = _
  rw [V_so, Option.bind_some, h1, Option.bind_some, h2, h3]
  simp
end VI

set_option Elab.async false
set_option linter.all false
set_option maxRecDepth 100000
set_option maxHeartbeats 4000000
set_option autoImplicit false
/-! VR: places of plays. -/
namespace VI
/-- the plays that begin with L -/
def lfP (cols : Cols) (s : Int × Int) : Nat := if opn cols (s.1 + 1) s.2 = true then nP cols (s.1 + 1, s.2) else 0
def rankX (cols : Cols) : Int × Int → List Nat → Nat
  | _, [] => 0
  | s, c :: r => (if c = 82 then lfP cols s else 0) + rankX cols (afterP s c) r
def unrX (cols : Cols) : Nat → Int × Int → Nat → List Nat
  | 0, _, _ => []
  | n + 1, s, i => if s = endP cols then [] else if i < lfP cols s then 76 :: unrX cols n (s.1 + 1, s.2) i else 82 :: unrX cols n (s.1, s.2 + 1) (i - lfP cols s)
section
variable {cols : Cols}
theorem nP_split (g : Reg cols) {s : Int × Int} (h : s ≠ endP cols) : nP cols s = lfP cols s + if opn cols s.1 (s.2 + 1) = true then nP cols (s.1, s.2 + 1) else 0 := by
  have h1 := nP_two g s
  rw [if_neg h] at h1
  unfold lfP
  split <;> split <;> simp_all <;> omega
theorem wk_end (g : Reg cols) : ∀ {w : List Nat}, Wk cols (endP cols) w (endP cols) → w = []
  | [], _ => rfl
  | c :: r, h => by
    have := (mem_steps (cols := cols) (s := endP cols) (c := c)).mpr ⟨h.1, h.2.1⟩
    rw [steps_end g] at this
    exact nomatch this
theorem rank_lt (g : Reg cols) : ∀ {w : List Nat} {s : Int × Int}, Wk cols s w (endP cols) → rankX cols s w < nP cols s
  | [], s, h => by
    rw [show s = endP cols from h, nP_end g]; exact Nat.zero_lt_one
  | c :: r, s, h => by
    have ih := rank_lt g (w := r) h.2.2
    have hs : s ≠ endP cols := fun z => by
      subst z
      have := wk_end g h
      cases this
    rw [rankX, nP_split g hs]
    rcases h.1 with rfl | rfl
    · have ho := h.2.1
      simp only [after_L] at ho ih ⊢
      unfold lfP
      rw [if_pos ho]
      simp
      omega
    · have ho := h.2.1
      simp only [after_R] at ho ih ⊢
      rw [if_pos ho]; simp only [if_true]
      omega
theorem unr_spec (g : Reg cols) : ∀ (n : Nat) (s : Int × Int) (i : Nat), rem cols s ≤ n → opn cols s.1 s.2 = true → i < nP cols s → Wk cols s (unrX cols n s i) (endP cols) ∧ rankX cols s (unrX cols n s i) = i
  | 0, s, i, hn, ho, hi => by
    have hs : s = endP cols := by
      have h1 := g.le_end ho
      unfold rem at hn
      obtain ⟨x, y⟩ := s
      have : endP cols = ((endP cols).1, (endP cols).2) := rfl
      rw [this]
      simp only at *
      congr 1 <;> omega
    subst hs
    rw [nP_end g] at hi
    exact ⟨rfl, by rw [unrX, rankX]; omega⟩
  | n + 1, s, i, hn, ho, hi => by
    rw [unrX]
    by_cases hs : s = endP cols
    · rw [if_pos hs]
      subst hs
      rw [nP_end g] at hi
      exact ⟨rfl, by rw [rankX]; omega⟩
    · rw [if_neg hs]
      rw [nP_split g hs] at hi
      by_cases h1 : i < lfP cols s
      · rw [if_pos h1]
        have hl : opn cols (s.1 + 1) s.2 = true := by
          unfold lfP at h1; split at h1
          · assumption
          · omega
        have hr := rem_after g (s := s) (c := 76) hl
        obtain ⟨a, b⟩ := unr_spec g n (s.1 + 1, s.2) i (by simp only [after_L] at hr; omega) hl (by unfold lfP at h1; rw [if_pos hl] at h1; exact h1)
        exact ⟨⟨.inl rfl, hl, a⟩, by rw [rankX]; simp; exact b⟩
      · rw [if_neg h1]
        have hl : opn cols s.1 (s.2 + 1) = true := by
          by_cases q : opn cols s.1 (s.2 + 1) = true
          · exact q
          · rw [if_neg q] at hi; omega
        rw [if_pos hl] at hi
        have hr := rem_after g (s := s) (c := 82) hl
        obtain ⟨a, b⟩ := unr_spec g n (s.1, s.2 + 1) (i - lfP cols s) (by simp only [after_R] at hr; omega) hl (by omega)
        exact ⟨⟨.inr rfl, hl, a⟩, by rw [rankX, if_pos rfl, after_R, b]; omega⟩
theorem rank_inj (g : Reg cols) : ∀ {w w' : List Nat} {s : Int × Int}, Wk cols s w (endP cols) → Wk cols s w' (endP cols) → rankX cols s w = rankX cols s w' → w = w'
  | [], w', s, h, h', _ => by
    rw [show s = endP cols from h] at h'
    exact (wk_end g h').symm
  | c :: r, [], s, h, h', _ => by
    rw [show s = endP cols from h'] at h
    exact wk_end g h
  | c :: r, d :: q, s, h, h', e => by
    rw [rankX, rankX] at e
    have l1 := rank_lt g (w := r) h.2.2
    have l2 := rank_lt g (w := q) h'.2.2
    have k1 := h.2.1
    have k2 := h'.2.1
    rcases h.1 with rfl | rfl <;> rcases h'.1 with rfl | rfl
    · simp only [show (76 : Nat) ≠ 82 by decide, if_false, Nat.zero_add] at e
      rw [rank_inj g h.2.2 h'.2.2 e]
    · exfalso
      simp only [after_L] at l1 e k1
      unfold lfP at e
      rw [if_pos k1] at e
      simp at e
      omega
    · exfalso
      simp only [after_L] at l2 e k2
      unfold lfP at e
      rw [if_pos k2] at e
      simp at e
      omega
    · simp only [if_true] at e
      rw [rank_inj g h.2.2 h'.2.2 (by omega)]
theorem unr_rank (g : Reg cols) {w : List Nat} (h : Wk cols (0, 0) w (endP cols)) : unrX cols (rem cols (0, 0)) (0, 0) (rankX cols (0, 0) w) = w := by
  obtain ⟨a, b⟩ := unr_spec g (rem cols (0, 0)) (0, 0) (rankX cols (0, 0) w) (Nat.le_refl _) g.start_open (rank_lt g h)
  exact rank_inj g a h b
theorem rank_lex (g : Reg cols) : ∀ {w w' : List Nat} {s : Int × Int}, Wk cols s w (endP cols) → Wk cols s w' (endP cols) → (w < w' ↔ rankX cols s w < rankX cols s w')
  | [], w', s, h, h' => by
    rw [show s = endP cols from h] at h'
    rw [wk_end g h']
    simp
  | c :: r, [], s, h, h' => by
    rw [show s = endP cols from h'] at h
    have := wk_end g h
    cases this
  | c :: r, d :: q, s, h, h' => by
    rw [rankX, rankX, List.cons_lt_cons_iff]
    have l1 := rank_lt g (w := r) h.2.2
    have l2 := rank_lt g (w := q) h'.2.2
    have k1 := h.2.1
    have k2 := h'.2.1
    rcases h.1 with rfl | rfl <;> rcases h'.1 with rfl | rfl
    · have ih := rank_lex g h.2.2 h'.2.2
      simp only [show (76 : Nat) ≠ 82 by decide, if_false, Nat.zero_add, Nat.lt_irrefl, true_and, false_or]
      exact ih
    · simp only [after_L] at l1 k1
      have : lfP cols s = nP cols (s.1 + 1, s.2) := by unfold lfP; rw [if_pos k1]
      simp only [after_L, if_true, show (76 : Nat) ≠ 82 by decide, if_false]
      constructor
      · intro _; omega
      · intro _; exact .inl (by decide)
    · simp only [after_L] at l2 k2
      have : lfP cols s = nP cols (s.1 + 1, s.2) := by unfold lfP; rw [if_pos k2]
      simp only [after_L, if_true, show (76 : Nat) ≠ 82 by decide, if_false]
      constructor
      · rintro (z | ⟨z, _⟩)
        · exact absurd z (by decide)
        · exact absurd z (by decide)
      · intro z; omega
    · have ih := rank_lex g h.2.2 h'.2.2
      simp only [if_true, Nat.lt_irrefl, true_and, false_or]
      rw [ih]; omega
theorem rank_append : ∀ (a b : List Nat) (s : Int × Int), rankX cols s (a ++ b) = rankX cols s a + rankX cols (lastX s a) b
  | [], b, s => by simp [rankX, lastX]
  | c :: r, b, s => by
    rw [List.cons_append, rankX, rank_append r b, rankX]
    show _ = _ + rankX cols (lastX (afterP s c) r) b
    omega
/-- no place where R could stand for L -/
def MaxW (cols : Cols) : Int × Int → List Nat → Prop
  | _, [] => True
  | s, c :: r => (c = 76 → ¬ opn cols s.1 (s.2 + 1) = true) ∧ MaxW cols (afterP s c) r
theorem max_rank (g : Reg cols) : ∀ {w : List Nat} {s : Int × Int}, Wk cols s w (endP cols) → MaxW cols s w → rankX cols s w + 1 = nP cols s
  | [], s, h, _ => by rw [show s = endP cols from h, nP_end g]; rfl
  | c :: r, s, h, hm => by
    have ih := max_rank g (w := r) h.2.2 hm.2
    have hs : s ≠ endP cols := fun z => by
      subst z
      have := wk_end g h
      cases this
    have k1 := h.2.1
    rw [rankX, nP_split g hs]
    rcases h.1 with rfl | rfl
    · have hn := hm.1 rfl
      simp only [after_L] at ih k1 ⊢
      rw [if_neg hn]
      unfold lfP
      rw [if_pos k1]
      simp; omega
    · simp only [after_R] at ih k1 ⊢
      rw [if_pos k1]; simp only [if_true]
      omega
theorem max_append : ∀ {a b : List Nat} {s : Int × Int}, MaxW cols s (a ++ b) ↔ MaxW cols s a ∧ MaxW cols (lastX s a) b
  | [], b, s => by simp [MaxW, lastX]
  | c :: r, b, s => by
    show (_ ∧ MaxW cols (afterP s c) (r ++ b)) ↔ (_ ∧ MaxW cols (afterP s c) r) ∧ MaxW cols (lastX (afterP s c) r) b
    rw [max_append (a := r)]
    constructor
    · rintro ⟨a, b, c⟩; exact ⟨⟨a, b⟩, c⟩
    · rintro ⟨⟨a, b⟩, c⟩; exact ⟨a, b, c⟩
/-- the first step is taken each time -/
theorem low_rank (s : Int × Int) {c : Nat} {r : List Nat} (h : stepsP cols s = c :: r) : (if c = 82 then lfP cols s else 0) = 0 := by
  split
  · rename_i hc
    subst hc
    unfold stepsP at h
    unfold lfP
    split at h
    · simp at h
    · rename_i q; rw [if_neg q]
  · rfl
end
theorem cons_lt_append {a b : Nat} : ∀ {w v : List Nat}, w < v → w.length = v.length → w ++ [a] < v ++ [b]
  | [], [], h, _ => absurd h (by simp)
  | [], _ :: _, _, h => by simp at h
  | _ :: _, [], _, h => by simp at h
  | c :: w, d :: v, h, hl => by
    rw [List.cons_append, List.cons_append, List.cons_lt_cons_iff]
    rw [List.cons_lt_cons_iff] at h
    rcases h with h | ⟨h1, h2⟩
    · exact .inl h
    · exact .inr ⟨h1, cons_lt_append h2 (by simpa using hl)⟩
theorem app_lt {c d : Nat} (h : c < d) : ∀ w : List Nat, w ++ [c] < w ++ [d]
  | [] => by rw [List.nil_append, List.nil_append, List.cons_lt_cons_iff]; exact .inl h
  | x :: w => by rw [List.cons_append, List.cons_append, List.cons_lt_cons_iff]; exact .inr ⟨rfl, app_lt h w⟩
theorem lev_sorted (cols : Cols) : ∀ n : Nat, ((levP cols n).map (·.1)).Pairwise (· < ·)
  | 0 => by simp [levP]
  | n + 1 => by
    have ih := lev_sorted cols n
    rw [levP, List.map_flatMap]
    rw [List.pairwise_map] at ih
    have key : ∀ l : List (List Nat × (Int × Int)), l.Pairwise (fun a b => a.1 < b.1) → (∀ p ∈ l, p.1.length = n) → (l.flatMap fun p => ((stepsP cols p.2).map fun c => (p.1 ++ [c], afterP p.2 c)).map (·.1)).Pairwise (· < ·) := by
      intro l
      induction l with
      | nil => intro _ _; simp
      | cons x l ih2 =>
        intro h hl
        rw [List.flatMap_cons, List.pairwise_append]
        cases h with
        | cons h1 h2 =>
          refine ⟨?_, ih2 h2 fun p hp => hl p (List.mem_cons_of_mem _ hp), ?_⟩
          · unfold stepsP
            split <;> split <;> simp
            exact app_lt (by decide) _
          · intro a ha b hb
            rw [List.map_map] at ha
            obtain ⟨c, _, rfl⟩ := List.mem_map.mp ha
            obtain ⟨p, hp, hb⟩ := List.mem_flatMap.mp hb
            rw [List.map_map] at hb
            obtain ⟨d, _, rfl⟩ := List.mem_map.mp hb
            exact cons_lt_append (h1 p hp) (by rw [hl x (List.mem_cons_self ..), hl p (List.mem_cons_of_mem _ hp)])
    refine key _ ih fun p hp => ?_
    exact (mem_lev (w := p.1) (s := p.2)).mp hp |>.1
theorem listP_sorted (cols : Cols) : (listP cols).Pairwise (· < ·) := lev_sorted cols _
/-- a rising list of so many numbers below that many -/
theorem rise_all : ∀ (l : List Nat) (k : Nat), l.Pairwise (· < ·) → (∀ x ∈ l, k ≤ x ∧ x < k + l.length) → ∀ (i x : Nat), l[i]? = some x → x = k + i
  | [], k, _, _, i, x, h => by simp at h
  | y :: l, k, hp, hb, i, x, h => by
    cases hp with
    | cons h1 h2 =>
      have hy := hb y (List.mem_cons_self ..)
      have hyk : y = k := by
        cases l with
        | nil => simp at hy; omega
        | cons z l =>
          -- all of l lie above y and below the bound
          have hlen : ∀ (l : List Nat) (m : Nat), l.Pairwise (· < ·) → (∀ x ∈ l, m < x ∧ x < k + (z :: l).length + 1) → True := fun _ _ _ _ => trivial
          have cnt : ∀ (l : List Nat) (m : Nat), l.Pairwise (· < ·) → (∀ x ∈ l, m < x) → ∀ t ∈ l.getLast?, m + l.length ≤ t := by
            intro l
            induction l with
            | nil => intro m _ _ t ht; simp at ht
            | cons a l ih =>
              intro m hp hm t ht
              cases hp with
              | cons q1 q2 =>
                cases l with
                | nil => simp at ht; subst ht; have := hm a (List.mem_cons_self ..); simp; omega
                | cons b l =>
                  have := ih a q2 q1 t (by simpa using ht)
                  have h5 := hm a (List.mem_cons_self ..)
                  simp only [List.length_cons] at this ⊢
                  omega
          obtain ⟨t, ht⟩ : ∃ t, (z :: l).getLast? = some t := ⟨_, List.getLast?_eq_some_getLast (by simp)⟩
          have c1 := cnt (z :: l) y h2 h1 t ht
          have c2 := hb t (List.mem_cons_of_mem _ (List.mem_of_getLast? ht))
          simp only [List.length_cons] at c1 c2
          omega
      subst hyk
      cases i with
      | zero => simp at h; omega
      | succ i =>
        have := rise_all l (y + 1) h2 (fun x hx => by
          have a := h1 x hx
          have b := hb x (List.mem_cons_of_mem _ hx)
          simp only [List.length_cons] at b
          omega) i x (by simpa using h)
        omega
theorem listP_rank {cols : Cols} (g : Reg cols) {i : Nat} {w : List Nat} (h : (listP cols)[i]? = some w) : rankX cols (0, 0) w = i := by
  have hs : ((listP cols).map (rankX cols (0, 0))).Pairwise (· < ·) := by
    rw [List.pairwise_map]
    refine (listP_sorted cols).imp_of_mem fun ha hb hab => ?_
    exact (rank_lex g ((mem_listP g).mp ha) ((mem_listP g).mp hb)).mp hab
  have := rise_all _ 0 hs (fun x hx => by
    obtain ⟨v, hv, rfl⟩ := List.mem_map.mp hx
    have := rank_lt g ((mem_listP g).mp hv)
    rw [List.length_map, listP_len g]
    omega) i (rankX cols (0, 0) w) (by rw [List.getElem?_map, h]; rfl)
  omega
end VI
namespace VI
theorem cut_take {α : Type} (w : List α) (p : Nat) : cutD w none (some (p : Int)) = w.take p := by
  unfold cutD sIxD
  simp only
  rw [if_neg (by omega)]
  simp
theorem rngD_get {i j : Int} {n : Nat} {d : D} (h : (rngD i j)[n]? = some d) : d = .int (i - n) ∧ (n : Int) < i - j := by
  unfold rngD at h
  rw [List.getElem?_map] at h
  obtain ⟨m, hm, rfl⟩ := Option.map_eq_some_iff.mp h
  obtain ⟨h1, h2⟩ := List.getElem?_eq_some_iff.mp hm
  rw [List.getElem_range] at h2
  rw [List.length_range] at h1
  subst h2
  exact ⟨rfl, by omega⟩
theorem rngD_len (i j : Int) : (rngD i j).length = (i - j).toNat := by unfold rngD; rw [List.length_map, List.length_range]
theorem rank_snoc (cols : Cols) (w : List Nat) (s : Int × Int) (c : Nat) : rankX cols s (w ++ [c]) = rankX cols s w + if c = 82 then lfP cols (lastX s w) else 0 := by
  rw [rank_append, rankX, rankX]
  omega
theorem lfP_int (cols : Cols) (s : Int × Int) : (if opn cols (s.1 + 1) s.2 = true then (nP cols (s.1 + 1, s.2) : Int) else 0) = (lfP cols s : Int) := by
  unfold lfP; split <;> rfl
end VI

set_option Elab.async false
set_option linter.all false
set_option maxRecDepth 100000
set_option maxHeartbeats 4000000
set_option autoImplicit false
namespace VI
theorem leD_eq (a b : D) : leD a b = !ltD b a := rfl
theorem leD_tt : PySem.W.TotalLe leD := PySem.W.sortLe_total (PyProof.Rows.listOrd PyProof.Rows.itemOrd) false (fun b => PySem.W.keyToks (toPy b))
theorem leDtr {a b c : D} (h : leD a b = true) (h' : leD b c = true) : leD a c = true := leD_tt.trans a b c h h'
theorem leDto (a b : D) : leD a b = true ∨ leD b a = true := leD_tt.total a b
theorem leDre (a : D) : leD a a = true := (leDto a a).elim id id
theorem leD_anti {a b : D} (h : leD a b = true) (h' : leD b a = true) : PySem.W.keyToks (toPy a) = PySem.W.keyToks (toPy b) := by
  rw [leD_eq] at h h'
  have h1 : ltD b a = false := by simpa using h
  have h2 : ltD a b = false := by simpa using h'
  exact (PyProof.Rows.listOrd PyProof.Rows.itemOrd).total _ _ h2 h1
/-! tuples of ints -/
def iT (x : List Int) : D := .tup (x.map .int)
theorem toks_iT : ∀ (x y : List Int), PyProof.Rows.lexLt PyProof.Rows.itemOrd (PySem.W.keyToksAll (toPys (x.map .int))) (PySem.W.keyToksAll (toPys (y.map .int))) = lexLtI x y
  | [], [] => by simp [toPys, PySem.W.keyToksAll, PyProof.Rows.lexLt, lexLtI, PyProof.Rows.itemLt]
  | [], y :: ys => by simp [toPys, PySem.W.keyToksAll, PyProof.Rows.lexLt, lexLtI, PyProof.Rows.itemLt]
  | x :: xs, [] => by simp [toPys, PySem.W.keyToksAll, PyProof.Rows.lexLt, lexLtI, PyProof.Rows.itemLt]
  | x :: xs, y :: ys => by
    have ih := toks_iT xs ys
    simp only [List.map_cons, toPys, toPy, PySem.W.keyToksAll, PySem.W.keyToks, List.cons_append, List.nil_append, PyProof.Rows.lexLt, lexLtI, PyProof.Rows.itemLt]
    rw [ih]
    by_cases h : x = y
    · subst h; simp
    · rw [if_neg h]
      by_cases h2 : x < y
      · simp [h2]
      · have : y < x := by omega
        simp [h2, this]
theorem ltD_iT (x y : List Int) : ltD (iT x) (iT y) = lexLtI x y := by
  show PyProof.Rows.lexLt PyProof.Rows.itemOrd (PySem.W.keyToks (toPy (iT x))) (PySem.W.keyToks (toPy (iT y))) = _
  exact toks_iT x y
theorem ltD_str (x y : List Nat) : ltD (.str x) (.str y) = decide (x < y) := by
  show PyProof.Rows.lexLt PyProof.Rows.itemOrd (PySem.W.keyToks (toPy (.str x))) (PySem.W.keyToks (toPy (.str y))) = _
  simp [toPy, PySem.W.keyToks, PyProof.Rows.lexLt, PyProof.Rows.itemLt, PyProof.Rows.strKind, tS]
theorem lexLtI_irr : ∀ x : List Int, lexLtI x x = false
  | [] => rfl
  | x :: xs => by rw [lexLtI, if_pos rfl, lexLtI_irr xs]
theorem lexLtI_tot : ∀ x y : List Int, lexLtI x y = false → lexLtI y x = false → x = y
  | [], [], _, _ => rfl
  | [], _ :: _, h, _ => by simp [lexLtI] at h
  | _ :: _, [], _, h => by simp [lexLtI] at h
  | x :: xs, y :: ys, h, h' => by
    rw [lexLtI] at h h'
    by_cases e : x = y
    · subst e
      rw [if_pos rfl] at h h'
      rw [lexLtI_tot xs ys h h']
    · rw [if_neg e] at h
      rw [if_neg (Ne.symm e)] at h'
      have h1 := of_decide_eq_false h
      have h2 := of_decide_eq_false h'
      omega
theorem iT_anti {x y : List Int} (h : leD (iT x) (iT y) = true) (h' : leD (iT y) (iT x) = true) : x = y := by
  rw [leD_eq, ltD_iT] at h h'
  exact lexLtI_tot x y (by simpa using h') (by simpa using h)
theorem iT_inj {x y : List Int} (h : iT x = iT y) : x = y := by
  have : leD (iT x) (iT y) = true := by rw [h]; exact leDre _
  have h2 : leD (iT y) (iT x) = true := by rw [h]; exact leDre _
  exact iT_anti this h2
theorem alk_ints : ∀ (x y : List Int), PySem.W.alikeAll (toPys (x.map .int)) (toPys (y.map .int)) = true
  | [], _ => by simp [toPys, PySem.W.alikeAll]
  | _ :: _, [] => by simp [toPys, PySem.W.alikeAll]
  | x :: xs, y :: ys => by
    simp only [List.map_cons, toPys, toPy, PySem.W.alikeAll, PySem.W.alike, Bool.true_and]
    exact alk_ints xs ys
theorem alk_iT (x y : List Int) : PySem.W.alike (toPy (iT x)) (toPy (iT y)) = true := by
  show PySem.W.alike (.tuple (toPys (x.map .int))) (.tuple (toPys (y.map .int))) = true
  rw [PySem.W.alike]; exact alk_ints x y
theorem alkD_iT {α : Type} (l : List α) (f : α → List Int) : alkD (l.map fun a => iT (f a)) = true := by
  unfold alkD
  rw [List.all_eq_true]
  intro a ha
  rw [List.all_eq_true]
  intro b hb
  obtain ⟨x, _, rfl⟩ := List.mem_map.mp ha
  obtain ⟨y, _, rfl⟩ := List.mem_map.mp hb
  exact alk_iT _ _
theorem dpts_ints : ∀ x : List Int, dpts (x.map D.int) ≤ 1
  | [] => by simp [dpts]
  | x :: xs => by
    have := dpts_ints xs
    simp only [List.map_cons, dpts, dpt]
    omega
theorem dpt_iT (x : List Int) : dpt (iT x) ≤ 2 := by
  have := dpts_ints x
  unfold iT
  rw [dpt]
  omega
theorem dpts_le {n : Nat} : ∀ {ds : List D}, (∀ d ∈ ds, dpt d ≤ n) → dpts ds ≤ n + 1
  | [], _ => by simp [dpts]
  | d :: ds, h => by
    have h1 := h d (List.mem_cons_self ..)
    have h2 := dpts_le (ds := ds) fun e he => h e (List.mem_cons_of_mem _ he)
    rw [dpts]
    omega
/-! the least -/
theorem minDD_spec : ∀ (ds : List D) (d : D), (minDD d ds = d ∨ minDD d ds ∈ ds) ∧ leD (minDD d ds) d = true ∧ ∀ e ∈ ds, leD (minDD d ds) e = true
  | [], d => ⟨.inl rfl, leDre d, fun e he => nomatch he⟩
  | y :: ds, d => by
    have ih := minDD_spec ds (if ltD y d = true then y else d)
    rw [show minDD d (y :: ds) = minDD (if ltD y d = true then y else d) ds from rfl]
    by_cases h : ltD y d = true
    · rw [if_pos h] at ih ⊢
      have hyd : leD y d = true := by
        rcases leDto y d with h1 | h1
        · exact h1
        · rw [leD_eq, h] at h1; cases h1
      obtain ⟨a, b, c⟩ := ih
      refine ⟨.inr ?_, leDtr b hyd, fun e he => ?_⟩
      · rcases a with a | a
        · rw [a]; exact List.mem_cons_self ..
        · exact List.mem_cons_of_mem _ a
      · rcases List.mem_cons.mp he with rfl | he
        · exact b
        · exact c e he
    · rw [if_neg h] at ih ⊢
      have hdy : leD d y = true := by rw [leD_eq]; simpa using h
      obtain ⟨a, b, c⟩ := ih
      refine ⟨?_, b, fun e he => ?_⟩
      · rcases a with a | a
        · exact .inl a
        · exact .inr (List.mem_cons_of_mem _ a)
      · rcases List.mem_cons.mp he with rfl | he
        · exact leDtr b hdy
        · exact c e he
theorem maxDD_spec : ∀ (ds : List D) (d : D), (maxDD d ds = d ∨ maxDD d ds ∈ ds) ∧ leD d (maxDD d ds) = true ∧ ∀ e ∈ ds, leD e (maxDD d ds) = true
  | [], d => ⟨.inl rfl, leDre d, fun e he => nomatch he⟩
  | y :: ds, d => by
    have ih := maxDD_spec ds (if ltD d y = true then y else d)
    rw [show maxDD d (y :: ds) = maxDD (if ltD d y = true then y else d) ds from rfl]
    by_cases h : ltD d y = true
    · rw [if_pos h] at ih ⊢
      have hyd : leD d y = true := by
        rcases leDto d y with h1 | h1
        · exact h1
        · rw [leD_eq, h] at h1; cases h1
      obtain ⟨a, b, c⟩ := ih
      refine ⟨.inr ?_, leDtr hyd b, fun e he => ?_⟩
      · rcases a with a | a
        · rw [a]; exact List.mem_cons_self ..
        · exact List.mem_cons_of_mem _ a
      · rcases List.mem_cons.mp he with rfl | he
        · exact b
        · exact c e he
    · rw [if_neg h] at ih ⊢
      have hdy : leD y d = true := by rw [leD_eq]; simpa using h
      obtain ⟨a, b, c⟩ := ih
      refine ⟨?_, b, fun e he => ?_⟩
      · rcases a with a | a
        · exact .inl a
        · exact .inr (List.mem_cons_of_mem _ a)
      · rcases List.mem_cons.mp he with rfl | he
        · exact leDtr hdy b
        · exact c e he
/-- least of tuples of ints -/
theorem min_iT {α : Type} (l : List α) (f : α → List Int) (hl : l ≠ []) : ∃ a ∈ l, bD "min" [.o (.lst (l.map fun a => iT (f a)))] = some (.v (iT (f a))) ∧ ∀ b ∈ l, lexLtI (f b) (f a) = false := by
  cases l with
  | nil => exact absurd rfl hl
  | cons x l =>
    have h1 := alkD_iT (x :: l) f
    have h2 : nonN ((x :: l).map fun a => iT (f a)) = true := by
      unfold nonN
      rw [List.all_eq_true]
      intro d hd
      obtain ⟨a, _, rfl⟩ := List.mem_map.mp hd
      rfl
    have h3 : dpts ((x :: l).map fun a => iT (f a)) ≤ 60 := by
      have := dpts_le (n := 2) (ds := (x :: l).map fun a => iT (f a)) fun d hd => by
        obtain ⟨a, _, rfl⟩ := List.mem_map.mp hd
        exact dpt_iT _
      omega
    have e : bD "min" [.o (.lst ((x :: l).map fun a => iT (f a)))] = some (.v (minDD (iT (f x)) (l.map fun a => iT (f a)))) := by
      rw [V_besm]
      show bestD minI minDD ((x :: l).map fun a => iT (f a)) = _
      unfold bestD
      rw [show intL ((x :: l).map fun a => iT (f a)) = none from rfl]
      rw [List.map_cons] at h1 h2 h3 ⊢
      simp only
      rw [h1, h2, decide_eq_true h3]; rfl
    obtain ⟨a, b, c⟩ := minDD_spec (l.map fun a => iT (f a)) (iT (f x))
    rw [e]
    generalize minDD (iT (f x)) (l.map fun a => iT (f a)) = m at *
    have key : ∀ z, m = iT (f z) → ∀ b ∈ x :: l, lexLtI (f b) (f z) = false := by
      rintro z rfl y hy
      rw [leD_eq, ltD_iT] at b
      rcases List.mem_cons.mp hy with rfl | hy
      · simpa using b
      · have := c _ (List.mem_map.mpr ⟨y, hy, rfl⟩)
        rw [leD_eq, ltD_iT] at this
        simpa using this
    rcases a with a | a
    · exact ⟨x, List.mem_cons_self .., by rw [a], key x a⟩
    · obtain ⟨y, hy, rfl⟩ := List.mem_map.mp a
      exact ⟨y, List.mem_cons_of_mem _ hy, rfl, key y rfl⟩
/-! sorted -/
theorem ins_perm (d : D) : ∀ ds : List D, (insD d ds).Perm (d :: ds)
  | [] => .refl _
  | x :: r => by
    rw [insD]
    split
    · exact .refl _
    · exact ((ins_perm d r).cons x).trans (.swap d x r)
theorem srt_perm : ∀ ds : List D, (srtD ds).Perm ds
  | [] => .refl _
  | d :: ds => (ins_perm d (srtD ds)).trans ((srt_perm ds).cons d)
theorem ins_sorted (d : D) : ∀ ds : List D, ds.Pairwise (fun a b => leD a b = true) → (insD d ds).Pairwise (fun a b => leD a b = true)
  | [], _ => by simp [insD]
  | x :: r, h => by
    cases h with
    | cons h1 h2 =>
      rw [insD]
      split
      · rename_i hd
        refine .cons (fun y hy => ?_) (.cons h1 h2)
        rcases List.mem_cons.mp hy with rfl | hy
        · exact hd
        · exact leDtr hd (h1 y hy)
      · rename_i hd
        have hxd : leD x d = true := (leDto d x).resolve_left hd
        refine .cons (fun y hy => ?_) (ins_sorted d r h2)
        rcases List.mem_cons.mp ((ins_perm d r).mem_iff.mp hy) with rfl | hy
        · exact hxd
        · exact h1 y hy
theorem srt_sorted : ∀ ds : List D, (srtD ds).Pairwise (fun a b => leD a b = true)
  | [] => .nil
  | d :: ds => ins_sorted d _ (srt_sorted ds)
theorem srt_eq {ds es : List D} (hp : ds.Perm es) (hs : es.Pairwise (fun a b => leD a b = true)) (ha : ∀ a ∈ ds, ∀ b ∈ es, leD a b = true → leD b a = true → a = b) : srtD ds = es :=
  List.Perm.eq_of_pairwise (le := fun a b => leD a b = true) (fun a b h1 h2 h3 h4 => ha a ((srt_perm ds).mem_iff.mp h1) b h2 h3 h4) (srt_sorted ds) hs ((srt_perm ds).trans hp)
end VI

set_option Elab.async false
set_option linter.all false
set_option maxRecDepth 100000
set_option maxHeartbeats 4000000
set_option autoImplicit false
namespace VI
/-- the span behind s where the room lies -/
def entS (room : Int) (s : Int × Int) : Int × Int := if room < 0 then (s.1 + 1, s.2) else (s.1, s.2 + 1)
def entB (cols : Cols) (room : Int) (s : Int × Int) : Bool := (if room < 0 then decide (s.1 + 1 = -room) else decide (s.2 + 1 = room)) && opn cols (entS room s).1 (entS room s).2
def entP (cols : Cols) (room : Int) : List ((Int × Int) × (Int × Int)) := ((spansP cols).filter (entB cols room)).map fun s => (s, entS room s)
def absI (i : Int) : Int := if i < 0 then -i else i
def farB (other : Int) (s : Int × Int) : Bool := decide ((if 0 < other then s.2 else s.1) < absI other)
/-- the plays that enter one ahead of other -/
def acP (cols : Cols) (one other : Int) : Nat := (((entP cols one).filter fun p => farB other p.1).map fun p => aP cols p.1 * nP cols p.2).sum
section
variable {cols : Cols}
theorem Reg.pred (g : Reg cols) {t : Int × Int} (h : opn cols t.1 t.2 = true) (hn : t ≠ (0, 0)) : opn cols (t.1 - 1) t.2 = true ∨ opn cols t.1 (t.2 - 1) = true := by
  obtain ⟨x, y⟩ := t
  simp only at *
  obtain ⟨h0, c, hc, h1, h2⟩ := opn_iff.mp h
  by_cases hy : c.1 < y
  · exact .inr (opn_iff.mpr ⟨h0, c, hc, by omega, by omega⟩)
  · have hyc : y = c.1 := by omega
    by_cases hx : x = 0
    · subst hx
      have := g.good.fst c (by simpa using hc)
      exact absurd (by rw [hyc, this]) hn
    · left
      have hl := (List.getElem?_eq_some_iff.mp hc).1
      obtain ⟨p, hp⟩ : ∃ p, cols[x.toNat - 1]? = some p := ⟨cols[x.toNat - 1]'(by omega), List.getElem?_eq_getElem _⟩
      have hq := g.good.nxt (x.toNat - 1) p c hp (by rw [show x.toNat - 1 + 1 = x.toNat by omega]; exact hc)
      exact opn_iff.mpr ⟨by omega, p, by rw [show (x - 1).toNat = x.toNat - 1 by omega]; exact hp, by omega, by omega⟩
/-- a column's spans lie without gaps -/
theorem opn_mid {x a b y : Int} (h : opn cols x a = true) (h' : opn cols x b = true) (hy : a ≤ y ∧ y ≤ b) : opn cols x y = true := by
  obtain ⟨h0, c, hc, h1, h2⟩ := opn_iff.mp h
  obtain ⟨_, d, hd, h3, h4⟩ := opn_iff.mp h'
  rw [hc] at hd; cases hd
  exact opn_iff.mpr ⟨h0, c, hc, by omega, by omega⟩
/-- bounds rise -/
theorem opn_up (g : Reg cols) {x x' a b : Int} (hx : x ≤ x') (h : opn cols x a = true) (h' : opn cols x' b = true) : ∃ c d : Int × Int, c.1 ≤ a ∧ a ≤ c.2 ∧ d.1 ≤ b ∧ b ≤ d.2 ∧ c.1 ≤ d.1 ∧ c.2 ≤ d.2 ∧ (∀ y, opn cols x y = true ↔ c.1 ≤ y ∧ y ≤ c.2) ∧ (∀ y, opn cols x' y = true ↔ d.1 ≤ y ∧ y ≤ d.2) := by
  obtain ⟨h0, c, hc, h1, h2⟩ := opn_iff.mp h
  obtain ⟨h0', d, hd, h3, h4⟩ := opn_iff.mp h'
  have hm := g.mono (x'.toNat - x.toNat) x.toNat c d hc (by rw [show x.toNat + (x'.toNat - x.toNat) = x'.toNat by omega]; exact hd)
  refine ⟨c, d, h1, h2, h3, h4, hm.1, hm.2, fun y => ?_, fun y => ?_⟩
  · rw [opn_iff]
    exact ⟨fun ⟨_, e, he, q⟩ => by rw [hc] at he; cases he; exact q, fun q => ⟨h0, c, hc, q⟩⟩
  · rw [opn_iff]
    exact ⟨fun ⟨_, e, he, q⟩ => by rw [hd] at he; cases he; exact q, fun q => ⟨h0', d, hd, q⟩⟩
theorem nP_nat (g : Reg cols) {s : Int × Int} (h : s ≠ endP cols) : nP cols s = (if opn cols (s.1 + 1) s.2 = true then nP cols (s.1 + 1, s.2) else 0) + (if opn cols s.1 (s.2 + 1) = true then nP cols (s.1, s.2 + 1) else 0) := by
  have := nP_split g h
  unfold lfP at this
  exact this
theorem aP_nat (g : Reg cols) {s : Int × Int} (h : s ≠ (0, 0)) : aP cols s = (if opn cols (s.1 - 1) s.2 = true then aP cols (s.1 - 1, s.2) else 0) + (if opn cols s.1 (s.2 - 1) = true then aP cols (s.1, s.2 - 1) else 0) := by
  have h1 := aP_two g s
  rw [if_neg h] at h1
  split <;> split <;> simp_all <;> omega
theorem aP_zero (g : Reg cols) : aP cols (0, 0) = 1 := by
  have h1 := aP_two g (0, 0)
  rw [if_pos rfl] at h1
  omega
theorem aP_small (g : Reg cols) (s : Int × Int) (h : s.1 + s.2 ≤ 60) : aP cols s < 2 ^ 62 := by
  have h1 := aF_le cols ((s.1 + s.2).toNat + 1) s
  have h2 : 2 ^ ((s.1 + s.2).toNat + 1) ≤ 2 ^ 61 := Nat.pow_le_pow_right (by decide) (by omega)
  unfold aP
  have : (2 : Nat) ^ 61 < 2 ^ 62 := by decide
  omega
theorem mem_entP {room : Int} {p : (Int × Int) × (Int × Int)} : p ∈ entP cols room ↔ opn cols p.1.1 p.1.2 = true ∧ p.2 = entS room p.1 ∧ entB cols room p.1 = true := by
  unfold entP
  rw [List.mem_map]
  constructor
  · rintro ⟨s, hs, rfl⟩
    obtain ⟨h1, h2⟩ := List.mem_filter.mp hs
    exact ⟨mem_spans'.mp h1, rfl, h2⟩
  · rintro ⟨h1, h2, h3⟩
    exact ⟨p.1, List.mem_filter.mpr ⟨mem_spans'.mpr h1, h3⟩, by rw [← h2]⟩
end
theorem sum_or {α : Type} [DecidableEq α] (p : α → Bool) (f : α → Nat) (t : α) (ht : p t = false) : ∀ l : List α, l.Nodup → ((l.filter fun s => p s || decide (s = t)).map f).sum = ((l.filter p).map f).sum + if t ∈ l then f t else 0
  | [], _ => by simp
  | x :: l, h => by
    cases h with
    | cons h1 h2 =>
      have ih := sum_or p f t ht l h2
      by_cases e : x = t
      · subst e
        have hx : x ∉ l := fun z => h1 x z rfl
        rw [if_neg hx] at ih
        rw [List.filter_cons_of_pos (by simp), List.filter_cons_of_neg (by simp [ht]), List.map_cons, List.sum_cons, ih, if_pos (List.mem_cons_self ..)]
        omega
      · have hm : (t ∈ x :: l) ↔ t ∈ l := by rw [List.mem_cons]; exact ⟨fun z => z.resolve_left (fun q => e q.symm), .inr⟩
        simp only [hm]
        by_cases hp : p x = true
        · rw [List.filter_cons_of_pos (by simp [hp]), List.filter_cons_of_pos hp, List.map_cons, List.sum_cons, List.map_cons, List.sum_cons, ih]
          omega
        · rw [List.filter_cons_of_neg (by simp [hp, e]), List.filter_cons_of_neg hp, ih]
end VI

set_option Elab.async false
set_option linter.all false
set_option maxRecDepth 100000
set_option maxHeartbeats 4000000
set_option autoImplicit false
namespace VI
theorem maxIsp : ∀ (l : List Int) (a : Int), (maxI a l = a ∨ maxI a l ∈ l) ∧ a ≤ maxI a l ∧ ∀ b ∈ l, b ≤ maxI a l
  | [], a => ⟨.inl rfl, Int.le_refl _, fun _ h => nomatch h⟩
  | y :: l, a => by
    obtain ⟨h1, h2, h3⟩ := maxIsp l (if y > a then y else a)
    rw [show maxI a (y :: l) = maxI (if y > a then y else a) l from rfl]
    by_cases h : y > a
    · rw [if_pos h] at *
      refine ⟨.inr ?_, by omega, fun b hb => ?_⟩
      · rcases h1 with h1 | h1
        · rw [h1]; exact List.mem_cons_self ..
        · exact List.mem_cons_of_mem _ h1
      · rcases List.mem_cons.mp hb with rfl | hb
        · exact h2
        · exact h3 b hb
    · rw [if_neg h] at *
      refine ⟨?_, h2, fun b hb => ?_⟩
      · rcases h1 with h1 | h1
        · exact .inl h1
        · exact .inr (List.mem_cons_of_mem _ h1)
      · rcases List.mem_cons.mp hb with rfl | hb
        · omega
        · exact h3 b hb
theorem minIsp : ∀ (l : List Int) (a : Int), (minI a l = a ∨ minI a l ∈ l) ∧ minI a l ≤ a ∧ ∀ b ∈ l, minI a l ≤ b
  | [], a => ⟨.inl rfl, Int.le_refl _, fun _ h => nomatch h⟩
  | y :: l, a => by
    obtain ⟨h1, h2, h3⟩ := minIsp l (if y < a then y else a)
    rw [show minI a (y :: l) = minI (if y < a then y else a) l from rfl]
    by_cases h : y < a
    · rw [if_pos h] at *
      refine ⟨.inr ?_, by omega, fun b hb => ?_⟩
      · rcases h1 with h1 | h1
        · rw [h1]; exact List.mem_cons_self ..
        · exact List.mem_cons_of_mem _ h1
      · rcases List.mem_cons.mp hb with rfl | hb
        · exact h2
        · exact h3 b hb
    · rw [if_neg h] at *
      refine ⟨?_, h2, fun b hb => ?_⟩
      · rcases h1 with h1 | h1
        · exact .inl h1
        · exact .inr (List.mem_cons_of_mem _ h1)
      · rcases List.mem_cons.mp hb with rfl | hb
        · omega
        · exact h3 b hb
theorem intL_map (l : List Int) : intL (l.map D.int) = some l := by
  induction l with
  | nil => rfl
  | cons i l ih => rw [List.map_cons, intL, ih]; rfl
/-- greatest of ints -/
theorem max_ints {l : List Int} (h : l ≠ []) : ∃ m ∈ l, bD "max" [.o (.lst (l.map .int))] = some (.v (.int m)) ∧ ∀ b ∈ l, b ≤ m := by
  cases l with
  | nil => exact absurd rfl h
  | cons a l =>
    obtain ⟨h1, h2, h3⟩ := maxIsp l a
    refine ⟨maxI a l, ?_, ?_, ?_⟩
    · rcases h1 with h1 | h1
      · rw [h1]; exact List.mem_cons_self ..
      · exact List.mem_cons_of_mem _ h1
    · rw [V_best]
      show bestD maxI maxDD ((a :: l).map D.int) = _
      unfold bestD
      rw [intL_map]
    · intro b hb
      rcases List.mem_cons.mp hb with rfl | hb
      · exact h2
      · exact h3 b hb
theorem min_ints {l : List Int} (h : l ≠ []) : ∃ m ∈ l, bD "min" [.o (.lst (l.map .int))] = some (.v (.int m)) ∧ ∀ b ∈ l, m ≤ b := by
  cases l with
  | nil => exact absurd rfl h
  | cons a l =>
    obtain ⟨h1, h2, h3⟩ := minIsp l a
    refine ⟨minI a l, ?_, ?_, ?_⟩
    · rcases h1 with h1 | h1
      · rw [h1]; exact List.mem_cons_self ..
      · exact List.mem_cons_of_mem _ h1
    · rw [V_besm]
      show bestD minI minDD ((a :: l).map D.int) = _
      unfold bestD
      rw [intL_map]
    · intro b hb
      rcases List.mem_cons.mp hb with rfl | hb
      · exact h2
      · exact h3 b hb
theorem sum_list (l : List Int) : bD "sum" [.o (.lst (l.map .int))] = some (.v (.int l.sum)) := by
  show (seqR (.o (.lst (l.map .int)))).bind (fun ds => (intL ds).map fun is => Rt.v (.int is.sum)) = _
  simp [intL_map]
theorem sum_tup (l : List Int) : bD "sum" [.v (.tup (l.map .int))] = some (.v (.int l.sum)) := by
  show (seqR (.v (.tup (l.map .int)))).bind (fun ds => (intL ds).map fun is => Rt.v (.int is.sum)) = _
  simp [intL_map]
theorem cut_map {α β : Type} (f : α → β) (l : List α) (lo hi : Option Int) : cutD (l.map f) lo hi = (cutD l lo hi).map f := by
  unfold cutD
  rw [List.map_take, List.map_drop, List.length_map]
/-- least of values of one kind, none of them an int -/
theorem min_gen {α : Type} (l : List α) (f : α → D) (hl : l ≠ []) (h0 : ∀ a ∈ l, ∀ i, f a ≠ .int i) (hal : ∀ a ∈ l, ∀ b ∈ l, PySem.W.alike (toPy (f a)) (toPy (f b)) = true) (hn : ∀ a ∈ l, isNon (f a) = false) (hd : ∀ a ∈ l, dpt (f a) ≤ 59) :
    ∃ a ∈ l, bD "min" [.o (.lst (l.map f))] = some (.v (f a)) ∧ ∀ b ∈ l, leD (f a) (f b) = true := by
  cases l with
  | nil => exact absurd rfl hl
  | cons x l =>
    have h1 : alkD ((x :: l).map f) = true := by
      unfold alkD
      rw [List.all_eq_true]
      intro a ha
      rw [List.all_eq_true]
      intro b hb
      obtain ⟨a', ha', rfl⟩ := List.mem_map.mp ha
      obtain ⟨b', hb', rfl⟩ := List.mem_map.mp hb
      exact hal a' ha' b' hb'
    have h2 : nonN ((x :: l).map f) = true := by
      unfold nonN
      rw [List.all_eq_true]
      intro d hd
      obtain ⟨a, ha, rfl⟩ := List.mem_map.mp hd
      rw [hn a ha]; rfl
    have h3 : dpts ((x :: l).map f) ≤ 60 := dpts_le fun d hdm => by
      obtain ⟨a, ha, rfl⟩ := List.mem_map.mp hdm
      exact hd a ha
    have h4 : intL ((x :: l).map f) = none := by
      rw [List.map_cons]
      have := h0 x (List.mem_cons_self ..)
      cases hx : f x with
      | int i => exact absurd hx (this i)
      | _ => rfl
    have e : bD "min" [.o (.lst ((x :: l).map f))] = some (.v (minDD (f x) (l.map f))) := by
      rw [V_besm]
      show bestD minI minDD ((x :: l).map f) = _
      unfold bestD
      rw [h4]
      rw [List.map_cons] at h1 h2 h3 ⊢
      simp only
      rw [h1, h2, decide_eq_true h3]; rfl
    obtain ⟨a, b, c⟩ := minDD_spec (l.map f) (f x)
    rw [e]
    generalize minDD (f x) (l.map f) = m at *
    have key : ∀ y ∈ x :: l, leD m (f y) = true := by
      intro y hy
      rcases List.mem_cons.mp hy with rfl | hy
      · exact b
      · exact c _ (List.mem_map.mpr ⟨y, hy, rfl⟩)
    rcases a with a | a
    · exact ⟨x, List.mem_cons_self .., by rw [a], by rw [← a]; exact key⟩
    · obtain ⟨y, hy, rfl⟩ := List.mem_map.mp a
      exact ⟨y, List.mem_cons_of_mem _ hy, rfl, key⟩
/-- an int and a pair -/
def nT (a : Int) (s : Int × Int) : D := .tup [.int a, cD s]
theorem ltD_nT (a b : Int) (s t : Int × Int) : ltD (nT a s) (nT b t) = lexLtI [a, s.1, s.2] [b, t.1, t.2] := by
  obtain ⟨x, y⟩ := s
  obtain ⟨x', y'⟩ := t
  show PyProof.Rows.lexLt PyProof.Rows.itemOrd (PySem.W.keyToks (toPy (nT a (x, y)))) (PySem.W.keyToks (toPy (nT b (x', y')))) = _
  simp only [nT, cD, toPy, toPys, PySem.W.keyToks, PySem.W.keyToksAll, List.cons_append, List.nil_append, PyProof.Rows.lexLt, PyProof.Rows.itemLt, lexLtI]
  by_cases h1 : a = b
  · subst h1
    by_cases h2 : x = x'
    · subst h2
      by_cases h3 : y = y'
      · subst h3; simp
      · by_cases h4 : y < y'
        · simp [h3, h4]
        · have : y' < y := by omega
          simp [h3, h4, this]
    · by_cases h4 : x < x'
      · simp [h2, h4]
      · have : x' < x := by omega
        simp [h2, h4, this]
  · by_cases h4 : a < b
    · simp [h1, h4]
    · have : b < a := by omega
      simp [h1, h4, this]
theorem alk_nT (a b : Int) (s t : Int × Int) : PySem.W.alike (toPy (nT a s)) (toPy (nT b t)) = true := by
  simp [nT, cD, toPy, toPys, PySem.W.alike, PySem.W.alikeAll]
theorem cD_iT (s : Int × Int) : cD s = iT [s.1, s.2] := rfl
end VI

set_option Elab.async false
set_option linter.all false
set_option maxRecDepth 100000
set_option maxHeartbeats 4000000
set_option autoImplicit false
namespace VI
abbrev Rw := List (Option Int)
def oD : Option Int → D
  | none => .non
  | some i => .int i
def rwD (l : Rw) : D := .tup (l.map oD)
/-- how high it goes -/
def hiGo (rights : Rw) (x : Int) : Nat → Nat → Nat
  | 0, h => h
  | n + 1, h => match rights[h]? with
    | some (some r) => if r ≤ x then hiGo rights x n (h + 1) else h
    | _ => h
def hiX (rights : Rw) (x : Int) (h : Nat) : Nat := hiGo rights x (rights.length - h) h
def frX (lefts rights : Rw) : Nat → Nat → Int → Nat → Cols
  | 0, _, _, _ => []
  | n + 1, x, low, high => (low, (hiX rights x high : Int)) :: match lefts[x]? with
    | some (some l) => if l > (hiX rights x high : Int) then [] else frX lefts rights n (x + 1) (if l > low then l else low) (hiX rights x high)
    | _ => []
def regFrom (lefts rights : Rw) : Cols := frX lefts rights (lefts.length + 1) 0 0 0
theorem hiX_stop {rights : Rw} {x : Int} {h : Nat} (hs : ∀ r, rights[h]? = some (some r) → ¬ r ≤ x) : hiX rights x h = h := by
  unfold hiX
  cases hn : rights.length - h with
  | zero => rfl
  | succ n =>
    rw [hiGo]
    cases hr : rights[h]? with
    | none => rfl
    | some o =>
      cases o with
      | none => rfl
      | some r => simp only; rw [if_neg (hs r hr)]
theorem hiX_go {rights : Rw} {x : Int} {h : Nat} {r : Int} (hr : rights[h]? = some (some r)) (hx : r ≤ x) : hiX rights x h = hiX rights x (h + 1) := by
  have hl := (List.getElem?_eq_some_iff.mp hr).1
  unfold hiX
  rw [show rights.length - h = (rights.length - (h + 1)) + 1 by omega, hiGo, hr]
  simp only
  rw [if_pos hx]
theorem hiX_to {rights : Rw} {x : Int} : ∀ (n h : Nat), (∀ j, h ≤ j → j < h + n → ∃ r, rights[j]? = some (some r) ∧ r ≤ x) → (∀ r, rights[h + n]? = some (some r) → ¬ r ≤ x) → hiX rights x h = h + n
  | 0, h, _, hs => hiX_stop hs
  | n + 1, h, hg, hs => by
    obtain ⟨r, h1, h2⟩ := hg h (Nat.le_refl _) (by omega)
    rw [hiX_go h1 h2, hiX_to n (h + 1) (fun j h1 h2 => hg j (by omega) (by omega)) (by rw [show h + 1 + n = h + (n + 1) by omega]; exact hs)]
    omega
/-! the least rows of a region -/
def cAt (cols : Cols) (x : Nat) : Int × Int := cols.getD x (0, 0)
def ftX (cols : Cols) (y : Nat) : Nat := cols.findIdx fun c => decide ((y : Int) < c.2)
def barX (cols : Cols) (y : Nat) : Bool := (cols.take (ftX cols y)).any fun c => decide (c.1 ≤ (y : Int)) && decide ((y : Int) ≤ c.2)
def lfX (cols : Cols) : List Int := (List.range (cols.length - 1)).map fun x => if (cAt cols (x + 1)).1 > (cAt cols x).1 then (cAt cols (x + 1)).1 else 0
def rtX (cols : Cols) : List Int := (List.range (endP cols).2.toNat).map fun y => if barX cols y = true then (ftX cols y : Int) else 0
theorem cAt_get {cols : Cols} {x : Nat} (h : x < cols.length) : cols[x]? = some (cAt cols x) := by
  unfold cAt
  rw [List.getD_eq_getElem?_getD, List.getElem?_eq_getElem h]; rfl
theorem ftX_lt {cols : Cols} (g : Reg cols) {y : Nat} (h : (y : Int) < (endP cols).2) : ftX cols y < cols.length := by
  obtain ⟨c, h1, h2, h3⟩ := g.last
  unfold ftX
  rw [List.findIdx_lt_length]
  exact ⟨c, List.mem_of_getElem? h2, by rw [h3] at h; simpa using h⟩
theorem ftX_le {cols : Cols} {x y : Nat} (hx : x < cols.length) (h : (y : Int) < (cAt cols x).2) : ftX cols y ≤ x := by
  unfold ftX
  refine Decidable.byContradiction fun hn => ?_
  have := List.not_of_lt_findIdx (p := fun c : Int × Int => decide ((y : Int) < c.2)) (xs := cols) (i := x) (by omega)
  have e := cAt_get hx
  rw [List.getElem?_eq_getElem hx] at e
  injection e with e
  rw [e] at this
  simp at this
  omega
theorem ftX_gt {cols : Cols} (g : Reg cols) {x y : Nat} (hx : x < cols.length) (h : (cAt cols x).2 ≤ (y : Int)) : x < ftX cols y := by
  refine Decidable.byContradiction fun hn => ?_
  have hl : ftX cols y < cols.length := by omega
  have h1 := List.findIdx_getElem (p := fun c : Int × Int => decide ((y : Int) < c.2)) (xs := cols) (w := hl)
  have e := cAt_get hl
  rw [List.getElem?_eq_getElem hl] at e
  injection e with e
  have h2 : decide ((y : Int) < (cols[ftX cols y]'hl).2) = true := h1
  rw [e] at h2
  have h3 := of_decide_eq_true h2
  have := g.mono (x - ftX cols y) (ftX cols y) _ _ (cAt_get hl) (by rw [show ftX cols y + (x - ftX cols y) = x by omega]; exact cAt_get hx)
  omega
theorem rows_back {cols : Cols} (g : Reg cols) : ∀ (n x : Nat) (prev : Nat), x + n = cols.length → 0 < n → ((prev : Int) ≤ (cAt cols x).2) → frX ((lfX cols).map some) ((rtX cols).map some) n x (cAt cols x).1 prev = cols.drop x
  | 0, x, prev, _, h0, _ => absurd h0 (by omega)
  | n + 1, x, prev, hn, _, hp => by
    have hx : x < cols.length := by omega
    have hall := g.good.all _ (List.mem_of_getElem? (cAt_get hx))
    obtain ⟨ce, q1, q2, q3⟩ := g.last
    have hce : cAt cols (cols.length - 1) = ce := by
      have := cAt_get (cols := cols) (x := cols.length - 1) (by omega)
      rw [q2] at this; injection this with this; exact this.symm
    have hmono : (cAt cols x).2 ≤ (endP cols).2 := by
      have := g.mono (cols.length - 1 - x) x _ _ (cAt_get hx) (by rw [show x + (cols.length - 1 - x) = cols.length - 1 by omega]; exact cAt_get (by omega))
      rw [q3, ← hce]; exact this.2
    have hrt : ∀ j : Nat, (j : Int) < (endP cols).2 → ((rtX cols).map some)[j]? = some (some (if barX cols j = true then (ftX cols j : Int) else 0)) := fun j hj => by
      unfold rtX
      rw [List.getElem?_map, List.getElem?_map, List.getElem?_range (by omega)]; rfl
    have hrt2 : ∀ j : Nat, ¬ (j : Int) < (endP cols).2 → ((rtX cols).map some)[j]? = none := fun j hj => by
      rw [List.getElem?_eq_none_iff]
      unfold rtX
      rw [List.length_map, List.length_map, List.length_range]; omega
    have hh : hiX ((rtX cols).map some) x prev = (cAt cols x).2.toNat := by
      have := hiX_to (rights := (rtX cols).map some) (x := x) ((cAt cols x).2.toNat - prev) prev (fun j h1 h2 => by
        have hj : (j : Int) < (cAt cols x).2 := by omega
        refine ⟨_, hrt j (by omega), ?_⟩
        have := ftX_le hx hj
        split <;> omega) (fun r hr => by
        rw [show prev + ((cAt cols x).2.toNat - prev) = (cAt cols x).2.toNat by omega] at hr
        by_cases hj : (((cAt cols x).2.toNat : Nat) : Int) < (endP cols).2
        · rw [hrt _ hj] at hr
          have hgt := ftX_gt g (y := (cAt cols x).2.toNat) hx (by omega)
          have hb : barX cols (cAt cols x).2.toNat = true := by
            unfold barX
            rw [List.any_eq_true]
            refine ⟨cAt cols x, ?_, ?_⟩
            · have : (cols.take (ftX cols (cAt cols x).2.toNat))[x]? = some (cAt cols x) := by
                rw [List.getElem?_take_of_lt hgt]; exact cAt_get hx
              exact List.mem_of_getElem? this
            · rw [Bool.and_eq_true, decide_eq_true_eq, decide_eq_true_eq]; omega
          rw [if_pos hb] at hr
          simp only [Option.some.injEq] at hr
          omega
        · rw [hrt2 _ hj] at hr
          cases hr)
      omega
    have hhi : ((hiX ((rtX cols).map some) x prev : Nat) : Int) = (cAt cols x).2 := by rw [hh]; omega
    rw [frX, hhi, List.drop_eq_getElem_cons hx]
    have e := cAt_get hx
    rw [List.getElem?_eq_getElem hx] at e
    injection e with e
    rw [e]
    congr 1
    by_cases hlast : n = 0
    · subst hlast
      have : ((lfX cols).map some)[x]? = none := by
        rw [List.getElem?_eq_none_iff]
        unfold lfX
        rw [List.length_map, List.length_map, List.length_range]; omega
      rw [this]
      simp only
      rw [List.drop_eq_nil_of_le (by omega)]
    · have hx1 : x + 1 < cols.length := by omega
      have hnx := g.good.nxt x _ _ (cAt_get hx) (cAt_get hx1)
      have hl : ((lfX cols).map some)[x]? = some (some (if (cAt cols (x + 1)).1 > (cAt cols x).1 then (cAt cols (x + 1)).1 else 0)) := by
        unfold lfX
        rw [List.getElem?_map, List.getElem?_map, List.getElem?_range (by omega)]; rfl
      rw [hl]
      simp only
      have ih := rows_back g n (x + 1) (hiX ((rtX cols).map some) x prev) (by omega) (by omega) (by rw [hhi]; exact hnx.2.2)
      by_cases hq : (cAt cols (x + 1)).1 > (cAt cols x).1
      · rw [if_pos hq, if_neg (by omega), if_pos hq]
        exact ih
      · rw [if_neg hq, if_neg (by omega), if_neg (by omega)]
        rw [show (cAt cols x).1 = (cAt cols (x + 1)).1 by omega]
        exact ih
theorem regFrom_rows {cols : Cols} (g : Reg cols) : regFrom ((lfX cols).map some) ((rtX cols).map some) = cols := by
  have hp := g.pos
  have hl : ((lfX cols).map some).length + 1 = cols.length := by
    unfold lfX
    rw [List.length_map, List.length_map, List.length_range]; omega
  have h0 := g.good.fst _ (cAt_get hp)
  have hall := g.good.all _ (List.mem_of_getElem? (cAt_get hp))
  have := rows_back g cols.length 0 0 (by omega) hp (by simp only [Int.natCast_zero]; omega)
  unfold regFrom
  rw [hl, ← h0]
  rw [h0] at this ⊢
  exact this
/-- what can stand in rows -/
def RwOk (a b : Rw) : Prop := ∀ o ∈ a, ∀ v, o = some v → 0 ≤ v ∧ v ≤ b.length
theorem eqDs_c : ∀ a b : Cols, eqDs (a.map cD) (b.map cD) = decide (a = b)
  | [], [] => by simp [eqDs]
  | [], _ :: _ => by simp [eqDs]
  | _ :: _, [] => by simp [eqDs]
  | (x, y) :: a, (x', y') :: b => by
    have ih := eqDs_c a b
    simp only [List.map_cons, eqDs, ih, cD, eqD]
    by_cases h1 : x = x' <;> by_cases h2 : y = y' <;> by_cases h3 : a = b <;> simp [h1, h2, h3]
theorem dpt_reg (a : Cols) : dpt (regD a) ≤ 4 := by
  have : dpts (a.map cD) ≤ 3 := dpts_le (n := 2) fun d hd => by
    obtain ⟨s, _, rfl⟩ := List.mem_map.mp hd
    exact dpt_iT [s.1, s.2]
  unfold regD
  rw [dpt]; omega
theorem V_eqreg (a b : Cols) : cmpD .eq (.v (regD a)) (.v (regD b)) = some (decide (a = b)) := by
  have h1 := dpt_reg a
  have e : eqD (regD a) (regD b) = decide (a = b) := by
    show eqD (.tup (a.map cD)) (.tup (b.map cD)) = _
    rw [eqD]; exact eqDs_c a b
  unfold cmpD eqR
  simp only
  rw [if_pos (by omega), e]
end VI
namespace VI
def fcX (cols : Cols) (x : Nat) : Int := if (cAt cols (x + 1)).1 = (cAt cols x).1 then (cAt cols x).1 + 1 else 1
def gcX (cols : Cols) (y : Nat) : Int := if barX cols y = true then 1 else (ftX cols y : Int) + 1
def prodI (l : List Int) : Int := l.foldl (fun a b => a * b) 1
def rcX (cols : Cols) : Int := prodI ((List.range (cols.length - 1)).map (fcX cols) ++ (List.range (endP cols).2.toNat).map (gcX cols))
theorem prod_snoc (l : List Int) (a : Int) : prodI (l ++ [a]) = prodI l * a := by unfold prodI; rw [List.foldl_append]; rfl
theorem prod_pos : ∀ (l : List Int) (a : Int), 0 < a → (∀ b ∈ l, 0 < b) → 0 < l.foldl (fun a b => a * b) a
  | [], a, h, _ => h
  | b :: l, a, h, hl => prod_pos l (a * b) (Int.mul_pos h (hl b (List.mem_cons_self ..))) fun c hc => hl c (List.mem_cons_of_mem _ hc)
theorem rc_pos {cols : Cols} (g : Reg cols) : 0 < rcX cols := by
  refine prod_pos _ _ (by decide) fun b hb => ?_
  rcases List.mem_append.mp hb with hb | hb
  · obtain ⟨x, hx, rfl⟩ := List.mem_map.mp hb
    rw [List.mem_range] at hx
    have := (g.good.all _ (List.mem_of_getElem? (cAt_get (cols := cols) (x := x) (by omega)))).1
    unfold fcX
    split <;> omega
  · obtain ⟨y, _, rfl⟩ := List.mem_map.mp hb
    unfold gcX
    split <;> omega
def faG (y : Nat) (d : D) : Option D := match d with | .tup [i, .tup [_, .int b]] => if (y : Int) < b then some i else none | _ => none
theorem first_at (y : Nat) : ∀ (cols : Cols) (n : Nat), (cols.findIdx fun c => decide ((y : Int) < c.2)) < cols.length → ∃ r, (enumD n (cols.map cD)).filterMap (faG y) = .int (n + (cols.findIdx fun c => decide ((y : Int) < c.2)) : Nat) :: r
  | [], n, h => by simp at h
  | (a, b) :: cols, n, h => by
    rw [List.map_cons, enumD, List.filterMap_cons]
    simp only [cD, faG]
    rw [List.findIdx_cons] at h ⊢
    by_cases hb : (y : Int) < b
    · simp only [hb, decide_true, cond_true, if_true]
      exact ⟨_, rfl⟩
    · simp only [hb, decide_false, cond_false, if_false] at h ⊢
      obtain ⟨r, e⟩ := first_at y cols (n + 1) (by simpa using h)
      refine ⟨r, ?_⟩
      rw [e]
      congr 3
      omega
theorem rw_some (l : List Int) : rwD (l.map some) = .tup (l.map .int) := by
  unfold rwD
  rw [List.map_map]; rfl
end VI

set_option Elab.async false
set_option linter.all false
set_option maxRecDepth 100000
set_option maxHeartbeats 4000000
set_option autoImplicit false
namespace VI
/-- the walks of so many steps -/
def wordsX (cols : Cols) : Int × Int → Nat → List (List Nat)
  | _, 0 => [[]]
  | s, m + 1 => (stepsP cols s).flatMap fun c => (wordsX cols (afterP s c) m).map fun v => c :: v
theorem lev_split (cols : Cols) : ∀ (m n : Nat), levP cols (n + m) = (levP cols n).flatMap fun p => (wordsX cols p.2 m).map fun v => (p.1 ++ v, lastX p.2 v)
  | 0, n => by
    have : ∀ l : List (List Nat × (Int × Int)), l = l.flatMap fun p => ([[]] : List (List Nat)).map fun v => (p.1 ++ v, lastX p.2 v) := by
      intro l
      induction l with
      | nil => rfl
      | cons p l ih => rw [List.flatMap_cons, ← ih]; simp [lastX]
    exact this _
  | m + 1, n => by
    rw [show n + (m + 1) = (n + 1) + m by omega, lev_split cols m (n + 1), levP, List.flatMap_assoc]
    congr 1
    funext p
    rw [wordsX, List.map_flatMap, List.flatMap_map]
    congr 1
    funext c
    rw [List.map_map]
    refine List.map_congr_left fun v _ => ?_
    simp [lastX]
section
variable {cols : Cols}
theorem words_len (g : Reg cols) : ∀ (m : Nat) (s : Int × Int), opn cols s.1 s.2 = true → rem cols s = m → (wordsX cols s m).length = nP cols s
  | 0, s, ho, hr => by
    have hle := g.le_end ho
    have : s = endP cols := by
      unfold rem at hr
      obtain ⟨x, y⟩ := s
      rw [show endP cols = ((endP cols).1, (endP cols).2) from rfl]
      simp only at *
      congr 1 <;> omega
    rw [this, nP_end g]; rfl
  | m + 1, s, ho, hr => by
    have hn : s ≠ endP cols := fun z => by
      rw [z] at hr
      unfold rem at hr; omega
    rw [nP_eq g, if_neg hn, wordsX, List.length_flatMap]
    congr 1
    refine List.map_congr_left fun c hc => ?_
    obtain ⟨h1, h2⟩ := mem_steps.mp hc
    rw [List.length_map]
    exact words_len g m _ h2 (by have := rem_after g h2; omega)
theorem count_flat {α β : Type} (q : β → Bool) (f : α → List β) : ∀ l : List α, (l.flatMap f).countP q = (l.map fun a => (f a).countP q).sum
  | [] => rfl
  | a :: l => by rw [List.flatMap_cons, List.countP_append, count_flat q f l, List.map_cons, List.sum_cons]
theorem sum_ite {α : Type} (p : α → Bool) (k : Nat) : ∀ l : List α, (l.map fun a => if p a = true then k else 0).sum = l.countP p * k
  | [] => by simp
  | a :: l => by
    rw [List.map_cons, List.sum_cons, sum_ite p k l, List.countP_cons]
    by_cases h : p a = true
    · rw [if_pos h, if_pos h, Nat.add_mul]; omega
    · rw [if_neg h, if_neg h, Nat.add_zero, Nat.zero_add]
/-- the ways to a span -/
theorem lev_count (g : Reg cols) : ∀ (n : Nat) (s : Int × Int), opn cols s.1 s.2 = true → s.1 + s.2 = n → (levP cols n).countP (fun p => decide (p.2 = s)) = aP cols s
  | 0, s, ho, hs => by
    have := g.le_end ho
    have e : s = (0, 0) := by
      obtain ⟨x, y⟩ := s
      simp only at *
      congr 1 <;> omega
    subst e
    rw [aP_zero g]; rfl
  | n + 1, s, ho, hs => by
    have hle := g.le_end ho
    rw [levP, count_flat, aP_nat g (by intro z; rw [z] at hs; simp only at hs; omega)]
    have key : ∀ p ∈ levP cols n, (((stepsP cols p.2).map fun c => (p.1 ++ [c], afterP p.2 c)).countP fun p => decide (p.2 = s)) = (if decide (p.2 = (s.1 - 1, s.2)) = true then 1 else 0) + (if decide (p.2 = (s.1, s.2 - 1)) = true then 1 else 0) := by
      rintro ⟨w, t⟩ _
      rw [List.countP_map]
      show ((stepsP cols t).countP fun c => decide (afterP t c = s)) = (if decide (t = (s.1 - 1, s.2)) = true then 1 else 0) + (if decide (t = (s.1, s.2 - 1)) = true then 1 else 0)
      obtain ⟨a, b⟩ := t
      obtain ⟨x, y⟩ := s
      simp only at *
      unfold stepsP
      rw [List.countP_append]
      congr 1
      · by_cases h : (a, b) = (x - 1, y)
        · injection h with h1 h2
          subst h1 h2
          have : opn cols (x - 1 + 1) b = true := by rw [show x - 1 + 1 = x by omega]; exact ho
          rw [if_pos this]
          simp [after_L, show x - 1 + 1 = x by omega]
        · have : ¬ (a + 1, b) = (x, y) := fun z => h (by injection z with z1 z2; rw [← z1, ← z2]; congr 1; omega)
          split <;> simp [this, h]
      · by_cases h : (a, b) = (x, y - 1)
        · injection h with h1 h2
          subst h1 h2
          have : opn cols a (y - 1 + 1) = true := by rw [show y - 1 + 1 = y by omega]; exact ho
          rw [if_pos this]
          simp [after_R, show y - 1 + 1 = y by omega]
        · have : ¬ (a, b + 1) = (x, y) := fun z => h (by injection z with z1 z2; rw [← z1, ← z2]; congr 1; omega)
          split <;> simp [this, h]
    rw [List.map_congr_left key]
    have hsum : ∀ (f h : List Nat × (Int × Int) → Nat) (l : List (List Nat × (Int × Int))), (l.map fun p => f p + h p).sum = (l.map f).sum + (l.map h).sum := by
      intro f h l
      induction l with
      | nil => rfl
      | cons p l ih => rw [List.map_cons, List.sum_cons, ih, List.map_cons, List.sum_cons, List.map_cons, List.sum_cons]; omega
    rw [hsum, sum_ite, sum_ite, Nat.mul_one, Nat.mul_one]
    have none : ∀ t : Int × Int, ¬ opn cols t.1 t.2 = true → (levP cols n).countP (fun p => decide (p.2 = t)) = 0 := fun t ht => by
      rw [List.countP_eq_zero]
      rintro ⟨w, u⟩ hm hh
      have hu : opn cols u.1 u.2 = true := ((mem_lev.mp hm).2).open_last g.start_open
      have e : u = t := of_decide_eq_true hh
      rw [e] at hu
      exact ht hu
    congr 1
    · by_cases h : opn cols (s.1 - 1) s.2 = true
      · rw [if_pos h]; exact lev_count g n (s.1 - 1, s.2) h (by simp only; omega)
      · rw [if_neg h]; exact none (s.1 - 1, s.2) h
    · by_cases h : opn cols s.1 (s.2 - 1) = true
      · rw [if_pos h]; exact lev_count g n (s.1, s.2 - 1) h (by simp only; omega)
      · rw [if_neg h]; exact none (s.1, s.2 - 1) h
/-- the plays that come to s -/
theorem through_count (g : Reg cols) {s : Int × Int} (ho : opn cols s.1 s.2 = true) {n : Nat} (hn : s.1 + s.2 = n) : (listP cols).countP (fun w => decide (lastX (0, 0) (w.take n) = s)) = aP cols s * nP cols s := by
  have hle := g.le_end ho
  have hes := g.end_sum
  obtain ⟨m, hm⟩ : ∃ m : Nat, ((endP cols).1 + (endP cols).2).toNat = n + m := ⟨((endP cols).1 + (endP cols).2).toNat - n, by omega⟩
  unfold listP
  rw [hm, lev_split, List.map_flatMap, count_flat]
  have key : ∀ p ∈ levP cols n, ((((wordsX cols p.2 m).map fun v => (p.1 ++ v, lastX p.2 v)).map (·.1)).countP fun w => decide (lastX (0, 0) (w.take n) = s)) = if decide (p.2 = s) = true then nP cols s else 0 := by
    rintro ⟨w, t⟩ hp
    obtain ⟨hw1, hw2⟩ := mem_lev.mp hp
    rw [List.map_map, List.countP_map]
    have hl : ∀ v, lastX (0, 0) ((w ++ v).take n) = t := fun v => by
      rw [List.take_append_of_le_length (by omega), List.take_of_length_le (by omega), hw2.last]
    by_cases h : t = s
    · subst h
      rw [if_pos (decide_eq_true rfl)]
      rw [← words_len g m t ho (by unfold rem; omega)]
      rw [List.countP_eq_length]
      intro v _
      simp only [Function.comp, hl, decide_true]
    · rw [if_neg (by simpa using h), List.countP_eq_zero]
      intro v _
      simp only [Function.comp, hl]
      simpa using h
  rw [List.map_congr_left key, sum_ite, lev_count g n s ho hn]
/-- the plays that go from s by c -/
theorem step_count (g : Reg cols) {s : Int × Int} {c : Nat} (ho : opn cols s.1 s.2 = true) (hc : c = 76 ∨ c = 82) (ht : opn cols (afterP s c).1 (afterP s c).2 = true) {n : Nat} (hn : s.1 + s.2 = n) :
    (listP cols).countP (fun w => decide (lastX (0, 0) (w.take n) = s) && decide (w[n]? = some c)) = aP cols s * nP cols (afterP s c) := by
  have hle := g.le_end ho
  have hes := g.end_sum
  have hrem := rem_after g ht
  obtain ⟨m, hm⟩ : ∃ m : Nat, ((endP cols).1 + (endP cols).2).toNat = n + (m + 1) := ⟨rem cols (afterP s c), by unfold rem at hrem ⊢; omega⟩
  unfold listP
  rw [hm, lev_split, List.map_flatMap, count_flat]
  have key : ∀ p ∈ levP cols n, ((((wordsX cols p.2 (m + 1)).map fun v => (p.1 ++ v, lastX p.2 v)).map (·.1)).countP fun w => decide (lastX (0, 0) (w.take n) = s) && decide (w[n]? = some c)) = if decide (p.2 = s) = true then nP cols (afterP s c) else 0 := by
    rintro ⟨w, t⟩ hp
    obtain ⟨hw1, hw2⟩ := mem_lev.mp hp
    rw [List.map_map, List.countP_map]
    have hl : ∀ v, lastX (0, 0) ((w ++ v).take n) = t := fun v => by
      rw [List.take_append_of_le_length (by omega), List.take_of_length_le (by omega), hw2.last]
    have hg : ∀ v : List Nat, (w ++ v)[n]? = v[0]? := fun v => by
      rw [List.getElem?_append_right (by omega), show n - w.length = 0 by omega]
    by_cases h : t = s
    · subst h
      rw [if_pos (decide_eq_true rfl)]
      have e : (wordsX cols t (m + 1)).countP ((fun w => decide (lastX (0, 0) (w.take n) = t) && decide (w[n]? = some c)) ∘ ((·.1) ∘ fun v => (w ++ v, lastX t v))) = (wordsX cols t (m + 1)).countP fun v => decide (v[0]? = some c) := by
        refine List.countP_congr fun v _ => ?_
        simp only [Function.comp, hl, hg, decide_true, Bool.true_and]
      rw [e, wordsX, count_flat]
      have one : ∀ d ∈ stepsP cols t, (((wordsX cols (afterP t d) m).map fun v => d :: v).countP fun v => decide (v[0]? = some c)) = if decide (d = c) = true then nP cols (afterP t c) else 0 := by
        intro d hd
        obtain ⟨h1, h2⟩ := mem_steps.mp hd
        rw [List.countP_map]
        by_cases hdc : d = c
        · subst hdc
          rw [if_pos (decide_eq_true rfl), ← words_len g m _ h2 (by unfold rem at hrem ⊢; omega), List.countP_eq_length]
          intro v _; simp
        · rw [if_neg (by simpa using hdc), List.countP_eq_zero]
          intro v _; simpa using hdc
      rw [List.map_congr_left one, sum_ite]
      have : (stepsP cols t).countP (fun d => decide (d = c)) = 1 := by
        unfold stepsP
        rcases hc with rfl | rfl
        · simp only [after_L] at ht
          rw [if_pos ht]
          split <;> simp
        · simp only [after_R] at ht
          rw [if_pos ht]
          split <;> simp
      rw [this, Nat.one_mul]
    · rw [if_neg (by simpa using h), List.countP_eq_zero]
      intro v _
      simp only [Function.comp, hl]
      simp [h]
  rw [List.map_congr_left key, sum_ite, lev_count g n s ho hn]
end
end VI

set_option Elab.async false
set_option linter.all false
set_option maxRecDepth 100000
set_option maxHeartbeats 4000000
set_option autoImplicit false
namespace VI
def plX (w : List Nat) (r : Int) : Nat := (roomsP w).findIdx fun x => decide (x = r)
theorem Wk_step {cols : Cols} : ∀ {w : List Nat} {s t : Int × Int} {i : Nat} {c : Nat}, Wk cols s w t → w[i]? = some c → (c = 76 ∨ c = 82) ∧ opn cols (afterP (lastX s (w.take i)) c).1 (afterP (lastX s (w.take i)) c).2 = true
  | [], _, _, _, _, _, h => by simp at h
  | d :: r, s, t, 0, c, hw, h => by
    simp at h; subst h
    exact ⟨hw.1, hw.2.1⟩
  | d :: r, s, t, i + 1, c, hw, h => Wk_step (w := r) (s := afterP s d) (i := i) hw.2.2 (by simpa using h)
theorem last_take_succ {w : List Nat} {n c : Nat} (s : Int × Int) (h : w[n]? = some c) : lastX s (w.take (n + 1)) = afterP (lastX s (w.take n)) c := by
  rw [List.take_add_one, h]
  exact lastX_snoc _ _ _
theorem rooms_at : ∀ (w : List Nat) (s : Int × Int) (n c : Nat), w[n]? = some c → (roomsX s w)[n]? = some (roomOf (lastX s (w.take n)) c)
  | [], _, _, _, h => by simp at h
  | d :: r, s, 0, c, h => by simp at h; subst h; rfl
  | d :: r, s, n + 1, c, h => by
    rw [roomsX, List.getElem?_cons_succ, rooms_at r (afterP s d) n c (by simpa using h)]
    rfl
section
variable {cols : Cols}
theorem take_open (g : Reg cols) {w : List Nat} (h : Wk cols (0, 0) w (endP cols)) (n : Nat) : opn cols (lastX (0, 0) (w.take n)).1 (lastX (0, 0) (w.take n)).2 = true ∧ 0 ≤ (lastX (0, 0) (w.take n)).1 ∧ 0 ≤ (lastX (0, 0) (w.take n)).2 ∧ (lastX (0, 0) (w.take n)).1 + (lastX (0, 0) (w.take n)).2 = (w.take n).length := by
  have hsp : w.take n ++ w.drop n = w := List.take_append_drop _ _
  have hw := h
  rw [← hsp] at hw
  have ha := (hw.append).1
  have ho := ha.open_last g.start_open
  have h3 := (g.word_len ha).2.2.2.2.2
  have h4 := g.le_end ho
  exact ⟨ho, h4.1, h4.2.1, h3⟩
theorem last_mono (g : Reg cols) {w : List Nat} (h : Wk cols (0, 0) w (endP cols)) : ∀ (d n : Nat), n + d ≤ w.length → (lastX (0, 0) (w.take n)).1 ≤ (lastX (0, 0) (w.take (n + d))).1 ∧ (lastX (0, 0) (w.take n)).2 ≤ (lastX (0, 0) (w.take (n + d))).2
  | 0, n, _ => ⟨Int.le_refl _, Int.le_refl _⟩
  | d + 1, n, hl => by
    have ih := last_mono g h d n (by omega)
    obtain ⟨c, hc⟩ : ∃ c, w[n + d]? = some c := ⟨w[n + d]'(by omega), List.getElem?_eq_getElem _⟩
    have e := last_take_succ (0, 0) hc
    rw [show n + (d + 1) = n + d + 1 by omega, e]
    rcases (Wk_step h hc).1 with rfl | rfl
    · simp only [after_L]; omega
    · simp only [after_R]; omega
/-- the span ahead of the entry of r with n rooms walked -/
def sbX (r : Int) (n : Nat) : Int × Int := if r < 0 then (-r - 1, (n : Int) + r + 1) else ((n : Int) - r + 1, r - 1)
def sgX (r : Int) : Nat := if r < 0 then 76 else 82
theorem room_iff (g : Reg cols) {w : List Nat} (h : Wk cols (0, 0) w (endP cols)) {r : Int} (hr : r ≠ 0) (n : Nat) : (roomsP w)[n + 1]? = some r ↔ lastX (0, 0) (w.take n) = sbX r n ∧ w[n]? = some (sgX r) := by
  unfold roomsP
  rw [List.getElem?_cons_succ]
  by_cases hl : n < w.length
  · obtain ⟨c, hc⟩ : ∃ c, w[n]? = some c := ⟨w[n], List.getElem?_eq_getElem hl⟩
    obtain ⟨ho, t1, t2, t3⟩ := take_open g h n
    rw [rooms_at w (0, 0) n c hc, hc]
    rw [List.length_take, Nat.min_eq_left (by omega)] at t3
    generalize lastX (0, 0) (w.take n) = s at *
    obtain ⟨x, y⟩ := s
    simp only at t1 t2 t3
    unfold roomOf sbX sgX
    rcases (Wk_step h hc).1 with rfl | rfl
    · by_cases hn : r < 0
      · simp only [if_true, hn, Option.some.injEq, and_true, Prod.mk.injEq]
        constructor
        · intro e; omega
        · intro e; omega
      · simp only [if_true, hn, if_false, Option.some.injEq]
        constructor
        · intro e; omega
        · intro e; exact absurd e.2 (by decide)
    · by_cases hn : r < 0
      · simp only [hn, if_true, Option.some.injEq]
        constructor
        · intro e; simp at e; omega
        · intro e; exact absurd e.2 (by decide)
      · simp only [hn, if_false, Option.some.injEq, and_true, Prod.mk.injEq]
        constructor
        · intro e; simp at e; omega
        · intro e; simp; omega
  · have h1 : w[n]? = none := List.getElem?_eq_none_iff.mpr (by omega)
    have h2 : (roomsX (0, 0) w)[n]? = none := List.getElem?_eq_none_iff.mpr (by rw [roomsX_len]; omega)
    rw [h1, h2]
    constructor
    · intro e; cases e
    · intro e; cases e.2
/-- each room is entered once -/
theorem room_once (g : Reg cols) {w : List Nat} (h : Wk cols (0, 0) w (endP cols)) {r : Int} {a b : Nat} (ha : (roomsP w)[a]? = some r) (hb : (roomsP w)[b]? = some r) : a = b := by
  have key : ∀ a b : Nat, a < b → (roomsP w)[a]? = some r → (roomsP w)[b]? = some r → False := by
    intro a b hab ha hb
    obtain ⟨m, rfl⟩ : ∃ m, b = m + 1 := ⟨b - 1, by omega⟩
    have hbl : m < w.length := by
      have := (List.getElem?_eq_some_iff.mp hb).1
      unfold roomsP at this
      rw [List.length_cons, roomsX_len] at this; omega
    by_cases hr : r = 0
    · subst hr
      unfold roomsP at hb
      rw [List.getElem?_cons_succ] at hb
      obtain ⟨c, hc⟩ : ∃ c, w[m]? = some c := ⟨w[m], List.getElem?_eq_getElem hbl⟩
      rw [rooms_at w (0, 0) m c hc] at hb
      obtain ⟨ho, t1, t2, t3⟩ := take_open g h m
      injection hb with hb
      unfold roomOf at hb
      split at hb <;> omega
    · obtain ⟨e1, e2⟩ := (room_iff g h hr m).mp hb
      cases a with
      | zero => exact hr (by unfold roomsP at ha; simpa using ha.symm)
      | succ a =>
        obtain ⟨f1, f2⟩ := (room_iff g h hr a).mp ha
        have hm := last_mono g h (m - (a + 1)) (a + 1) (by omega)
        rw [show a + 1 + (m - (a + 1)) = m by omega, last_take_succ (0, 0) f2, f1, e1] at hm
        unfold sbX sgX at hm
        by_cases hn : r < 0
        · simp only [hn, if_true, after_L] at hm; omega
        · simp only [hn, if_false, after_R] at hm; omega
  rcases Nat.lt_trichotomy a b with q | q | q
  · exact (key a b q ha hb).elim
  · exact q
  · exact (key b a q hb ha).elim
/-- each room is entered -/
theorem room_some (g : Reg cols) {w : List Nat} (h : Wk cols (0, 0) w (endP cols)) {r : Int} (hr : -(endP cols).1 ≤ r ∧ r ≤ (endP cols).2) : ∃ n : Nat, (roomsP w)[n]? = some r := by
  by_cases h0 : r = 0
  · exact ⟨0, by subst h0; rfl⟩
  · have hend : lastX (0, 0) (w.take w.length) = endP cols := by rw [List.take_length, h.last]
    by_cases hn : r < 0
    · -- the first time that so many lie to the left
      have main : ∀ k : Nat, k ≤ w.length → -r ≤ (lastX (0, 0) (w.take k)).1 → ∃ n : Nat, (roomsP w)[n]? = some r := by
        intro k
        induction k with
        | zero => intro _ hk; simp [lastX] at hk; omega
        | succ k ih =>
          intro hkl hk
          by_cases hprev : -r ≤ (lastX (0, 0) (w.take k)).1
          · exact ih (by omega) hprev
          · obtain ⟨c, hc⟩ : ∃ c, w[k]? = some c := ⟨w[k]'(by omega), List.getElem?_eq_getElem _⟩
            obtain ⟨ho, t1, t2, t3⟩ := take_open g h k
            rw [List.length_take, Nat.min_eq_left (by omega)] at t3
            rw [last_take_succ (0, 0) hc] at hk
            refine ⟨k + 1, (room_iff g h h0 k).mpr ?_⟩
            unfold sbX sgX
            rw [if_pos hn, if_pos hn, hc]
            rcases (Wk_step h hc).1 with rfl | rfl
            · simp only [after_L] at hk
              refine ⟨?_, rfl⟩
              generalize lastX (0, 0) (w.take k) = s at *
              obtain ⟨x, y⟩ := s
              simp only at *
              congr 1 <;> omega
            · simp only [after_R] at hk; omega
      exact main w.length (Nat.le_refl _) (by rw [hend]; omega)
    · have main : ∀ k : Nat, k ≤ w.length → r ≤ (lastX (0, 0) (w.take k)).2 → ∃ n : Nat, (roomsP w)[n]? = some r := by
        intro k
        induction k with
        | zero => intro _ hk; simp [lastX] at hk; omega
        | succ k ih =>
          intro hkl hk
          by_cases hprev : r ≤ (lastX (0, 0) (w.take k)).2
          · exact ih (by omega) hprev
          · obtain ⟨c, hc⟩ : ∃ c, w[k]? = some c := ⟨w[k]'(by omega), List.getElem?_eq_getElem _⟩
            obtain ⟨ho, t1, t2, t3⟩ := take_open g h k
            rw [List.length_take, Nat.min_eq_left (by omega)] at t3
            rw [last_take_succ (0, 0) hc] at hk
            refine ⟨k + 1, (room_iff g h h0 k).mpr ?_⟩
            unfold sbX sgX
            rw [if_neg hn, if_neg hn, hc]
            rcases (Wk_step h hc).1 with rfl | rfl
            · simp only [after_L] at hk; omega
            · simp only [after_R] at hk
              refine ⟨?_, rfl⟩
              generalize lastX (0, 0) (w.take k) = s at *
              obtain ⟨x, y⟩ := s
              simp only at *
              congr 1 <;> omega
      exact main w.length (Nat.le_refl _) (by rw [hend]; omega)
theorem plX_iff (g : Reg cols) {w : List Nat} (h : Wk cols (0, 0) w (endP cols)) {r : Int} (hr : -(endP cols).1 ≤ r ∧ r ≤ (endP cols).2) (n : Nat) : plX w r = n ↔ (roomsP w)[n]? = some r := by
  obtain ⟨m, hm⟩ := room_some g h hr
  have hl : plX w r < (roomsP w).length := by
    unfold plX
    rw [List.findIdx_lt_length]
    exact ⟨r, List.mem_of_getElem? hm, decide_eq_true rfl⟩
  have hp : (roomsP w)[plX w r]? = some r := by
    have h1 := List.findIdx_getElem (p := fun x : Int => decide (x = r)) (xs := roomsP w) (w := hl)
    have h2 := of_decide_eq_true h1
    rw [List.getElem?_eq_getElem hl]
    exact congrArg some h2
  constructor
  · intro e; rw [← e]; exact hp
  · intro e; exact room_once g h hp e
/-- the plays that enter r behind n rooms -/
theorem place_count (g : Reg cols) {r : Int} (h0 : r ≠ 0) (hr : -(endP cols).1 ≤ r ∧ r ≤ (endP cols).2) (n : Nat) : (listP cols).countP (fun w => decide (plX w r = n + 1)) = if opn cols (sbX r n).1 (sbX r n).2 = true ∧ opn cols (afterP (sbX r n) (sgX r)).1 (afterP (sbX r n) (sgX r)).2 = true then aP cols (sbX r n) * nP cols (afterP (sbX r n) (sgX r)) else 0 := by
  have e : (listP cols).countP (fun w => decide (plX w r = n + 1)) = (listP cols).countP fun w => decide (lastX (0, 0) (w.take n) = sbX r n) && decide (w[n]? = some (sgX r)) := by
    refine List.countP_congr fun w hw => ?_
    have hk := (mem_listP g).mp hw
    rw [decide_eq_true_eq, Bool.and_eq_true, decide_eq_true_eq, decide_eq_true_eq, plX_iff g hk hr, room_iff g hk h0]
  rw [e]
  have hsg : sgX r = 76 ∨ sgX r = 82 := by unfold sgX; split <;> simp
  split
  · rename_i h
    exact step_count g h.1 hsg h.2 (by unfold sbX; split <;> simp only <;> omega)
  · rename_i h
    rw [List.countP_eq_zero]
    intro w hw hh
    have hk := (mem_listP g).mp hw
    rw [Bool.and_eq_true, decide_eq_true_eq, decide_eq_true_eq] at hh
    have h1 := (take_open g hk n).1
    have h2 := (Wk_step hk hh.2).2
    rw [hh.1] at h1 h2
    exact h ⟨h1, h2⟩
end
end VI

set_option Elab.async false
set_option linter.all false
set_option maxRecDepth 100000
set_option maxHeartbeats 4000000
set_option autoImplicit false
namespace VI
theorem lay_ints : ∀ l : List Int, PySem.PyData.canLayAll0 (toPys (l.map D.int)) = true
  | [] => rfl
  | i :: l => by
    rw [List.map_cons, toPys, PySem.PyData.canLayAll0, lay_ints l]; rfl
theorem dep_ints : ∀ l : List Int, PySem.PyData.depthAll (toPys (l.map D.int)) ≤ 1
  | [] => Nat.le_of_ble_eq_true rfl
  | i :: l => by
    have := dep_ints l
    rw [List.map_cons, toPys, PySem.PyData.depthAll]
    have h1 : (toPy (D.int i)).depth ≤ 1 := Nat.le_of_ble_eq_true rfl
    omega
theorem shp_ints (l : List Int) : PySem.SeqAt.shaped (.list (toPys (l.map D.int))) = true := by
  have h1 : (PySem.PyData.list (toPys (l.map D.int))).canLay0 = true := lay_ints l
  have h2 : (PySem.PyData.list (toPys (l.map D.int))).depth ≤ 64 := by
    have := dep_ints l
    rw [PySem.PyData.depth]; omega
  simp [PySem.SeqAt.shaped, h1, h2]
theorem shp_int (a : Int) : PySem.SeqAt.shaped (toPy (.int a)) = true := by
  have h1 : (PySem.PyData.int a).canLay0 = true := rfl
  have h2 : (PySem.PyData.int a).depth ≤ 64 := Nat.le_of_ble_eq_true rfl
  simp [toPy, PySem.SeqAt.shaped, h1, h2]
theorem idx_ints (r : Int) : ∀ l : List Int, r ∈ l → idxD (.int r) (l.map D.int) = some (l.findIdx fun x => decide (x = r))
  | [], h => by cases h
  | x :: l, h => by
    rw [List.map_cons, idxD, List.findIdx_cons]
    have e : eqD (.int x) (.int r) = decide (x = r) := by simp [eqD]
    rw [e]
    by_cases hx : x = r
    · simp [hx]
    · have hm : r ∈ l := (List.mem_cons.mp h).resolve_left (fun z => hx z.symm)
      rw [idx_ints r l hm]
      simp [hx]
theorem index_ints {r : Int} {l : List Int} (h : r ∈ l) : mD "index" (.v (.lst (l.map .int))) [.v (.int r)] = some (.v (.int (l.findIdx fun x => decide (x = r) : Nat))) := by
  show (lstR (.v (.lst (l.map .int)))).bind (fun ds => (pyR (.v (.int r))).bind fun d => if (PySem.SeqAt.shaped (.list (toPys ds)) && PySem.SeqAt.shaped (toPy d)) = true then (idxD d ds).map fun (j : Nat) => Rt.v (.int (j : Int)) else none) = _
  simp [lstR, pyR, shp_ints, shp_int, idx_ints r l h]
theorem count_ints (r : Int) (l : List Int) : mD "count" (.o (.lst (l.map .int))) [.v (.int r)] = some (.v (.int (l.count r : Nat))) := by
  show (lstR (.o (.lst (l.map .int)))).bind (fun ds => (intL ds).map fun ns => Rt.v (.int (ns.count r : Nat))) = _
  simp [lstR, intL_map]
/-- numbers below a bound, by how often each is there -/
theorem sum_counts : ∀ (l : List Nat) (n : Nat), (∀ x ∈ l, x < n) → ((List.range n).map fun i => i * l.count i).sum = l.sum ∧ ((List.range n).map fun i => l.count i).sum = l.length
  | [], n, _ => by
    constructor
    · have : ∀ m : List Nat, (m.map fun i => i * ([] : List Nat).count i).sum = 0 := fun m => by
        induction m with
        | nil => rfl
        | cons a m ih => rw [List.map_cons, List.sum_cons, ih]; simp
      rw [this]; rfl
    · have : ∀ m : List Nat, (m.map fun i => ([] : List Nat).count i).sum = 0 := fun m => by
        induction m with
        | nil => rfl
        | cons a m ih => rw [List.map_cons, List.sum_cons, ih]; simp
      rw [this]; rfl
  | x :: l, n, h => by
    obtain ⟨h1, h2⟩ := sum_counts l n fun y hy => h y (List.mem_cons_of_mem _ hy)
    have hx := h x (List.mem_cons_self ..)
    have one : ∀ (f : Nat → Nat) (m : Nat), ((List.range m).map fun i => f i * (if x = i then 1 else 0)).sum = if x < m then f x else 0 := by
      intro f m
      induction m with
      | zero => rfl
      | succ m ih =>
        rw [List.range_succ, List.map_append, List.sum_append, ih]
        simp only [List.map_cons, List.map_nil, List.sum_cons, List.sum_nil]
        by_cases e : x = m
        · subst e; simp
        · by_cases e2 : x < m
          · simp [e, e2]; omega
          · have : ¬ x < m + 1 := by omega
            simp [e, e2, this]
    have add : ∀ (f h : Nat → Nat) (m : List Nat), (m.map fun i => f i + h i).sum = (m.map f).sum + (m.map h).sum := by
      intro f h m
      induction m with
      | nil => rfl
      | cons a m ih => rw [List.map_cons, List.sum_cons, ih, List.map_cons, List.sum_cons, List.map_cons, List.sum_cons]; omega
    have hc : ∀ i, (x :: l).count i = l.count i + if x = i then 1 else 0 := fun i => by
      rw [List.count_cons]
      by_cases e : x = i <;> simp [e]
    constructor
    · have e : (fun i => i * (x :: l).count i) = fun i => i * l.count i + i * (if x = i then 1 else 0) := by
        funext i
        rw [hc, Nat.mul_add]
      rw [e, add, h1, one (fun i => i) n, if_pos hx, List.sum_cons]
      omega
    · have e : (fun i => (x :: l).count i) = fun i => l.count i + 1 * (if x = i then 1 else 0) := by
        funext i
        rw [hc, Nat.one_mul]
      rw [e, add, h2, one (fun _ => 1) n, if_pos hx, List.length_cons]
end VI
namespace VI
def szE (p : (Int × Int) × (Int × Int)) : Int := p.1.1 + p.1.2 + 1
def eS (cols : Cols) (l : List ((Int × Int) × (Int × Int))) (at' : Nat) : Nat := ((l.filter fun p => decide (szE p = (at' : Int))).map fun p => aP cols p.1 * nP cols p.2).sum
theorem eS_snoc (cols : Cols) (l : List ((Int × Int) × (Int × Int))) (p : (Int × Int) × (Int × Int)) (n : Nat) : eS cols (l ++ [p]) n = eS cols l n + if szE p = (n : Int) then aP cols p.1 * nP cols p.2 else 0 := by
  unfold eS
  rw [List.filter_append, List.map_append, List.sum_append]
  by_cases h : szE p = (n : Int) <;> simp [h]
theorem set_range (f : Nat → D) (n k : Nat) (d : D) : ((List.range n).map f).set k d = (List.range n).map fun i => if i = k then d else f i := by
  refine List.ext_getElem? fun i => ?_
  rw [List.getElem?_set, List.getElem?_map, List.getElem?_map, List.length_map, List.length_range]
  by_cases hi : i < n
  · rw [List.getElem?_range hi]
    by_cases e : k = i
    · subst e; simp [hi]
    · have : ¬ i = k := fun z => e z.symm
      simp [e, this]
  · rw [List.getElem?_eq_none_iff.mpr (by rw [List.length_range]; omega)]
    by_cases e : k = i
    · subst e; simp [hi]
    · simp [e]
section
variable {cols : Cols}
theorem ent_sb {r : Int} (h0 : r ≠ 0) (s : Int × Int) (n : Nat) : (entB cols r s && decide (s.1 + s.2 + 1 = ((n + 1 : Nat) : Int))) = (decide (s = sbX r n) && opn cols (afterP (sbX r n) (sgX r)).1 (afterP (sbX r n) (sgX r)).2) := by
  obtain ⟨x, y⟩ := s
  unfold entB entS sbX sgX
  by_cases hn : r < 0
  · simp only [hn, if_true, after_L]
    by_cases e : (x, y) = (-r - 1, (n : Int) + r + 1)
    · have e1 := congrArg Prod.fst e
      have e2 := congrArg Prod.snd e
      simp only at e1 e2
      have a1 : x + 1 = -r := by omega
      have a2 : x + y + 1 = ((n + 1 : Nat) : Int) := by omega
      rw [decide_eq_true e, decide_eq_true a1, decide_eq_true a2, e1, e2]
      simp
    · rw [decide_eq_false e, Bool.false_and]
      by_cases a1 : x + 1 = -r
      · have a2 : ¬ x + y + 1 = ((n + 1 : Nat) : Int) := fun z => e (by congr 1 <;> omega)
        rw [decide_eq_false a2, Bool.and_false]
      · rw [decide_eq_false a1]; rfl
  · simp only [hn, if_false, after_R]
    by_cases e : (x, y) = ((n : Int) - r + 1, r - 1)
    · have e1 := congrArg Prod.fst e
      have e2 := congrArg Prod.snd e
      simp only at e1 e2
      have a1 : y + 1 = r := by omega
      have a2 : x + y + 1 = ((n + 1 : Nat) : Int) := by omega
      rw [decide_eq_true e, decide_eq_true a1, decide_eq_true a2, e1, e2]
      simp
    · rw [decide_eq_false e, Bool.false_and]
      by_cases a1 : y + 1 = r
      · have a2 : ¬ x + y + 1 = ((n + 1 : Nat) : Int) := fun z => e (by congr 1 <;> omega)
        rw [decide_eq_false a2, Bool.and_false]
      · rw [decide_eq_false a1]; rfl
theorem ent_after {r : Int} (n : Nat) : entS r (sbX r n) = afterP (sbX r n) (sgX r) := by
  unfold entS sgX
  split <;> simp only [after_L, after_R]
theorem eS_ent (g : Reg cols) {r : Int} (h0 : r ≠ 0) (hr : -(endP cols).1 ≤ r ∧ r ≤ (endP cols).2) (n : Nat) : eS cols (entP cols r) n = (listP cols).countP (fun w => decide (plX w r = n)) := by
  cases n with
  | zero =>
    have h1 : (listP cols).countP (fun w => decide (plX w r = 0)) = 0 := by
      rw [List.countP_eq_zero]
      intro w hw hh
      have := (plX_iff g ((mem_listP g).mp hw) hr 0).mp (of_decide_eq_true hh)
      unfold roomsP at this
      simp at this
      exact h0 this.symm
    rw [h1]
    unfold eS
    have : (entP cols r).filter (fun p => decide (szE p = ((0 : Nat) : Int))) = [] := by
      rw [List.filter_eq_nil_iff]
      intro p hp hh
      have h2 := of_decide_eq_true hh
      have h3 := g.le_end (mem_entP.mp hp).1
      unfold szE at h2
      omega
    rw [this]; rfl
  | succ n =>
    rw [place_count g h0 hr]
    unfold eS entP
    rw [List.filter_map, List.map_map, List.filter_filter]
    have e : (fun a : Int × Int => ((fun p : (Int × Int) × (Int × Int) => decide (szE p = ((n + 1 : Nat) : Int))) ∘ fun s => (s, entS r s)) a && entB cols r a) = fun s => (decide (s = sbX r n) && opn cols (afterP (sbX r n) (sgX r)).1 (afterP (sbX r n) (sgX r)).2) := by
      funext s
      rw [← ent_sb h0, Bool.and_comm]; rfl
    rw [e]
    by_cases ho : opn cols (afterP (sbX r n) (sgX r)).1 (afterP (sbX r n) (sgX r)).2 = true
    · have e2 : (fun s : Int × Int => (decide (s = sbX r n) && opn cols (afterP (sbX r n) (sgX r)).1 (afterP (sbX r n) (sgX r)).2)) = fun s => (fun _ => false) s || decide (s = sbX r n) := by
        funext s; rw [ho, Bool.and_true, Bool.false_or]
      rw [e2, sum_or (fun _ => false) _ (sbX r n) rfl _ (spans_nodup cols)]
      have : ((spansP cols).filter fun _ => false) = [] := by simp
      rw [this]
      simp only [List.map_nil, List.sum_nil, Nat.zero_add, Function.comp, ent_after]
      by_cases hs : opn cols (sbX r n).1 (sbX r n).2 = true
      · rw [if_pos (mem_spans'.mpr hs), if_pos ⟨hs, ho⟩]
      · rw [if_neg (fun z => hs (mem_spans'.mp z)), if_neg (fun z => hs z.1)]
    · rw [if_neg (fun z => ho z.2)]
      have : (spansP cols).filter (fun s => (decide (s = sbX r n) && opn cols (afterP (sbX r n) (sgX r)).1 (afterP (sbX r n) (sgX r)).2)) = [] := by
        rw [List.filter_eq_nil_iff]
        intro s _ hh
        rw [Bool.and_eq_true] at hh
        exact ho hh.2
      rw [this]; rfl
theorem pl_zero (w : List Nat) : plX w 0 = 0 := by
  unfold plX roomsP
  rw [List.findIdx_cons]; simp
/-- how many plays enter the room behind so many -/
def ecX (cols : Cols) (r : Int) (n : Nat) : Nat := (listP cols).countP fun w => decide (plX w r = n)
theorem ec_zero (g : Reg cols) (n : Nat) : ecX cols 0 n = if n = 0 then nP cols (0, 0) else 0 := by
  unfold ecX
  split
  · rename_i h
    subst h
    rw [← listP_len g, List.countP_eq_length]
    intro w _
    rw [pl_zero]; rfl
  · rename_i h
    rw [List.countP_eq_zero]
    intro w _ hh
    have := of_decide_eq_true hh
    rw [pl_zero] at this
    exact h this.symm
end
end VI
namespace VI
theorem V_rep (x : List D) (k : Int) : opD .mul (.o (.lst x)) (.v (.int k)) = if Nat.ble k.natAbs 1000000 = true ∧ x.length * k.toNat ≤ Lm then some (.o (.lst (List.replicate k.toNat x).flatten)) else none := rfl
theorem rep_one (d : D) (n : Nat) (h : n ≤ 1000000) : opD .mul (.o (.lst [d])) (.v (.int n)) = some (.o (.lst ((List.range n).map fun _ => d))) := by
  have e : (List.replicate (n : Int).toNat [d]).flatten = (List.range n).map fun _ => d := by
    rw [Int.toNat_natCast]
    clear h
    induction n with
    | zero => rfl
    | succ m ih =>
      rw [List.replicate_succ', List.flatten_append, ih, List.range_succ, List.map_append]; rfl
  have hl : [d].length * (n : Int).toNat ≤ Lm := by
    rw [List.length_singleton, Int.toNat_natCast, Nat.one_mul]
    exact Nat.le_trans h (Nat.le_of_ble_eq_true rfl)
  rw [V_rep, if_pos ⟨Nat.ble_eq_true_of_le (by omega), hl⟩, e]
end VI

set_option Elab.async false
set_option linter.all false
set_option maxRecDepth 100000
set_option maxHeartbeats 4000000
set_option autoImplicit false
/-! VL: loops as folds. -/
namespace VI
/-- a loop whose state is s, whose other slots are x -/
theorem frGo_fold {S' A X : Type} {t : Tg} {b : Fr → S} (F : S' → X → Fr) (V : X → Prop) (mk : X → A → X) (step : S' → A → S') (enc : A → D) (I : S' → Prop) : ∀ (as : List A) (s : S') (x : X), V x → I s →
    (∀ s x a, a ∈ as → V x → I s → setT t (enc a) (F s x) = some (F s (mk x a))) →
    (∀ s x a, a ∈ as → V x → I s → I (step s a) ∧ ∃ y, V y ∧ (b (F s (mk x a)) = .nxt (F (step s a) y) ∨ b (F s (mk x a)) = .cnt (F (step s a) y))) →
    ∃ y, V y ∧ frGo t b (as.map enc) (F s x) = .nxt (F (as.foldl step s) y) ∧ I (as.foldl step s)
  | [], s, x, hx, hi, _, _ => ⟨x, hx, rfl, hi⟩
  | a :: as, s, x, hx, hi, hs, hb => by
    obtain ⟨hi2, y, hy, e⟩ := hb s x a (List.mem_cons_self ..) hx hi
    obtain ⟨z, hz, e2, h3⟩ := frGo_fold F V mk step enc I as (step s a) y hy hi2 (fun s x a ha => hs s x a (List.mem_cons_of_mem _ ha)) (fun s x a ha => hb s x a (List.mem_cons_of_mem _ ha))
    refine ⟨z, hz, ?_, h3⟩
    rw [List.map_cons, frGo, hs s x a (List.mem_cons_self ..) hx hi]
    rcases e with e | e <;> simp only [e] <;> exact e2
/-- a loop that adds to a list -/
theorem frGo_app {A B X : Type} {t : Tg} {b : Fr → S} (N : Nat) (F : List B → X → Fr) (V : X → Prop) (mk : X → A → X) (g : A → List B) (enc : A → D) : ∀ (as : List A) (acc : List B) (x : X), V x → acc.length + (as.flatMap g).length ≤ N →
    (∀ acc x a, a ∈ as → V x → setT t (enc a) (F acc x) = some (F acc (mk x a))) →
    (∀ acc x a, a ∈ as → V x → acc.length + (g a).length ≤ N → ∃ y, V y ∧ (b (F acc (mk x a)) = .nxt (F (acc ++ g a) y) ∨ b (F acc (mk x a)) = .cnt (F (acc ++ g a) y))) →
    ∃ y, V y ∧ frGo t b (as.map enc) (F acc x) = .nxt (F (acc ++ as.flatMap g) y)
  | [], acc, x, hx, _, _, _ => ⟨x, hx, by rw [List.flatMap_nil, List.append_nil]; rfl⟩
  | a :: as, acc, x, hx, hl, hs, hb => by
    rw [List.flatMap_cons, List.length_append] at hl
    obtain ⟨y, hy, e⟩ := hb acc x a (List.mem_cons_self ..) hx (by omega)
    obtain ⟨z, hz, e2⟩ := frGo_app N F V mk g enc as (acc ++ g a) y hy (by rw [List.length_append]; omega) (fun acc x a ha => hs acc x a (List.mem_cons_of_mem _ ha)) (fun acc x a ha => hb acc x a (List.mem_cons_of_mem _ ha))
    refine ⟨z, hz, ?_⟩
    rw [List.map_cons, frGo, hs acc x a (List.mem_cons_self ..) hx, List.flatMap_cons, ← List.append_assoc]
    rcases e with e | e <;> simp only [e] <;> exact e2
theorem filter_flat {A B : Type} (q : A → Bool) (f : A → B) : ∀ as : List A, (as.flatMap fun a => if q a = true then [f a] else []) = (as.filter q).map f
  | [] => rfl
  | a :: as => by
    rw [List.flatMap_cons, filter_flat q f as]
    by_cases h : q a = true
    · rw [if_pos h, List.filter_cons_of_pos h]; rfl
    · rw [if_neg h, List.filter_cons_of_neg h]; rfl
/-- a loop that looks for something -/
theorem frGo_find {A X : Type} {t : Tg} {b : Fr → S} (F : X → Fr) (V : X → Prop) (mk : X → A → X) (enc : A → D) (q : A → Bool) (r : Rt) (g : X → Fr) : ∀ (as : List A) (x : X), V x →
    (∀ x a, a ∈ as → V x → setT t (enc a) (F x) = some (F (mk x a))) →
    (∀ x a, a ∈ as → V x → (q a = false → ∃ y, V y ∧ (b (F (mk x a)) = .nxt (F y) ∨ b (F (mk x a)) = .cnt (F y))) ∧ (q a = true → ∃ y, V y ∧ b (F (mk x a)) = .ret r (g y))) →
    ∃ y, V y ∧ frGo t b (as.map enc) (F x) = if as.any q = true then .ret r (g y) else .nxt (F y)
  | [], x, hx, _, _ => ⟨x, hx, rfl⟩
  | a :: as, x, hx, hs, hb => by
    obtain ⟨h1, h2⟩ := hb x a (List.mem_cons_self ..) hx
    cases hq : q a with
    | true =>
      obtain ⟨y, hy, e⟩ := h2 hq
      refine ⟨y, hy, ?_⟩
      rw [List.map_cons, frGo, hs x a (List.mem_cons_self ..) hx]
      simp only [e, List.any_cons, hq, Bool.true_or, if_true]
    | false =>
      obtain ⟨y, hy, e⟩ := h1 hq
      obtain ⟨z, hz, e2⟩ := frGo_find F V mk enc q r g as y hy (fun x a ha => hs x a (List.mem_cons_of_mem _ ha)) (fun x a ha => hb x a (List.mem_cons_of_mem _ ha))
      refine ⟨z, hz, ?_⟩
      rw [List.map_cons, frGo, hs x a (List.mem_cons_self ..) hx]
      rw [List.any_cons, hq, Bool.false_or]
      rcases e with e | e <;> simp only [e] <;> exact e2
theorem fold_app {A B : Type} (g : A → List B) : ∀ (as : List A) (acc : List B), as.foldl (fun acc a => acc ++ g a) acc = acc ++ as.flatMap g
  | [], acc => by simp
  | a :: as, acc => by rw [List.foldl_cons, fold_app g as, List.flatMap_cons, List.append_assoc]
theorem fold_add {A : Type} (g : A → Int) : ∀ (as : List A) (acc : Int), as.foldl (fun acc a => acc + g a) acc = acc + (as.map g).sum
  | [], acc => by simp
  | a :: as, acc => by rw [List.foldl_cons, fold_add g as, List.map_cons, List.sum_cons]; omega
theorem sum_cast {A : Type} (g : A → Nat) : ∀ as : List A, (as.map fun a => (g a : Int)).sum = ((as.map g).sum : Nat)
  | [] => rfl
  | a :: as => by rw [List.map_cons, List.sum_cons, sum_cast g as, List.map_cons, List.sum_cons]; simp
end VI

set_option Elab.async false
set_option linter.all false
set_option maxRecDepth 100000
set_option maxHeartbeats 4000000
set_option autoImplicit false
/-! VA: which rooms are entered ahead of which, always, how often. -/
namespace VI
def alwB (cols : Cols) (one other : Int) : Bool := if 0 ≤ one * other then decide (absI one < absI other) else !(entP cols other).any fun p => farB one p.1
def ordP (cols : Cols) : List (Int × Int) := (rngI (-(endP cols).1) ((endP cols).2 + 1)).flatMap fun one => ((rngI (-(endP cols).1) ((endP cols).2 + 1)).filter fun other => decide (one * other < 0) && alwB cols one other).map fun other => (one, other)
section
variable {cols : Cols}
theorem aP_pos (g : Reg cols) : ∀ (n : Nat) (s : Int × Int), opn cols s.1 s.2 = true → s.1 + s.2 = n → 0 < aP cols s
  | 0, s, ho, hs => by
    have := g.le_end ho
    have e : s = (0, 0) := by
      obtain ⟨x, y⟩ := s
      simp only at *
      congr 1 <;> omega
    subst e
    rw [aP_zero g]; omega
  | n + 1, s, ho, hs => by
    have hne : s ≠ (0, 0) := by intro z; rw [z] at hs; simp only at hs; omega
    rw [aP_nat g hne]
    rcases g.pred ho hne with h | h
    · rw [if_pos h]
      have := aP_pos g n (s.1 - 1, s.2) h (by simp only; omega)
      omega
    · rw [if_pos h]
      have := aP_pos g n (s.1, s.2 - 1) h (by simp only; omega)
      omega
/-- in a play, the place of a room that is entered -/
theorem pl_spec (g : Reg cols) {w : List Nat} (h : Wk cols (0, 0) w (endP cols)) {r : Int} (h0 : r ≠ 0) (hr : -(endP cols).1 ≤ r ∧ r ≤ (endP cols).2) : ∃ n : Nat, plX w r = n + 1 ∧ n < w.length ∧ lastX (0, 0) (w.take n) = sbX r n ∧ w[n]? = some (sgX r) := by
  have hp := (plX_iff g h hr (plX w r)).mp rfl
  cases hn : plX w r with
  | zero =>
    rw [hn] at hp
    unfold roomsP at hp
    exact absurd (by simpa using hp.symm) h0
  | succ n =>
    rw [hn] at hp
    obtain ⟨e1, e2⟩ := (room_iff g h h0 n).mp hp
    exact ⟨n, rfl, (List.getElem?_eq_some_iff.mp e2).1, e1, e2⟩
end
end VI

set_option Elab.async false
set_option linter.all false
set_option maxRecDepth 100000
set_option maxHeartbeats 4000000
set_option autoImplicit false
/-! VB: sums over the plays against sums over the entries; ahead, always ahead, orders. -/
namespace VI
theorem nF_le (cols : Cols) : ∀ (n : Nat) (s : Int × Int), nF cols n s ≤ 2 ^ n
  | 0, s => by simp [nF]
  | n + 1, s => by
    have h3 : 0 < 2 ^ n := Nat.pow_pos (by decide)
    rw [nF, Nat.pow_succ]
    split
    · omega
    · have hl := steps_len cols s
      have : ∀ l : List Nat, (l.map fun c => nF cols n (afterP s c)).sum ≤ l.length * 2 ^ n := by
        intro l
        induction l with
        | nil => simp
        | cons c l ih =>
          rw [List.map_cons, List.sum_cons, List.length_cons, Nat.succ_mul]
          have := nF_le cols n (afterP s c)
          omega
      have h1 := this (stepsP cols s)
      have h2 := Nat.mul_le_mul_right (2 ^ n) hl
      omega
theorem wmOk_lt {i j : Int} {a b : Nat} (hi : i.natAbs < 2 ^ (a + 1)) (hj : j.natAbs < 2 ^ (b + 1)) (h : a + b ≤ 100000) : wmOk i j = true := by
  have l : ∀ (n m : Nat), n < 2 ^ (m + 1) → n.log2 ≤ m := by
    intro n m hn
    by_cases h0 : n = 0
    · subst h0; simp
    · have := (Nat.log2_lt h0).mpr hn
      omega
  have h1 := l _ _ hi
  have h2 := l _ _ hj
  unfold wmOk
  exact Nat.ble_eq_true_of_le (by omega)
theorem group_sum {α : Type} (h k : α → Nat) (N : Nat) : ∀ (l : List α), (∀ a ∈ l, k a < N) → (l.map h).sum = ((List.range N).map fun n => ((l.filter fun a => decide (k a = n)).map h).sum).sum
  | [], _ => by
    have : ∀ l : List Nat, (l.map fun _ => 0).sum = 0 := by intro l; induction l with | nil => rfl | cons a l ih => rw [List.map_cons, List.sum_cons, ih]
    simp [this]
  | a :: l, hk => by
    rw [List.map_cons, List.sum_cons, group_sum h k N l (fun b hb => hk b (List.mem_cons_of_mem _ hb))]
    have key : ∀ ns : List Nat, (ns.map fun n => (((a :: l).filter fun a => decide (k a = n)).map h).sum).sum = ns.count (k a) * h a + (ns.map fun n => ((l.filter fun a => decide (k a = n)).map h).sum).sum := by
      intro ns
      induction ns with
      | nil => simp
      | cons n ns ih =>
        rw [List.map_cons, List.sum_cons, ih, List.map_cons, List.sum_cons, List.count_cons]
        by_cases e : k a = n
        · rw [List.filter_cons_of_pos (by simpa using e), List.map_cons, List.sum_cons, if_pos (by simp [e]), Nat.add_mul]
          omega
        · rw [List.filter_cons_of_neg (by simpa using e), if_neg (by simp; exact fun z => e z.symm), Nat.add_zero]
          omega
    rw [key]
    have : (List.range N).count (k a) = 1 := by
      have h1 := (List.nodup_range (n := N)).count (a := k a)
      rw [h1, if_pos (List.mem_range.mpr (hk a (List.mem_cons_self ..)))]
    rw [this]; omega
section
variable {cols : Cols}
theorem pl_lt (g : Reg cols) {r : Int} (hr : -(endP cols).1 ≤ r ∧ r ≤ (endP cols).2) {w : List Nat} (hw : w ∈ listP cols) : plX w r < ((endP cols).1 + (endP cols).2).toNat + 1 := by
  have hk := (mem_listP g).mp hw
  have hp := (plX_iff g hk hr (plX w r)).mp rfl
  have hl := (List.getElem?_eq_some_iff.mp hp).1
  have := (g.word_len hk).2.2.2.2.2
  unfold roomsP at hl
  rw [List.length_cons, roomsX_len] at hl
  omega
/-- a sum over the plays, of what is so when the room is entered, against a sum over its entries -/
theorem ent_sum (g : Reg cols) {r : Int} (h0 : r ≠ 0) (hr : -(endP cols).1 ≤ r ∧ r ≤ (endP cols).2) (f : Int × Int → Nat) :
    ((entP cols r).map fun p => f p.1 * (aP cols p.1 * nP cols p.2)).sum = ((listP cols).map fun w => f (sbX r (plX w r - 1))).sum := by
  have hmul : ∀ {α : Type} (l : List α) (a : Nat) (b : α → Nat), (l.map fun x => a * b x).sum = a * (l.map b).sum := by
    intro α l a b
    induction l with
    | nil => rfl
    | cons x l ih => rw [List.map_cons, List.sum_cons, ih, List.map_cons, List.sum_cons, Nat.mul_add]
  rw [group_sum (fun p : (Int × Int) × (Int × Int) => f p.1 * (aP cols p.1 * nP cols p.2)) (fun p => (szE p).toNat) (((endP cols).1 + (endP cols).2).toNat + 1) (entP cols r) (by
      intro p hp
      obtain ⟨q1, q2, q3⟩ := mem_entP.mp hp
      unfold entB at q3
      rw [Bool.and_eq_true] at q3
      have b1 := g.le_end q3.2
      unfold entS at b1
      unfold szE
      split at b1 <;> simp only at b1 <;> omega),
    group_sum (fun w : List Nat => f (sbX r (plX w r - 1))) (fun w => plX w r) (((endP cols).1 + (endP cols).2).toNat + 1) (listP cols) (fun w hw => pl_lt g hr hw)]
  congr 1
  refine List.map_congr_left fun n _ => ?_
  have e1 : ((entP cols r).filter fun p => decide ((szE p).toNat = n)) = (entP cols r).filter fun p => decide (szE p = (n : Int)) := by
    refine List.filter_congr fun p hp => ?_
    obtain ⟨q1, q2, q3⟩ := mem_entP.mp hp
    have b1 := g.le_end q1
    unfold szE
    refine decide_eq_decide.mpr ?_
    omega
  rw [e1]
  have e2 : (((entP cols r).filter fun p => decide (szE p = (n : Int))).map fun p => f p.1 * (aP cols p.1 * nP cols p.2)) = ((entP cols r).filter fun p => decide (szE p = (n : Int))).map fun p => f (sbX r (n - 1)) * (aP cols p.1 * nP cols p.2) := by
    refine List.map_congr_left fun p hp => ?_
    obtain ⟨hp1, hp2⟩ := List.mem_filter.mp hp
    obtain ⟨q1, q2, q3⟩ := mem_entP.mp hp1
    have hz := of_decide_eq_true hp2
    have b1 := g.le_end q1
    cases n with
    | zero => unfold szE at hz; omega
    | succ m =>
      have := ent_sb (cols := cols) h0 p.1 m
      rw [q3, decide_eq_true (show p.1.1 + p.1.2 + 1 = ((m + 1 : Nat) : Int) from hz), Bool.and_self] at this
      have := this.symm
      rw [Bool.and_eq_true, decide_eq_true_eq] at this
      rw [this.1]; rfl
  have e3 : (((listP cols).filter fun w => decide (plX w r = n)).map fun w => f (sbX r (plX w r - 1))) = ((listP cols).filter fun w => decide (plX w r = n)).map fun w => f (sbX r (n - 1)) * 1 := by
    refine List.map_congr_left fun w hw => ?_
    rw [of_decide_eq_true (List.mem_filter.mp hw).2, Nat.mul_one]
  rw [e2, e3, hmul, hmul]
  have := eS_ent g h0 hr n
  unfold eS at this
  rw [this, List.countP_eq_length_filter]
  congr 1
  generalize (listP cols).filter _ = l
  induction l with
  | nil => rfl
  | cons x l ih => rw [List.map_cons, List.sum_cons, ← ih, List.length_cons]; omega
theorem sb_val {r : Int} {n : Nat} {w : List Nat} (h : lastX (0, 0) (w.take n) = sbX r n) : (0 < r → (lastX (0, 0) (w.take n)).2 = r - 1) ∧ (r < 0 → (lastX (0, 0) (w.take n)).1 = -r - 1) := by
  rw [h]; unfold sbX
  constructor
  · intro h0; rw [if_neg (by omega)]
  · intro h0; rw [if_pos h0]
theorem sb_next {r : Int} {n : Nat} {w : List Nat} (h0 : r ≠ 0) (h : lastX (0, 0) (w.take n) = sbX r n) (h2 : w[n]? = some (sgX r)) : (0 < r → (lastX (0, 0) (w.take (n + 1))).2 = r) ∧ (r < 0 → (lastX (0, 0) (w.take (n + 1))).1 = -r) := by
  rw [last_take_succ _ h2, h]
  unfold sbX sgX
  constructor
  · intro h1; rw [if_neg (by omega), if_neg (by omega), after_R]; simp only; omega
  · intro h1; rw [if_pos h1, if_pos h1, after_L]; simp only; omega
/-- opposite sides: what is far when one is entered -/
theorem pl_far (g : Reg cols) {w : List Nat} (h : Wk cols (0, 0) w (endP cols)) {one other : Int} (hp : one * other < 0) (h1 : -(endP cols).1 ≤ one ∧ one ≤ (endP cols).2) (h2 : -(endP cols).1 ≤ other ∧ other ≤ (endP cols).2) :
    farB other (sbX one (plX w one - 1)) = decide (plX w one < plX w other) ∧ plX w one ≠ plX w other := by
  have n1 : one ≠ 0 := by intro z; rw [z] at hp; simp at hp
  have n2 : other ≠ 0 := by intro z; rw [z] at hp; simp at hp
  have hsg : (0 < one ∧ other < 0) ∨ (one < 0 ∧ 0 < other) := by
    rcases Int.lt_or_gt_of_ne n1 with a | a <;> rcases Int.lt_or_gt_of_ne n2 with b | b
    · have := Int.mul_pos_of_neg_of_neg a b; omega
    · exact .inr ⟨a, b⟩
    · exact .inl ⟨a, b⟩
    · have := Int.mul_pos a b; omega
  obtain ⟨n, e1, l1, s1, c1⟩ := pl_spec g h n1 h1
  obtain ⟨m, e2, l2, s2, c2⟩ := pl_spec g h n2 h2
  rw [e1, e2, Nat.add_sub_cancel, ← s1]
  have hnm : n ≠ m := by
    intro z
    subst z
    rw [c1] at c2
    injection c2 with c2
    unfold sgX at c2
    rcases hsg with ⟨a, b⟩ | ⟨a, b⟩
    · rw [if_neg (by omega), if_pos b] at c2; omega
    · rw [if_pos a, if_neg (by omega)] at c2; omega
  refine ⟨?_, by omega⟩
  unfold farB absI
  refine decide_eq_decide.mpr ?_
  have v2 := sb_val s2
  have v3 := sb_next n2 s2 c2
  by_cases hlt : n < m
  · obtain ⟨d, hd⟩ : ∃ d, m = n + d := ⟨m - n, by omega⟩
    have hm := last_mono g h d n (by omega)
    rw [← hd] at hm
    rcases hsg with ⟨a, b⟩ | ⟨a, b⟩
    · rw [if_neg (show ¬ (0 < other) by omega), if_pos b]
      have := v2.2 b
      constructor <;> intro _ <;> omega
    · rw [if_pos b, if_neg (show ¬ (other < 0) by omega)]
      have := v2.1 b
      constructor <;> intro _ <;> omega
  · obtain ⟨d, hd⟩ : ∃ d, n = m + 1 + d := ⟨n - (m + 1), by omega⟩
    have hm := last_mono g h d (m + 1) (by omega)
    rw [← hd] at hm
    rcases hsg with ⟨a, b⟩ | ⟨a, b⟩
    · rw [if_neg (show ¬ (0 < other) by omega), if_pos b]
      have := v3.2 b
      constructor <;> intro _ <;> omega
    · rw [if_pos b, if_neg (show ¬ (other < 0) by omega)]
      have := v3.1 b
      constructor <;> intro _ <;> omega
/-- one side -/
theorem pl_same (g : Reg cols) {w : List Nat} (h : Wk cols (0, 0) w (endP cols)) {one other : Int} (hp : 0 ≤ one * other) (h1 : -(endP cols).1 ≤ one ∧ one ≤ (endP cols).2) (h2 : -(endP cols).1 ≤ other ∧ other ≤ (endP cols).2) :
    plX w one < plX w other ↔ absI one < absI other := by
  by_cases n2 : other = 0
  · subst n2
    rw [pl_zero]
    unfold absI
    split <;> constructor <;> intro _ <;> omega
  by_cases n1 : one = 0
  · subst n1
    obtain ⟨m, e2, _⟩ := pl_spec g h n2 h2
    rw [pl_zero, e2]
    unfold absI
    constructor
    · intro _; split <;> split <;> omega
    · intro _; omega
  have hsg : (0 < one ∧ 0 < other) ∨ (one < 0 ∧ other < 0) := by
    rcases Int.lt_or_gt_of_ne n1 with a | a <;> rcases Int.lt_or_gt_of_ne n2 with b | b
    · exact .inr ⟨a, b⟩
    · have := Int.mul_neg_of_neg_of_pos a b; omega
    · have := Int.mul_neg_of_pos_of_neg a b; omega
    · exact .inl ⟨a, b⟩
  obtain ⟨n, e1, l1, s1, c1⟩ := pl_spec g h n1 h1
  obtain ⟨m, e2, l2, s2, c2⟩ := pl_spec g h n2 h2
  rw [e1, e2]
  have v1 := sb_val s1
  have v2 := sb_val s2
  have v3 := sb_next n1 s1 c1
  unfold absI
  by_cases hlt : n < m
  · obtain ⟨d, hd⟩ : ∃ d, m = n + 1 + d := ⟨m - (n + 1), by omega⟩
    have hm := last_mono g h d (n + 1) (by omega)
    rw [← hd] at hm
    rcases hsg with ⟨a, b⟩ | ⟨a, b⟩
    · rw [if_neg (show ¬ (one < 0) by omega), if_neg (show ¬ (other < 0) by omega)]
      have := v3.1 a; have := v2.1 b
      constructor <;> intro _ <;> omega
    · rw [if_pos a, if_pos b]
      have := v3.2 a; have := v2.2 b
      constructor <;> intro _ <;> omega
  · obtain ⟨d, hd⟩ : ∃ d, n = m + d := ⟨n - m, by omega⟩
    have hm := last_mono g h d m (by omega)
    rw [← hd] at hm
    rcases hsg with ⟨a, b⟩ | ⟨a, b⟩
    · rw [if_neg (show ¬ (one < 0) by omega), if_neg (show ¬ (other < 0) by omega)]
      have := v1.1 a; have := v2.1 b
      constructor <;> intro _ <;> omega
    · rw [if_pos a, if_pos b]
      have := v1.2 a; have := v2.2 b
      constructor <;> intro _ <;> omega
theorem sum_filter {α : Type} (q : α → Bool) (h : α → Nat) : ∀ l : List α, ((l.filter q).map h).sum = (l.map fun a => (if q a = true then 1 else 0) * h a).sum
  | [] => rfl
  | a :: l => by
    rw [List.map_cons, List.sum_cons, ← sum_filter q h l]
    cases hq : q a
    · rw [List.filter_cons_of_neg (by simp [hq])]; simp
    · rw [List.filter_cons_of_pos hq, List.map_cons, List.sum_cons]; simp
theorem sum_one {α : Type} (q : α → Bool) : ∀ l : List α, (l.map fun a => if q a = true then 1 else 0).sum = l.countP q
  | [] => rfl
  | a :: l => by
    rw [List.map_cons, List.sum_cons, sum_one q l, List.countP_cons]; omega
/-- what ahead_count tells -/
def ahP (cols : Cols) (one other : Int) : Nat := if 0 ≤ one * other then (if absI one < absI other then nP cols (0, 0) else 0) else acP cols one other
theorem ac_count (g : Reg cols) {one other : Int} (h1 : -(endP cols).1 ≤ one ∧ one ≤ (endP cols).2) (h2 : -(endP cols).1 ≤ other ∧ other ≤ (endP cols).2) :
    (listP cols).countP (fun w => decide (plX w one < plX w other)) = ahP cols one other := by
  unfold ahP
  by_cases hp : 0 ≤ one * other
  · rw [if_pos hp]
    by_cases hab : absI one < absI other
    · rw [if_pos hab, ← listP_len g]
      refine List.countP_eq_length.mpr fun w hw => ?_
      exact decide_eq_true ((pl_same g ((mem_listP g).mp hw) hp h1 h2).mpr hab)
    · rw [if_neg hab]
      refine List.countP_eq_zero.mpr fun w hw => ?_
      rw [decide_eq_true_eq]
      exact fun z => hab ((pl_same g ((mem_listP g).mp hw) hp h1 h2).mp z)
  · rw [if_neg hp]
    have hp' : one * other < 0 := by omega
    have n1 : one ≠ 0 := by intro z; rw [z] at hp'; simp at hp'
    unfold acP
    rw [sum_filter, ent_sum g n1 h1 (fun s => if farB other s = true then 1 else 0), ← sum_one]
    congr 1
    refine List.map_congr_left fun w hw => ?_
    rw [(pl_far g ((mem_listP g).mp hw) hp' h1 h2).1]
theorem entP_pos (g : Reg cols) {r : Int} {p : (Int × Int) × (Int × Int)} (hp : p ∈ entP cols r) : 0 < aP cols p.1 * nP cols p.2 := by
  obtain ⟨q1, q2, q3⟩ := mem_entP.mp hp
  have b1 := g.le_end q1
  refine Nat.mul_pos (aP_pos g (p.1.1 + p.1.2).toNat p.1 q1 (by omega)) (nP_pos g _ _ (Nat.le_refl _) ?_)
  unfold entB at q3
  rw [Bool.and_eq_true] at q3
  rw [q2]; exact q3.2
theorem alw_count (g : Reg cols) {one other : Int} (h1 : -(endP cols).1 ≤ one ∧ one ≤ (endP cols).2) (h2 : -(endP cols).1 ≤ other ∧ other ≤ (endP cols).2) :
    alwB cols one other = decide (ahP cols one other = (listP cols).length) := by
  have hpos := nP_pos g _ (0, 0) (Nat.le_refl _) g.start_open
  have hlen := listP_len g
  unfold alwB
  by_cases hp : 0 ≤ one * other
  · unfold ahP
    rw [if_pos hp, if_pos hp]
    refine decide_eq_decide.mpr ?_
    by_cases hab : absI one < absI other
    · rw [if_pos hab]; constructor <;> intro _ <;> omega
    · rw [if_neg hab]; constructor <;> intro _ <;> omega
  · rw [if_neg hp]
    have hp' : one * other < 0 := by omega
    have hp2 : other * one < 0 := by rw [Int.mul_comm]; omega
    have c1 := ac_count g h1 h2
    have c2 := ac_count g h2 h1
    have hsum : ahP cols one other + ahP cols other one = (listP cols).length := by
      rw [← c1, ← c2, List.length_eq_countP_add_countP (fun w => decide (plX w one < plX w other)) (l := listP cols)]
      congr 1
      refine List.countP_congr fun w hw => ?_
      have := (pl_far g ((mem_listP g).mp hw) hp' h1 h2).2
      simp only [decide_eq_true_eq, Bool.not_eq_true, Bool.decide_eq_false, Bool.not_eq_true', decide_eq_false_iff_not]
      omega
    have hz : ahP cols other one = 0 ↔ ((entP cols other).any fun p => farB one p.1) = false := by
      unfold ahP
      rw [if_neg (by omega)]
      unfold acP
      constructor
      · intro hs
        rw [List.any_eq_false]
        intro p hp hf
        have hm : p ∈ (entP cols other).filter fun p => farB one p.1 := List.mem_filter.mpr ⟨hp, hf⟩
        have h3 := entP_pos g hp
        have hle : ∀ l : List ((Int × Int) × (Int × Int)), p ∈ l → aP cols p.1 * nP cols p.2 ≤ (l.map fun p => aP cols p.1 * nP cols p.2).sum := by
          intro l
          induction l with
          | nil => intro h; cases h
          | cons a l ih =>
            intro h
            rw [List.map_cons, List.sum_cons]
            rcases List.mem_cons.mp h with rfl | h
            · omega
            · have := ih h; omega
        have := hle _ hm
        omega
      · intro hs
        rw [List.any_eq_false] at hs
        rw [List.filter_eq_nil_iff.mpr (fun p hp => hs p hp)]
        rfl
    have hz2 : ((!(entP cols other).any fun p => farB one p.1) = true) ↔ ahP cols one other = (listP cols).length := by
      rw [Bool.not_eq_true', ← hz]; omega
    cases hv : (!(entP cols other).any fun p => farB one p.1)
    · rw [hv] at hz2
      exact (decide_eq_false (fun z => by have := hz2.mpr z; cases this)).symm
    · exact (decide_eq_true (hz2.mp hv)).symm
/-- the sum of the places of a room, over all plays -/
def rmP (cols : Cols) (r : Int) : Nat := if r = 0 then 0 else ((entP cols r).map fun p => (p.1.1 + p.1.2 + 1).toNat * (aP cols p.1 * nP cols p.2)).sum
theorem rm_sum (g : Reg cols) {r : Int} (hr : -(endP cols).1 ≤ r ∧ r ≤ (endP cols).2) : rmP cols r = ((listP cols).map fun w => plX w r).sum := by
  unfold rmP
  by_cases h0 : r = 0
  · rw [if_pos h0, h0]
    have : ((listP cols).map fun w => plX w 0) = (listP cols).map fun _ => 0 := List.map_congr_left fun w _ => pl_zero w
    rw [this]
    induction listP cols with
    | nil => rfl
    | cons a l ih => rw [List.map_cons, List.sum_cons, ← ih]
  · rw [if_neg h0, ent_sum g h0 hr (fun s => (s.1 + s.2 + 1).toNat)]
    congr 1
    refine List.map_congr_left fun w hw => ?_
    have hk := (mem_listP g).mp hw
    obtain ⟨n, e1, l1, s1, c1⟩ := pl_spec g hk h0 hr
    rw [e1, Nat.add_sub_cancel]
    unfold sbX
    split <;> simp only <;> omega
end
theorem nP_big {cols : Cols} (g : Reg cols) {s : Int × Int} (h : opn cols s.1 s.2 = true) : nP cols s < 2 ^ 130 := by
  have h1 := g.le_end h
  have h2 := g.end_sum
  have := nF_le cols (rem cols s + 1) s
  have h3 : 2 ^ (rem cols s + 1) ≤ 2 ^ 129 := Nat.pow_le_pow_right (by decide) (by unfold rem; omega)
  have h4 : 2 ^ 129 < 2 ^ 130 := by decide
  unfold nP
  omega
theorem aP_big {cols : Cols} (g : Reg cols) {s : Int × Int} (h : opn cols s.1 s.2 = true) : aP cols s < 2 ^ 130 := by
  have h1 := g.le_end h
  have h2 := g.end_sum
  have := aF_le cols ((s.1 + s.2).toNat + 1) s
  have h3 : 2 ^ ((s.1 + s.2).toNat + 1) ≤ 2 ^ 129 := Nat.pow_le_pow_right (by decide) (by omega)
  have h4 : 2 ^ 129 < 2 ^ 130 := by decide
  unfold aP
  omega
theorem mul_lt {i j : Int} {a b : Nat} (hi : i.natAbs < 2 ^ a) (hj : j.natAbs < 2 ^ b) (h : a + b ≤ 100000) : opD .mul (.v (.int i)) (.v (.int j)) = some (.v (.int (i * j))) := by
  refine mul_w _ _ (wmOk_lt (a := a) (b := b) ?_ ?_ h)
  · rw [Nat.pow_succ]; have := Nat.pow_pos (n := a) (show 0 < 2 by decide); omega
  · rw [Nat.pow_succ]; have := Nat.pow_pos (n := b) (show 0 < 2 by decide); omega
/-! pairs sorted -/
def srtC (l : List (Int × Int)) : List (Int × Int) := l.foldr (fun a r => (r.takeWhile fun b => !leD (cD a) (cD b)) ++ a :: r.dropWhile fun b => !leD (cD a) (cD b)) []
theorem srt_C : ∀ l : List (Int × Int), srtD (l.map cD) = (srtC l).map cD
  | [] => rfl
  | a :: l => by
    have ih := srt_C l
    show insD (cD a) (srtD (l.map cD)) = _
    rw [ih]
    have key : ∀ r : List (Int × Int), insD (cD a) (r.map cD) = ((r.takeWhile fun b => !leD (cD a) (cD b)) ++ a :: r.dropWhile fun b => !leD (cD a) (cD b)).map cD := by
      intro r
      induction r with
      | nil => rfl
      | cons b r ih =>
        rw [List.map_cons, insD]
        cases h : leD (cD a) (cD b)
        · simp [h, ih]
        · simp [h]
    exact key _
theorem sorted_C (l : List (Int × Int)) : bD "sorted" [.o (.lst (l.map cD))] = some (.o (.lst ((srtC l).map cD))) := by
  have e : l.map cD = l.map fun p => iT [p.1, p.2] := List.map_congr_left fun p _ => cD_iT p
  rw [V_sorted, if_pos, srt_C]
  rw [Bool.and_eq_true, Bool.and_eq_true, decide_eq_true_eq]
  refine ⟨⟨?_, ?_⟩, ?_⟩
  · rw [e]; exact alkD_iT l _
  · unfold srtK
    rw [Bool.or_eq_true]
    refine .inl ?_
    rw [List.all_eq_true]
    intro d hd
    obtain ⟨p, _, rfl⟩ := List.mem_map.mp hd
    rfl
  · have : dpts (l.map cD) ≤ 2 + 1 := dpts_le fun d hd => by
      obtain ⟨p, _, rfl⟩ := List.mem_map.mp hd
      rw [cD_iT]; exact dpt_iT _
    omega
theorem srtC_perm (l : List (Int × Int)) : (srtC l).Perm l := by
  induction l with
  | nil => exact .refl _
  | cons a l ih =>
    show (((srtC l).takeWhile fun b => !leD (cD a) (cD b)) ++ a :: (srtC l).dropWhile fun b => !leD (cD a) (cD b)).Perm _
    refine List.perm_middle.trans ?_
    rw [List.takeWhile_append_dropWhile]
    exact ih.cons _
/-- what is ascending is sorted -/
theorem srt_asc {l : List (Int × Int)} (h : l.Pairwise fun a b => a.1 < b.1 ∨ (a.1 = b.1 ∧ a.2 < b.2)) : srtD (l.map cD) = l.map cD := by
  refine srt_eq (.refl _) ?_ ?_
  · rw [List.pairwise_map]
    refine h.imp fun {a b} hab => ?_
    rw [leD_eq, cD_iT, cD_iT, ltD_iT]
    rcases hab with h | ⟨h, h'⟩
    · have n : ¬ b.1 = a.1 := by omega
      have n' : ¬ b.1 < a.1 := by omega
      simp [lexLtI, n, n']
    · have n' : ¬ b.2 < a.2 := by omega
      simp [lexLtI, h.symm, n']
  · intro a ha b hb h1 h2
    obtain ⟨x, _, rfl⟩ := List.mem_map.mp ha
    obtain ⟨y, _, rfl⟩ := List.mem_map.mp hb
    rw [cD_iT, cD_iT] at h1 h2 ⊢
    rw [iT_anti h1 h2]
theorem rngI_asc (i j : Int) : (rngI i j).Pairwise (· < ·) := by
  unfold rngI
  rw [List.pairwise_map]
  exact List.pairwise_lt_range.imp fun h => by omega
theorem ord_asc (cols : Cols) : (ordP cols).Pairwise fun a b => a.1 < b.1 ∨ (a.1 = b.1 ∧ a.2 < b.2) := by
  unfold ordP
  rw [List.flatMap_def, List.pairwise_flatten, List.pairwise_map]
  constructor
  · intro l hl
    obtain ⟨one, _, rfl⟩ := List.mem_map.mp hl
    rw [List.pairwise_map]
    exact ((rngI_asc _ _).filter _).imp fun h => .inr ⟨rfl, h⟩
  · refine (rngI_asc _ _).imp fun {a b} h x hx y hy => ?_
    obtain ⟨x2, _, rfl⟩ := List.mem_map.mp hx
    obtain ⟨y2, _, rfl⟩ := List.mem_map.mp hy
    exact .inl h
end VI

set_option Elab.async false
set_option linter.all false
set_option maxRecDepth 100000
set_option maxHeartbeats 4000000
set_option autoImplicit false
/-! VC: dicts by keys and values; their entries sorted; the spans on all plays. -/
namespace VI
theorem filt_map {A B : Type} (q : A → Bool) (f : A → B) (g : B → Option B) : ∀ l : List A, (∀ a ∈ l, g (f a) = if q a = true then some (f a) else none) → (l.filter q).map f = (l.map f).filterMap g
  | [], _ => rfl
  | a :: l, h => by
    have ih := filt_map q f g l (fun b hb => h b (List.mem_cons_of_mem _ hb))
    rw [List.map_cons, List.filterMap_cons, h a (List.mem_cons_self ..), List.filter_cons]
    cases q a
    · simpa using ih
    · simpa using ih
theorem V_inct (s : Int × Int) (l : List (Int × Int)) : cmpD .in_ (.v (cD s)) (.v (.tup (l.map cD))) = some (decide (s ∈ l)) := by
  have h := dpts_cD l
  show (if min (dpt (cD s)) (dpts (l.map cD)) ≤ 60 then some (inSeq (cD s) (l.map cD)) else none) = _
  rw [if_pos (by rw [dpt_cD]; omega), inSeq_cD]
theorem V_ninct (s : Int × Int) (l : List (Int × Int)) : cmpD .nin (.v (cD s)) (.v (.tup (l.map cD))) = some (!decide (s ∈ l)) := by
  have h := V_inct s l
  show (inD (.v (cD s)) (.v (.tup (l.map cD)))).map (!·) = _
  rw [show inD (.v (cD s)) (.v (.tup (l.map cD))) = _ from h]; rfl
theorem V_same {d : D} (h : dpt d ≤ 60) : cmpD .eq (.v d) (.v d) = some true ∧ cmpD .ne (.v d) (.v d) = some false := by
  have e := eqD_refl d
  constructor <;> simp [cmpD, eqR, h, e]
/-! ### a dict as its keys and what it holds at each -/
section
variable {B κ : Type} [DecidableEq B] [DecidableEq κ]
def kvD (key : B → κ) (val : B → D) (ks : List B) : List (κ × D) := ks.map fun b => (key b, val b)
/-- the keys in the order of their coming -/
def gk (ks : List B) (b : B) : List B := if b ∈ ks then ks else ks ++ [b]
theorem look_kv {key : B → κ} (hk : ∀ a b, key a = key b → a = b) (val : B → D) (c : B) : ∀ ks : List B, look (kvD key val ks) (key c) = if c ∈ ks then some (val c) else none
  | [] => rfl
  | b :: ks => by
    have ih := look_kv hk val c ks
    unfold look kvD at ih ⊢
    rw [List.map_cons, List.find?_cons]
    by_cases h : b = c
    · subst h; simp
    · have h' : ¬ key b = key c := fun z => h (hk _ _ z)
      have hm : (c ∈ b :: ks) ↔ c ∈ ks := by simp [show ¬ c = b from fun z => h z.symm]
      simp only [h', decide_false, hm]
      exact ih
theorem kv_any {key : B → κ} (hk : ∀ a b, key a = key b → a = b) (val : B → D) (c : B) (ks : List B) : ((kvD key val ks).any fun kv => decide (kv.1 = key c)) = decide (c ∈ ks) := by
  unfold kvD
  rw [List.any_map]
  by_cases h : c ∈ ks
  · rw [decide_eq_true h, List.any_eq_true]
    exact ⟨c, h, by simp⟩
  · rw [decide_eq_false h, List.any_eq_false]
    intro x hx
    simp only [Function.comp, decide_eq_true_eq]
    intro z
    rw [hk _ _ z] at hx
    exact h hx
theorem put_kv {key : B → κ} (hk : ∀ a b, key a = key b → a = b) {val val' : B → D} {ks : List B} {c : B} (h : ∀ b ∈ ks, b ≠ c → val' b = val b) : put (kvD key val ks) (key c) (val' c) = kvD key val' (gk ks c) := by
  unfold put gk
  rw [kv_any hk]
  by_cases hc : c ∈ ks
  · rw [decide_eq_true hc, if_pos rfl, if_pos hc]
    unfold kvD
    rw [List.map_map]
    refine List.map_congr_left fun b hb => ?_
    simp only [Function.comp]
    by_cases e : b = c
    · subst e; simp
    · rw [if_neg (fun z => e (hk _ _ z)), h b hb e]
  · rw [decide_eq_false hc, if_neg (by simp), if_neg hc]
    unfold kvD
    rw [List.map_append, List.map_cons, List.map_nil]
    congr 1
    refine List.map_congr_left fun b hb => ?_
    rw [h b hb (fun z => hc (z ▸ hb))]
theorem kv_len (key : B → κ) (val : B → D) (ks : List B) : (kvD key val ks).length = ks.length := by unfold kvD; rw [List.length_map]
theorem mem_gk {ks : List B} {b c : B} : c ∈ gk ks b ↔ c ∈ ks ∨ c = b := by
  unfold gk
  split
  · rename_i h
    constructor
    · exact .inl
    · rintro (h' | rfl) <;> assumption
  · simp
theorem gk_nodup {ks : List B} {b : B} (h : ks.Nodup) : (gk ks b).Nodup := by
  unfold gk
  split
  · exact h
  · rename_i hb
    rw [List.nodup_append]
    refine ⟨h, by simp, ?_⟩
    intro x hx y hy z
    have : y = b := by simpa using hy
    subst this; subst z; exact hb hx
theorem gk_len (ks : List B) (b : B) : (gk ks b).length ≤ ks.length + 1 := by
  unfold gk; split
  · omega
  · simp
/-- the keys of a list -/
def keysF {A : Type} (f : A → B) (l : List A) : List B := l.foldl (fun ks a => gk ks (f a)) []
theorem keysF_snoc {A : Type} (f : A → B) (l : List A) (a : A) : keysF f (l ++ [a]) = gk (keysF f l) (f a) := by unfold keysF; rw [List.foldl_append]; rfl
theorem keysF_spec {A : Type} (f : A → B) (l : List A) : (keysF f l).Nodup ∧ (∀ b, b ∈ keysF f l ↔ b ∈ l.map f) ∧ (keysF f l).length ≤ l.length := by
  have key : ∀ (l : List A) (ks : List B), ks.Nodup → (l.foldl (fun ks a => gk ks (f a)) ks).Nodup ∧ (∀ b, b ∈ l.foldl (fun ks a => gk ks (f a)) ks ↔ b ∈ ks ∨ b ∈ l.map f) ∧ (l.foldl (fun ks a => gk ks (f a)) ks).length ≤ ks.length + l.length := by
    intro l
    induction l with
    | nil => intro ks h; exact ⟨h, fun b => by simp, by simp⟩
    | cons a l ih =>
      intro ks h
      obtain ⟨h1, h2, h3⟩ := ih _ (gk_nodup (b := f a) h)
      refine ⟨h1, fun b => ?_, ?_⟩
      · rw [List.foldl_cons, h2, mem_gk, List.map_cons, List.mem_cons, or_assoc]
      · rw [List.foldl_cons, List.length_cons]
        have := gk_len ks (f a)
        omega
  obtain ⟨h1, h2, h3⟩ := key l [] .nil
  refine ⟨h1, fun b => ?_, by rw [List.length_nil, Nat.zero_add] at h3; exact h3⟩
  have := h2 b
  simpa [keysF] using this
end
/-! ### ascending lists -/
theorem asc_eq {α : Type} {R : α → α → Prop} (ha : ∀ a b, R a b → ¬ R b a) : ∀ {l l' : List α}, l.Pairwise R → l'.Pairwise R → (∀ x, x ∈ l ↔ x ∈ l') → l = l'
  | [], [], _, _, _ => rfl
  | [], b :: l', _, _, h => by have := (h b).mpr (List.mem_cons_self ..); cases this
  | a :: l, [], _, _, h => by have := (h a).mp (List.mem_cons_self ..); cases this
  | a :: l, b :: l', h1, h2, h => by
    have hir : ∀ x, ¬ R x x := fun x z => ha x x z z
    obtain ⟨p1, p2⟩ := List.pairwise_cons.mp h1
    obtain ⟨q1, q2⟩ := List.pairwise_cons.mp h2
    have e : a = b := by
      rcases List.mem_cons.mp ((h a).mp (List.mem_cons_self ..)) with e | e
      · exact e
      · rcases List.mem_cons.mp ((h b).mpr (List.mem_cons_self ..)) with e' | e'
        · exact e'.symm
        · exact absurd (p1 b e') (ha _ _ (q1 a e))
    subst e
    congr 1
    refine asc_eq ha p2 q2 fun x => ?_
    constructor
    · intro hx
      rcases List.mem_cons.mp ((h x).mp (List.mem_cons_of_mem _ hx)) with rfl | h'
      · exact absurd (p1 x hx) (hir x)
      · exact h'
    · intro hx
      rcases List.mem_cons.mp ((h x).mpr (List.mem_cons_of_mem _ hx)) with rfl | h'
      · exact absurd (q1 x hx) (hir x)
      · exact h'
def insI (i : Int) : List Int → List Int
  | [] => [i]
  | j :: r => if i ≤ j then i :: j :: r else j :: insI i r
def srtI (l : List Int) : List Int := l.foldr insI []
theorem insI_perm (i : Int) : ∀ l : List Int, (insI i l).Perm (i :: l)
  | [] => .refl _
  | j :: r => by
    rw [insI]
    split
    · exact .refl _
    · exact ((insI_perm i r).cons j).trans (.swap ..)
theorem srtI_perm : ∀ l : List Int, (srtI l).Perm l
  | [] => .refl _
  | i :: l => (insI_perm i _).trans ((srtI_perm l).cons i)
theorem insI_sorted (i : Int) : ∀ l : List Int, l.Pairwise (· ≤ ·) → (insI i l).Pairwise (· ≤ ·)
  | [], _ => by simp [insI]
  | j :: r, h => by
    obtain ⟨h1, h2⟩ := List.pairwise_cons.mp h
    rw [insI]
    split
    · rename_i hij
      refine .cons (fun x hx => ?_) h
      rcases List.mem_cons.mp hx with rfl | hx
      · exact hij
      · have := h1 x hx; omega
    · rename_i hij
      refine .cons (fun x hx => ?_) (insI_sorted i r h2)
      rcases List.mem_cons.mp ((insI_perm i r).mem_iff.mp hx) with rfl | hx
      · omega
      · exact h1 x hx
theorem srtI_sorted : ∀ l : List Int, (srtI l).Pairwise (· ≤ ·)
  | [] => .nil
  | i :: l => insI_sorted i _ (srtI_sorted l)
theorem srtI_asc {l : List Int} (h : l.Nodup) : (srtI l).Pairwise (· < ·) := by
  have h1 : (srtI l).Nodup := (srtI_perm l).nodup_iff.mpr h
  exact ((srtI_sorted l).and h1).imp fun ⟨a, b⟩ => by omega
/-! ### entries with whole numbers ahead, sorted -/
theorem ltD_ahead {i j : Int} (h : i ≠ j) (x y : List D) : ltD (.tup (.int i :: x)) (.tup (.int j :: y)) = decide (i < j) := by
  show PyProof.Rows.lexLt PyProof.Rows.itemOrd (PySem.W.keyToks (toPy (.tup (.int i :: x)))) (PySem.W.keyToks (toPy (.tup (.int j :: y)))) = _
  simp only [toPy, toPys, PySem.W.keyToks, PySem.W.keyToksAll, List.cons_append, List.nil_append, PyProof.Rows.lexLt, PyProof.Rows.itemLt]
  by_cases h2 : i < j
  · simp [h2]
  · have : j < i := by omega
    simp [h2, this]
theorem sort_ahead {ks : List Int} (hn : ks.Nodup) (val : Int → D) : srtD (ks.map fun k => .tup [.int k, val k]) = (srtI ks).map fun k => .tup [.int k, val k] := by
  have lt : ∀ a b : Int, a < b → leD (.tup [.int a, val a]) (.tup [.int b, val b]) = true := fun a b h => by
    rw [leD_eq, ltD_ahead (by omega)]
    simp; omega
  refine srt_eq ((srtI_perm ks).symm.map _) ?_ ?_
  · rw [List.pairwise_map]
    exact (srtI_asc hn).imp fun h => lt _ _ h
  · intro a ha b hb h1 h2
    obtain ⟨x, _, rfl⟩ := List.mem_map.mp ha
    obtain ⟨y, _, rfl⟩ := List.mem_map.mp hb
    by_cases e : x = y
    · rw [e]
    · rw [leD_eq, ltD_ahead (fun z => e z.symm)] at h1
      rw [leD_eq, ltD_ahead e] at h2
      simp at h1 h2
      omega
theorem alk_ahead (ks : List Int) (val : Int → D) (h : ∀ a ∈ ks, ∀ b ∈ ks, PySem.W.alike (toPy (val a)) (toPy (val b)) = true) : alkD (ks.map fun k => .tup [.int k, val k]) = true := by
  unfold alkD
  rw [List.all_eq_true]
  intro x hx
  rw [List.all_eq_true]
  intro y hy
  obtain ⟨a, ha, rfl⟩ := List.mem_map.mp hx
  obtain ⟨b, hb, rfl⟩ := List.mem_map.mp hy
  simp only [toPy, toPys, PySem.W.alike, PySem.W.alikeAll, Bool.true_and, Bool.and_true]
  exact h a ha b hb
theorem srtK_pairs {α : Type} (l : List α) (f g : α → D) : srtK (l.map fun a => .tup [f a, g a]) = true := by
  unfold srtK
  rw [Bool.or_eq_true]
  refine .inl ?_
  rw [List.all_eq_true]
  intro d hd
  obtain ⟨a, _, rfl⟩ := List.mem_map.mp hd
  rfl
theorem sit_int {ks : List Int} (hn : ks.Nodup) (val : Int → D) (h : ∀ a ∈ ks, ∀ b ∈ ks, PySem.W.alike (toPy (val a)) (toPy (val b)) = true) (hd : ∀ a ∈ ks, dpt (val a) ≤ 57) : sitD (.o (.dK (kvD .inl val ks))) = some (.o (.lst ((srtI ks).map fun k => .tup [.int k, val k]))) := by
  have e : entsR (.o (.dK (kvD .inl val ks))) = some (ks.map fun k => (D.int k, val k)) := by
    unfold entsR kvD
    simp only []
    rw [if_pos (by rw [List.all_map, List.all_eq_true]; intro x _; rfl), List.map_map]
    rfl
  unfold sitD
  rw [e, Option.bind_some]
  have em : (ks.map fun k => (D.int k, val k)).map prD = ks.map fun k => .tup [.int k, val k] := by rw [List.map_map]; rfl
  rw [em, alk_ahead ks val h, srtK_pairs, sort_ahead hn]
  have : dpts (ks.map fun k => .tup [.int k, val k]) ≤ 58 + 2 := by
    refine dpts_le (n := 59) fun d hd' => ?_
    obtain ⟨k, hk, rfl⟩ := List.mem_map.mp hd'
    have := hd k hk
    simp only [dpt, dpts]
    omega
  rw [decide_eq_true (by omega)]
  rfl
theorem alk_all {xs ys : List D} (h : ∀ x ∈ xs, ∀ y ∈ ys, PySem.W.alike (toPy x) (toPy y) = true) : PySem.W.alikeAll (toPys xs) (toPys ys) = true := by
  induction xs generalizing ys with
  | nil => simp [toPys, PySem.W.alikeAll]
  | cons x xs ih =>
    cases ys with
    | nil => simp [toPys, PySem.W.alikeAll]
    | cons y ys =>
      simp only [toPys, PySem.W.alikeAll, Bool.and_eq_true]
      exact ⟨h x (by simp) y (by simp), ih fun x hx y hy => h x (by simp [hx]) y (by simp [hy])⟩
theorem alk_tup {xs ys : List D} (h : ∀ x ∈ xs, ∀ y ∈ ys, PySem.W.alike (toPy x) (toPy y) = true) : PySem.W.alike (toPy (.tup xs)) (toPy (.tup ys)) = true := by
  show PySem.W.alike (.tuple (toPys xs)) (.tuple (toPys ys)) = true
  rw [PySem.W.alike]; exact alk_all h
theorem alk_cD (s t : Int × Int) : PySem.W.alike (toPy (cD s)) (toPy (cD t)) = true := by rw [cD_iT, cD_iT]; exact alk_iT _ _
/-! ### the spans on all plays -/
def szP (s : Int × Int) : Int := s.1 + s.2
def grP (l : List (Int × Int)) (n : Int) : List (Int × Int) := l.filter fun s => decide (szP s = n)
/-- the spans that stand alone at their size, by size -/
def fcP (cols : Cols) : List (Int × Int) := (srtI (keysF szP (spansP cols))).filterMap fun n => match grP (spansP cols) n with | [s] => some s | _ => none
theorem gr_alone {l : List (Int × Int)} (hn : l.Nodup) {n : Int} {s : Int × Int} : grP l n = [s] ↔ s ∈ l ∧ szP s = n ∧ ∀ t ∈ l, szP t = n → t = s := by
  constructor
  · intro h
    have hm : s ∈ grP l n := by rw [h]; simp
    obtain ⟨h1, h2⟩ := List.mem_filter.mp hm
    refine ⟨h1, of_decide_eq_true h2, fun t ht e => ?_⟩
    have : t ∈ grP l n := List.mem_filter.mpr ⟨ht, decide_eq_true e⟩
    rw [h] at this
    simpa using this
  · rintro ⟨h1, h2, h3⟩
    have hnd : (grP l n).Nodup := hn.filter _
    have hm : s ∈ grP l n := List.mem_filter.mpr ⟨h1, decide_eq_true h2⟩
    have hall : ∀ t ∈ grP l n, t = s := fun t ht => h3 t (List.mem_filter.mp ht).1 (of_decide_eq_true (List.mem_filter.mp ht).2)
    revert hnd hm hall
    generalize grP l n = m
    intro hnd hm hall
    match m, hnd, hm, hall with
    | [], _, hm, _ => cases hm
    | [a], _, _, hall => rw [hall a (by simp)]
    | a :: b :: m, hnd, _, hall =>
      have e1 := hall a (by simp)
      have e2 := hall b (by simp)
      have := (List.pairwise_cons.mp hnd).1 b (by simp)
      exact absurd (e1.trans e2.symm) this
theorem mem_fc {cols : Cols} {s : Int × Int} : s ∈ fcP cols ↔ s ∈ spansP cols ∧ ∀ t ∈ spansP cols, szP t = szP s → t = s := by
  obtain ⟨_, hm, _⟩ := keysF_spec szP (spansP cols)
  unfold fcP
  rw [List.mem_filterMap]
  constructor
  · rintro ⟨n, hn, e⟩
    split at e
    · rename_i t ht
      cases e
      obtain ⟨h1, h2, h3⟩ := (gr_alone (spans_nodup cols)).mp ht
      exact ⟨h1, fun t ht e => h3 t ht (e.trans h2)⟩
    · cases e
  · rintro ⟨h1, h2⟩
    refine ⟨szP s, (srtI_perm _).mem_iff.mpr ((hm _).mpr (List.mem_map.mpr ⟨s, h1, rfl⟩)), ?_⟩
    rw [(gr_alone (spans_nodup cols)).mpr ⟨h1, rfl, h2⟩]
section
variable {cols : Cols}
theorem spans_open {s : Int × Int} : s ∈ spansP cols ↔ opn cols s.1 s.2 = true := mem_spans'
/-- a play through each open span -/
theorem some_through (g : Reg cols) {s : Int × Int} (h : s ∈ spansP cols) : ∃ w ∈ listP cols, s ∈ pathP w ∧ lastX (0, 0) (w.take (szP s).toNat) = s := by
  have ho := spans_open.mp h
  have b := g.le_end ho
  have hc := through_count g ho (n := (szP s).toNat) (by unfold szP; omega)
  have hp : 0 < aP cols s * nP cols s := Nat.mul_pos (aP_pos g (szP s).toNat s ho (by unfold szP; omega)) (nP_pos g _ _ (Nat.le_refl _) ho)
  rw [← hc] at hp
  obtain ⟨w, hw, hw2⟩ := List.countP_pos_iff.mp hp
  have e := of_decide_eq_true hw2
  refine ⟨w, hw, ?_, e⟩
  have hk := (mem_listP g).mp hw
  have hlen := (g.word_len hk).2.2.2.2.2
  have := pathX_get w (0, 0) (szP s).toNat (by unfold szP; omega)
  rw [e] at this
  exact List.mem_of_getElem? this
/-- the spans on a play, each at its size -/
theorem on_path (g : Reg cols) {w : List Nat} (hk : Wk cols (0, 0) w (endP cols)) (s : Int × Int) : s ∈ pathP w ↔ 0 ≤ szP s ∧ szP s ≤ w.length ∧ lastX (0, 0) (w.take (szP s).toNat) = s := by
  constructor
  · intro h
    obtain ⟨n, hn⟩ := List.getElem?_of_mem h
    have hl := (List.getElem?_eq_some_iff.mp hn).1
    rw [pathX_len] at hl
    rw [pathX_get w (0, 0) n (by omega)] at hn
    have e : lastX (0, 0) (w.take n) = s := by injection hn
    obtain ⟨h1, h2, h3, h4⟩ := take_open g hk n
    rw [e, List.length_take] at h4
    have hs : szP s = n := by unfold szP; omega
    rw [hs, Int.toNat_natCast]
    exact ⟨by omega, by omega, e⟩
  · rintro ⟨h0, h1, h2⟩
    have := pathX_get w (0, 0) (szP s).toNat (by omega)
    rw [h2] at this
    exact List.mem_of_getElem? this
theorem fc_all (g : Reg cols) {s : Int × Int} (hs : s ∈ spansP cols) : s ∈ fcP cols ↔ ∀ w ∈ listP cols, s ∈ pathP w := by
  have b := g.le_end (spans_open.mp hs)
  constructor
  · intro h w hw
    obtain ⟨h1, h2⟩ := mem_fc.mp h
    have hk := (mem_listP g).mp hw
    have hlen := (g.word_len hk).2.2.2.2.2
    obtain ⟨o1, o2, o3, o4⟩ := take_open g hk (szP s).toNat
    rw [List.length_take] at o4
    have hl : szP s ≤ w.length := by unfold szP; omega
    have hz : szP (lastX (0, 0) (w.take (szP s).toNat)) = szP s := by
      have : szP (lastX (0, 0) (w.take (szP s).toNat)) = (min (szP s).toNat w.length : Nat) := o4
      rw [this]; unfold szP at hl ⊢; omega
    exact (on_path g hk s).mpr ⟨by unfold szP; omega, hl, h2 _ (spans_open.mpr o1) hz⟩
  · intro h
    refine mem_fc.mpr ⟨hs, fun t ht e => ?_⟩
    obtain ⟨w, hw, h1, h2⟩ := some_through g ht
    have := ((on_path g ((mem_listP g).mp hw) s).mp (h w hw)).2.2
    rw [← e, h2] at this
    exact this
theorem fc_asc (g : Reg cols) : (fcP cols).Pairwise ltP := by
  obtain ⟨hn, hm, _⟩ := keysF_spec szP (spansP cols)
  unfold fcP
  rw [List.pairwise_filterMap]
  have hin : ∀ n s, (match grP (spansP cols) n with | [s] => some s | _ => none) = some s → s ∈ fcP cols ∧ szP s = n := by
    intro n s e
    split at e
    · rename_i t ht
      cases e
      obtain ⟨h1, h2, h3⟩ := (gr_alone (spans_nodup cols)).mp ht
      exact ⟨mem_fc.mpr ⟨h1, fun t ht e => h3 t ht (e.trans h2)⟩, h2⟩
    · cases e
  refine (srtI_asc hn).imp fun {n m} hnm s hs t ht => ?_
  obtain ⟨q1, q2⟩ := hin n s hs
  obtain ⟨q3, q4⟩ := hin m t ht
  have hsp := (mem_fc.mp q1).1
  have htp := (mem_fc.mp q3).1
  obtain ⟨w, hw, _⟩ := some_through g hsp
  have hk := (mem_listP g).mp hw
  have e1 := (on_path g hk s).mp ((fc_all g hsp).mp q1 w hw)
  have e2 := (on_path g hk t).mp ((fc_all g htp).mp q3 w hw)
  have hm := last_mono g hk ((szP t).toNat - (szP s).toNat) (szP s).toNat (by omega)
  rw [show (szP s).toNat + ((szP t).toNat - (szP s).toNat) = (szP t).toNat by omega, e1.2.2, e2.2.2] at hm
  unfold ltP szP at *
  omega
/-- as the law asks for them -/
theorem fc_eq (g : Reg cols) : fcP cols = (spansP cols).filter fun s => (listP cols).all fun w => decide (s ∈ pathP w) := by
  refine asc_eq (fun _ _ => ltP_asymm) (fc_asc g) ((spans_sorted cols).filter _) fun s => ?_
  rw [List.mem_filter, List.all_eq_true]
  constructor
  · intro h
    have hs := (mem_fc.mp h).1
    exact ⟨hs, fun w hw => decide_eq_true ((fc_all g hs).mp h w hw)⟩
  · rintro ⟨hs, h⟩
    exact (fc_all g hs).mpr fun w hw => of_decide_eq_true (h w hw)
end
end VI

set_option Elab.async false
set_option linter.all false
set_option maxRecDepth 100000
set_option maxHeartbeats 4000000
set_option autoImplicit false
/-! VD: great ways: sums over the spans of a size, places that occur, shares. -/
namespace VI
/-- each member has one value among the listed ones -/
theorem count_by {α β : Type} [DecidableEq β] (f : α → β) {vs : List β} (hn : vs.Nodup) : ∀ l : List α, (∀ a ∈ l, f a ∈ vs) → (vs.map fun v => l.countP fun a => decide (f a = v)).sum = l.length
  | [], _ => by
    have : ∀ vs : List β, (vs.map fun _ => 0).sum = 0 := by intro l; induction l with | nil => rfl | cons a l ih => rw [List.map_cons, List.sum_cons, ih]
    simp [this]
  | a :: l, h => by
    have key : ∀ vs : List β, (vs.map fun v => (a :: l).countP fun a => decide (f a = v)).sum = (vs.map fun v => l.countP fun a => decide (f a = v)).sum + vs.count (f a) := by
      intro vs
      induction vs with
      | nil => rfl
      | cons v vs ih =>
        rw [List.map_cons, List.sum_cons, ih, List.map_cons, List.sum_cons, List.countP_cons, List.count_cons]
        by_cases e : f a = v
        · simp [e]; omega
        · simp [e, show ¬ v = f a from fun z => e z.symm]; omega
    rw [key, count_by f hn l (fun b hb => h b (List.mem_cons_of_mem _ hb)), hn.count, if_pos (h a (List.mem_cons_self ..)), List.length_cons]
section
variable {cols : Cols}
theorem size_sum (g : Reg cols) {n : Int} (h0 : 0 ≤ n) (h1 : n ≤ (endP cols).1 + (endP cols).2) : ((grP (spansP cols) n).map fun s => aP cols s * nP cols s).sum = nP cols (0, 0) := by
  have hc := count_by (fun w : List Nat => lastX (0, 0) (w.take n.toNat)) (vs := grP (spansP cols) n) ((spans_nodup cols).filter _) (listP cols) (by
    intro w hw
    have hk := (mem_listP g).mp hw
    have hlen := (g.word_len hk).2.2.2.2.2
    obtain ⟨o1, o2, o3, o4⟩ := take_open g hk n.toNat
    rw [List.length_take] at o4
    refine List.mem_filter.mpr ⟨mem_spans'.mpr o1, decide_eq_true ?_⟩
    unfold szP; omega)
  rw [← listP_len g, ← hc]
  congr 1
  refine List.map_congr_left fun s hs => ?_
  obtain ⟨h2, h3⟩ := List.mem_filter.mp hs
  have h3 := of_decide_eq_true h3
  have ho := mem_spans'.mp h2
  rw [← through_count g ho (n := n.toNat) (by unfold szP at h3; omega)]
theorem size_pos (g : Reg cols) {n : Int} (h0 : 0 ≤ n) (h1 : n ≤ (endP cols).1 + (endP cols).2) : grP (spansP cols) n ≠ [] := by
  intro z
  have h := size_sum g h0 h1
  rw [z] at h
  have := nP_pos g _ (0, 0) (Nat.le_refl _) g.start_open
  simp at h
  omega
theorem ah_sum (g : Reg cols) {one other : Int} (hne : one ≠ other) (h1 : -(endP cols).1 ≤ one ∧ one ≤ (endP cols).2) (h2 : -(endP cols).1 ≤ other ∧ other ≤ (endP cols).2) : ahP cols one other + ahP cols other one = nP cols (0, 0) := by
  rw [← listP_len g, ← ac_count g h1 h2, ← ac_count g h2 h1, List.length_eq_countP_add_countP (fun w => decide (plX w one < plX w other)) (l := listP cols)]
  congr 1
  refine List.countP_congr fun w hw => ?_
  have hk := (mem_listP g).mp hw
  have : plX w one ≠ plX w other := by
    intro e
    have e1 := (plX_iff g hk h1 (plX w one)).mp rfl
    have e2 := (plX_iff g hk h2 (plX w other)).mp rfl
    rw [e, e2] at e1
    exact hne (by injection e1 with e1; exact e1.symm)
  simp only [decide_eq_true_eq, Bool.not_eq_true, Bool.decide_eq_false, Bool.not_eq_true', decide_eq_false_iff_not]
  omega
/-! the places of a room -/
def plI (cols : Cols) (r : Int) : List Int := (listP cols).map fun w => (plX w r : Int)
theorem size_iff (g : Reg cols) {r : Int} (h0 : r ≠ 0) (hr : -(endP cols).1 ≤ r ∧ r ≤ (endP cols).2) (x : Int) : x ∈ (entP cols r).map szE ↔ x ∈ plI cols r := by
  constructor
  · intro h
    obtain ⟨p, hp, rfl⟩ := List.mem_map.mp h
    obtain ⟨q1, q2, q3⟩ := mem_entP.mp hp
    have b1 := g.le_end q1
    obtain ⟨n, hn⟩ : ∃ n : Nat, p.1.1 + p.1.2 = n := ⟨(p.1.1 + p.1.2).toNat, by omega⟩
    have hsb := ent_sb (cols := cols) h0 p.1 n
    rw [q3, decide_eq_true (show p.1.1 + p.1.2 + 1 = ((n + 1 : Nat) : Int) by omega)] at hsb
    have hsb := hsb.symm
    rw [Bool.and_self, Bool.and_eq_true, decide_eq_true_eq] at hsb
    have hc := place_count g h0 hr n
    rw [← hsb.1, if_pos ⟨q1, by rw [hsb.1]; exact hsb.2⟩] at hc
    have hpos : 0 < (listP cols).countP fun w => decide (plX w r = n + 1) := by
      rw [hc]
      refine Nat.mul_pos (aP_pos g n p.1 q1 hn) ?_
      refine nP_pos g _ _ (Nat.le_refl _) ?_
      rw [hsb.1]; exact hsb.2
    obtain ⟨w, hw, hw2⟩ := List.countP_pos_iff.mp hpos
    refine List.mem_map.mpr ⟨w, hw, ?_⟩
    have := of_decide_eq_true hw2
    rw [this]
    show ((n + 1 : Nat) : Int) = p.1.1 + p.1.2 + 1
    omega
  · intro h
    obtain ⟨w, hw, rfl⟩ := List.mem_map.mp h
    have hk := (mem_listP g).mp hw
    obtain ⟨n, hn, _, e1, e2⟩ := pl_spec g hk h0 hr
    have o1 := (take_open g hk n).1
    have o2 := (Wk_step hk e2).2
    rw [e1] at o1 o2
    have hsb := ent_sb (cols := cols) h0 (sbX r n) n
    rw [o2, decide_eq_true rfl, Bool.and_self, Bool.and_eq_true, decide_eq_true_eq] at hsb
    rw [hn]
    exact List.mem_map.mpr ⟨(sbX r n, entS r (sbX r n)), mem_entP.mpr ⟨o1, rfl, hsb.1⟩, hsb.2⟩
theorem ec_pos {r : Int} {n : Nat} : 0 < ecX cols r n ↔ (n : Int) ∈ plI cols r := by
  unfold ecX plI
  rw [List.countP_pos_iff, List.mem_map]
  simp only [decide_eq_true_eq]
  constructor
  · rintro ⟨w, hw, e⟩; exact ⟨w, hw, by rw [e]⟩
  · rintro ⟨w, hw, e⟩; exact ⟨w, hw, by omega⟩
theorem pl_sums (g : Reg cols) {r : Int} (hr : -(endP cols).1 ≤ r ∧ r ≤ (endP cols).2) :
    ((List.range (((endP cols).1 + (endP cols).2).toNat + 1)).map fun n => n * ecX cols r n).sum = ((listP cols).map fun w => plX w r).sum ∧
    ((List.range (((endP cols).1 + (endP cols).2).toNat + 1)).map fun n => ecX cols r n).sum = (listP cols).length := by
  obtain ⟨h1, h2⟩ := sum_counts ((listP cols).map fun w => plX w r) (((endP cols).1 + (endP cols).2).toNat + 1) (by
    intro x hx
    obtain ⟨w, hw, rfl⟩ := List.mem_map.mp hx
    exact pl_lt g hr hw)
  have hc : ∀ n, ((listP cols).map fun w => plX w r).count n = ecX cols r n := fun n => by
    unfold ecX
    rw [List.count_eq_countP, List.countP_map]
    refine List.countP_congr fun w _ => ?_
    simp only [Function.comp, beq_iff_eq, decide_eq_true_eq]
  rw [List.length_map] at h2
  refine ⟨?_, ?_⟩
  · rw [← h1]
    congr 1
    refine List.map_congr_left fun n _ => ?_
    rw [hc]
  · rw [← h2]
    congr 1
    refine List.map_congr_left fun n _ => ?_
    rw [hc]
theorem plI_ne (g : Reg cols) (r : Int) : plI cols r ≠ [] := by
  have h1 := nP_pos g _ (0, 0) (Nat.le_refl _) g.start_open
  rw [← listP_len g] at h1
  intro z
  have := congrArg List.length z
  unfold plI at this
  rw [List.length_map] at this
  simp at this
  rw [this] at h1
  simp at h1
/-- the places that occur, from less to more -/
def poP (cols : Cols) (r : Int) : List Nat := (List.range (((endP cols).1 + (endP cols).2).toNat + 1)).filter fun n => decide (0 < ecX cols r n)
theorem mem_po (g : Reg cols) {r : Int} (hr : -(endP cols).1 ≤ r ∧ r ≤ (endP cols).2) {n : Nat} : n ∈ poP cols r ↔ (n : Int) ∈ plI cols r := by
  unfold poP
  rw [List.mem_filter, List.mem_range, decide_eq_true_eq, ec_pos]
  constructor
  · exact fun h => h.2
  · intro h
    refine ⟨?_, h⟩
    obtain ⟨w, hw, e⟩ := List.mem_map.mp h
    have := pl_lt g hr hw
    omega
/-- the least and the greatest of an ascending list -/
theorem asc_ends {l : List Nat} (h : l.Pairwise (· < ·)) (h0 : l ≠ []) : ∃ a b, l[0]? = some a ∧ l.getLast? = some b ∧ a ∈ l ∧ b ∈ l ∧ ∀ n ∈ l, a ≤ n ∧ n ≤ b := by
  induction l with
  | nil => exact absurd rfl h0
  | cons x l ih =>
    obtain ⟨p1, p2⟩ := List.pairwise_cons.mp h
    cases l with
    | nil => exact ⟨x, x, rfl, rfl, by simp, by simp, fun n hn => by have : n = x := by simpa using hn
                                                                     omega⟩
    | cons y l =>
      obtain ⟨a, b, e1, e2, m1, m2, hb⟩ := ih p2 (by simp)
      refine ⟨x, b, rfl, by rw [List.getLast?_cons_cons]; exact e2, by simp, List.mem_cons_of_mem _ m2, fun n hn => ?_⟩
      rcases List.mem_cons.mp hn with rfl | hn
      · have := p1 b m2; omega
      · have h1 := p1 n hn
        have h2 := hb n hn
        omega
/-- what entered tells, against the places that occur -/
theorem po_ends (g : Reg cols) {r : Int} (hr : -(endP cols).1 ≤ r ∧ r ≤ (endP cols).2) : ∃ a b : Nat, (poP cols r)[0]? = some a ∧ (poP cols r).getLast? = some b ∧
    (r = 0 → a = 0 ∧ b = 0) ∧ (r ≠ 0 → bD "min" [.o (.lst (((entP cols r).map szE).map .int))] = some (.v (.int a)) ∧ bD "max" [.o (.lst (((entP cols r).map szE).map .int))] = some (.v (.int b))) := by
  have hne := plI_ne g r
  have hpo : poP cols r ≠ [] := by
    obtain ⟨x, hx⟩ := List.exists_mem_of_ne_nil _ hne
    obtain ⟨w, hw, e⟩ := List.mem_map.mp hx
    intro z
    have : plX w r ∈ poP cols r := (mem_po g hr).mpr (by rw [e]; exact hx)
    rw [z] at this; cases this
  obtain ⟨a, b, e1, e2, m1, m2, hb⟩ := asc_ends ((List.pairwise_lt_range).filter _ : (poP cols r).Pairwise (· < ·)) hpo
  refine ⟨a, b, e1, e2, fun h0 => ?_, fun h0 => ?_⟩
  · subst h0
    have z : ∀ n : Nat, n ∈ poP cols 0 → n = 0 := fun n hn => by
      obtain ⟨w, _, e⟩ := List.mem_map.mp ((mem_po g hr).mp hn)
      rw [pl_zero] at e; omega
    exact ⟨z a m1, z b m2⟩
  · have hsz : (entP cols r).map szE ≠ [] := by
      intro z
      have := (size_iff g h0 hr a).mpr ((mem_po g hr).mp m1)
      rw [z] at this; cases this
    have conv : ∀ x ∈ (entP cols r).map szE, ∃ n : Nat, x = n ∧ n ∈ poP cols r := fun x hx => by
      have h := (size_iff g h0 hr x).mp hx
      obtain ⟨w, hw, e⟩ := List.mem_map.mp h
      exact ⟨plX w r, e.symm, (mem_po g hr).mpr (by rw [e]; exact h)⟩
    obtain ⟨x, hx, ex, lx⟩ := min_ints hsz
    obtain ⟨y, hy, ey, ly⟩ := max_ints hsz
    obtain ⟨n, rfl, hn⟩ := conv x hx
    obtain ⟨m, rfl, hm⟩ := conv y hy
    have ha := lx a ((size_iff g h0 hr a).mpr ((mem_po g hr).mp m1))
    have hbb := ly b ((size_iff g h0 hr b).mpr ((mem_po g hr).mp m2))
    have h3 := hb n hn
    have h4 := hb m hm
    have ea : n = a := by omega
    have eb : m = b := by omega
    subst ea eb
    exact ⟨ex, ey⟩
theorem fc_here (g : Reg cols) {n : Int} {s : Int × Int} {r : List (Int × Int)} (h : grP (spansP cols) n = s :: r) : s ∈ fcP cols ↔ r = [] := by
  have hs : s ∈ grP (spansP cols) n := by rw [h]; simp
  obtain ⟨h1, h2⟩ := List.mem_filter.mp hs
  have h2 := of_decide_eq_true h2
  rw [mem_fc]
  constructor
  · rintro ⟨_, h3⟩
    have := (gr_alone (spans_nodup cols) (n := n) (s := s)).mpr ⟨h1, h2, fun t ht e => h3 t ht (by rw [e, h2])⟩
    rw [h] at this
    simpa using this
  · intro e
    subst e
    obtain ⟨_, _, h3⟩ := (gr_alone (spans_nodup cols)).mp h
    exact ⟨h1, fun t ht e => h3 t ht (e.trans h2)⟩
def nxP (cols : Cols) (s : Int × Int) (c : Nat) : Nat := if opn cols (afterP s c).1 (afterP s c).2 = true then nP cols (afterP s c) else 0
theorem nx_sum (g : Reg cols) {s : Int × Int} (h : s ≠ endP cols) : nxP cols s 76 + nxP cols s 82 = nP cols s := by
  rw [nP_nat g h]
  unfold nxP
  rw [after_L, after_R]
theorem nx_end (g : Reg cols) {c : Nat} (hc : c = 76 ∨ c = 82) : nxP cols (endP cols) c = 0 := by
  unfold nxP
  rw [if_neg]
  intro h
  have h2 := g.le_end h
  have h3 := after_sum (endP cols) c
  omega
theorem nx_pos (g : Reg cols) {s : Int × Int} {c : Nat} : 0 < nxP cols s c ↔ afterP s c ∈ spansP cols := by
  unfold nxP
  rw [mem_spans']
  split
  · rename_i h
    exact ⟨fun _ => h, fun _ => nP_pos g _ _ (Nat.le_refl _) h⟩
  · rename_i h
    exact ⟨fun z => by omega, fun z => absurd z h⟩
end
/-- two shares of one whole -/
theorem share_sum {a b n : Nat} (h : a + b = n) (hn : 0 < n) : (a / Nat.gcd a n) * (n / Nat.gcd b n) + (b / Nat.gcd b n) * (n / Nat.gcd a n) = (n / Nat.gcd a n) * (n / Nat.gcd b n) := by
  have g1 := Nat.gcd_pos_of_pos_right a hn
  have g2 := Nat.gcd_pos_of_pos_right b hn
  obtain ⟨x, hx⟩ := Nat.gcd_dvd_left a n
  obtain ⟨y, hy⟩ := Nat.gcd_dvd_right a n
  obtain ⟨z, hz⟩ := Nat.gcd_dvd_left b n
  obtain ⟨t, ht⟩ := Nat.gcd_dvd_right b n
  generalize Nat.gcd a n = p at *
  generalize Nat.gcd b n = q at *
  have e1 : a / p = x := by rw [hx]; exact Nat.mul_div_cancel_left x g1
  have e2 : n / p = y := by rw [hy]; exact Nat.mul_div_cancel_left y g1
  have e3 : b / q = z := by rw [hz]; exact Nat.mul_div_cancel_left z g2
  have e4 : n / q = t := by rw [ht]; exact Nat.mul_div_cancel_left t g2
  rw [e1, e2, e3, e4]
  have key : p * q * (x * t + z * y) = p * q * (y * t) := by
    have a1 : p * q * (x * t + z * y) = (p * x) * (q * t) + (q * z) * (p * y) := by
      rw [Nat.mul_add]; congr 1 <;> simp only [Nat.mul_assoc, Nat.mul_comm, Nat.mul_left_comm]
    have a2 : p * q * (y * t) = (p * y) * (q * t) := by simp only [Nat.mul_assoc, Nat.mul_comm, Nat.mul_left_comm]
    rw [a1, a2, ← hx, ← ht, ← hz, ← hy, ← Nat.add_mul, h]
  exact Nat.eq_of_mul_eq_mul_left (Nat.mul_pos g1 g2) key
theorem share_pos {a n : Nat} (hn : 0 < n) : 0 < a / Nat.gcd a n ↔ 0 < a := by
  have g1 := Nat.gcd_pos_of_pos_right a hn
  constructor
  · intro h
    rcases Nat.eq_zero_or_pos a with e | e
    · rw [e, Nat.zero_div] at h; omega
    · exact e
  · intro h
    exact Nat.div_pos (Nat.gcd_le_left n h) g1
end VI

set_option Elab.async false
set_option linter.all false
set_option maxRecDepth 100000
set_option maxHeartbeats 4000000
set_option autoImplicit false
/-! VE: the region that two rows of thresholds leave open is what can be reached. -/
namespace VI
/-- what can be reached -/
inductive Rch (lefts rights : Rw) : Nat → Nat → Prop
  | zero : Rch lefts rights 0 0
  | left {x y : Nat} {l : Int} : Rch lefts rights x y → lefts[x]? = some (some l) → l ≤ (y : Int) → Rch lefts rights (x + 1) y
  | right {x y : Nat} {r : Int} : Rch lefts rights x y → rights[y]? = some (some r) → r ≤ (x : Int) → Rch lefts rights x (y + 1)
section
variable {lefts rights : Rw}
theorem hiGo_spec (x : Int) : ∀ (n h : Nat), h + n = rights.length → h ≤ hiGo rights x n h ∧ hiGo rights x n h ≤ rights.length ∧ (∀ j, h ≤ j → j < hiGo rights x n h → ∃ r, rights[j]? = some (some r) ∧ r ≤ x) ∧ (∀ r, rights[hiGo rights x n h]? = some (some r) → ¬ r ≤ x)
  | 0, h, e => by
    refine ⟨Nat.le_refl _, by rw [hiGo]; omega, fun j h1 h2 => ?_, fun r hr => ?_⟩
    · rw [hiGo] at h2; omega
    · rw [hiGo, List.getElem?_eq_none (by omega)] at hr; cases hr
  | n + 1, h, e => by
    rw [hiGo]
    split
    · rename_i r hr
      split
      · rename_i hx
        obtain ⟨a, b, c, d⟩ := hiGo_spec x n (h + 1) (by omega)
        refine ⟨by omega, b, fun j h1 h2 => ?_, d⟩
        by_cases e : j = h
        · subst e; exact ⟨r, hr, hx⟩
        · exact c j (by omega) h2
      · rename_i hx
        refine ⟨Nat.le_refl _, by omega, fun j h1 h2 => by omega, fun r' hr' => ?_⟩
        rw [hr] at hr'; cases hr'; exact hx
    · rename_i hno
      refine ⟨Nat.le_refl _, by omega, fun j h1 h2 => by omega, fun r' hr' => ?_⟩
      exact absurd hr' (hno r')
theorem hiX_spec (x : Int) {h : Nat} (hl : h ≤ rights.length) : h ≤ hiX rights x h ∧ hiX rights x h ≤ rights.length ∧ (∀ j, h ≤ j → j < hiX rights x h → ∃ r, rights[j]? = some (some r) ∧ r ≤ x) ∧ (∀ r, rights[hiX rights x h]? = some (some r) → ¬ r ≤ x) :=
  hiGo_spec x _ h (by omega)
/-- the columns one behind the other -/
theorem fr_next : ∀ (n x : Nat) (low : Int) (high : Nat), x + n = lefts.length + 1 → ∀ (i : Nat) (c : Int × Int), (frX lefts rights n x low high)[i + 1]? = some c ↔ ∃ (lo : Int) (hi : Nat) (l : Int), (frX lefts rights n x low high)[i]? = some (lo, (hi : Int)) ∧ lefts[x + i]? = some (some l) ∧ l ≤ (hi : Int) ∧ c = ((if l > lo then l else lo), ((hiX rights ((x + i + 1 : Nat) : Int) hi : Nat) : Int))
  | 0, x, low, high, e, i, c => by simp [frX]
  | n + 1, x, low, high, e, i, c => by
    rw [frX, List.getElem?_cons_succ]
    cases i with
    | zero =>
      rw [Nat.add_zero]
      simp only [List.getElem?_cons_zero]
      cases hl : lefts[x]? with
      | none => simp
      | some o =>
        cases o with
        | none => simp
        | some l =>
          have hx := (List.getElem?_eq_some_iff.mp hl).1
          obtain ⟨m, rfl⟩ : ∃ m, n = m + 1 := ⟨n - 1, by omega⟩
          simp only
          by_cases hgt : l > (hiX rights x high : Int)
          · rw [if_pos hgt]
            constructor
            · intro z; cases z
            · rintro ⟨lo, hi, l', e1, e2, e3, _⟩
              simp only [Option.some.injEq, Prod.mk.injEq] at e1 e2
              omega
          · rw [if_neg hgt, frX]
            simp only [List.getElem?_cons_zero, Option.some.injEq]
            constructor
            · intro z
              exact ⟨low, hiX rights x high, l, rfl, rfl, by omega, by rw [← z]⟩
            · rintro ⟨lo, hi, l', e1, e2, e3, e4⟩
              simp only [Prod.mk.injEq] at e1
              obtain ⟨rfl, e1⟩ := e1
              have : hi = hiX rights x high := by omega
              subst this
              subst e2
              exact e4.symm
    | succ i =>
      rw [List.getElem?_cons_succ]
      cases hl : lefts[x]? with
      | none => simp
      | some o =>
        cases o with
        | none => simp
        | some l =>
          simp only
          by_cases hgt : l > (hiX rights x high : Int)
          · rw [if_pos hgt]; simp
          · rw [if_neg hgt, fr_next n (x + 1) _ _ (by omega) i c]
            rw [show x + 1 + i = x + (i + 1) by omega]
theorem reg_zero : (regFrom lefts rights)[0]? = some (0, ((hiX rights 0 0 : Nat) : Int)) := by unfold regFrom; rw [frX]; rfl
theorem reg_next (i : Nat) (c : Int × Int) : (regFrom lefts rights)[i + 1]? = some c ↔ ∃ (lo : Int) (hi : Nat) (l : Int), (regFrom lefts rights)[i]? = some (lo, (hi : Int)) ∧ lefts[i]? = some (some l) ∧ l ≤ (hi : Int) ∧ c = ((if l > lo then l else lo), ((hiX rights ((i + 1 : Nat) : Int) hi : Nat) : Int)) := by
  have := fr_next (lefts := lefts) (rights := rights) (lefts.length + 1) 0 0 0 (by omega) i c
  rw [Nat.zero_add] at this
  exact this
/-- each column -/
theorem reg_col : ∀ (i : Nat) (c : Int × Int), (regFrom lefts rights)[i]? = some c → ∃ hi : Nat, c.2 = hi ∧ 0 ≤ c.1 ∧ c.1 ≤ c.2 ∧ hi ≤ rights.length ∧ (i = 0 → c.1 = 0) ∧ (∀ r, rights[hi]? = some (some r) → ¬ r ≤ (i : Int)) ∧ i ≤ lefts.length ∧ ∀ y : Nat, c.1 ≤ (y : Int) → y ≤ hi → Rch lefts rights i y
  | 0, c, h => by
    rw [reg_zero] at h
    cases h
    obtain ⟨a, b, c, d⟩ := hiX_spec (rights := rights) 0 (h := 0) (Nat.zero_le _)
    refine ⟨_, rfl, Int.le_refl _, by simp only; omega, b, fun _ => rfl, d, Nat.zero_le _, fun y h1 h2 => ?_⟩
    induction y with
    | zero => exact .zero
    | succ y ih =>
      obtain ⟨r, hr, hx⟩ := c y (Nat.zero_le _) (by omega)
      exact .right (ih (by simp only; omega) (by omega)) hr hx
  | i + 1, c, h => by
    obtain ⟨lo, hi, l, e1, e2, e3, rfl⟩ := (reg_next i c).mp h
    obtain ⟨hi', q1, q2, q3, q4, q5, q6, q7, q8⟩ := reg_col i _ e1
    simp only at q1 q2 q3
    have : hi' = hi := by omega
    subst this
    obtain ⟨a, b, c, d⟩ := hiX_spec (rights := rights) ((i + 1 : Nat) : Int) (h := hi') q4
    have hil := (List.getElem?_eq_some_iff.mp e2).1
    refine ⟨_, rfl, ?_, ?_, b, fun z => by omega, d, by omega, fun y h1 h2 => ?_⟩
    · simp only; split <;> omega
    · simp only; split <;> omega
    · simp only at h1
      have hlo : lo ≤ (y : Int) ∧ l ≤ (y : Int) := by split at h1 <;> omega
      by_cases hy : y ≤ hi'
      · exact .left (q8 y hlo.1 hy) e2 hlo.2
      · obtain ⟨k, rfl⟩ : ∃ k, y = hi' + k := ⟨y - hi', by omega⟩
        clear hy h1 hlo
        induction k with
        | zero => exact .left (q8 hi' (by omega) (Nat.le_refl _)) e2 e3
        | succ k ih =>
          obtain ⟨r, hr, hx⟩ := c (hi' + k) (by omega) (by omega)
          exact .right (ih (by omega)) hr hx
theorem reg_opn (x y : Nat) : opn (regFrom lefts rights) x y = true ↔ Rch lefts rights x y := by
  rw [opn_iff]
  constructor
  · rintro ⟨_, c, hc, h1, h2⟩
    rw [Int.toNat_natCast] at hc
    obtain ⟨hi, q1, _, _, _, _, _, _, q8⟩ := reg_col x c hc
    exact q8 y h1 (by omega)
  · intro h
    refine ⟨by omega, ?_⟩
    rw [Int.toNat_natCast]
    induction h with
    | zero => exact ⟨_, reg_zero, by simp only; omega, by simp only; omega⟩
    | @left x y l _ hl hy ih =>
      obtain ⟨c, hc, h1, h2⟩ := ih
      obtain ⟨hi, q1, q2, q3, q4, _⟩ := reg_col x c hc
      have hc' : (regFrom lefts rights)[x]? = some (c.1, (hi : Int)) := by rw [hc, ← q1]
      have := (reg_next (lefts := lefts) (rights := rights) x _).mpr ⟨c.1, hi, l, hc', hl, by omega, rfl⟩
      obtain ⟨a, _⟩ := hiX_spec (rights := rights) ((x + 1 : Nat) : Int) (h := hi) q4
      refine ⟨_, this, ?_, ?_⟩
      · simp only; split <;> omega
      · simp only; omega
    | @right x y r _ hr hx ih =>
      obtain ⟨c, hc, h1, h2⟩ := ih
      obtain ⟨hi, q1, q2, q3, q4, q5, q6, _⟩ := reg_col x c hc
      refine ⟨c, hc, by omega, ?_⟩
      have : y ≠ hi := by rintro rfl; exact q6 r hr hx
      omega
theorem reg_reg (h1 : lefts.length ≤ 59) (h2 : rights.length ≤ 59) : Reg (regFrom lefts rights) where
  good := {
    all := fun c hc => by
      obtain ⟨i, hi⟩ := List.getElem?_of_mem hc
      obtain ⟨h, q1, q2, q3, q4, _⟩ := reg_col i c hi
      omega
    fst := fun c hc => by
      obtain ⟨h, _, _, _, _, q5, _⟩ := reg_col 0 c hc
      exact q5 rfl
    nxt := fun i a b ha hb => by
      obtain ⟨lo, hi, l, e1, e2, e3, rfl⟩ := (reg_next i b).mp hb
      rw [ha] at e1
      cases e1
      obtain ⟨h, q1, q2, q3, q4, _⟩ := reg_col i _ ha
      simp only at q1 q3
      have : h = hi := by omega
      subst this
      obtain ⟨a, _⟩ := hiX_spec (rights := rights) ((i + 1 : Nat) : Int) (h := h) q4
      simp only
      split <;> omega }
  pos := by
    have := (List.getElem?_eq_some_iff.mp (reg_zero (lefts := lefts) (rights := rights))).1
    exact this
  len := by
    rcases Nat.lt_or_ge 60 (regFrom lefts rights).length with h | h
    · obtain ⟨_, _, _, _, _, _, _, q7, _⟩ := reg_col 60 _ (List.getElem?_eq_getElem h)
      omega
    · exact h
/-- a region is told by its spans -/
theorem reg_ext {a b : Cols} (ga : Reg a) (gb : Reg b) (h : ∀ x y : Int, opn a x y = true ↔ opn b x y = true) : a = b := by
  have key : ∀ {a b : Cols}, Reg a → (∀ x y : Int, opn a x y = true → opn b x y = true) → ∀ (i : Nat) (c : Int × Int), a[i]? = some c → ∃ d : Int × Int, b[i]? = some d ∧ d.1 ≤ c.1 ∧ c.2 ≤ d.2 := by
    intro a b ga h i c hc
    have hm := ga.good.all c (List.mem_of_getElem? hc)
    have h1 := h i c.1 (opn_iff.mpr ⟨by omega, c, by rw [Int.toNat_natCast]; exact hc, by omega, by omega⟩)
    have h2 := h i c.2 (opn_iff.mpr ⟨by omega, c, by rw [Int.toNat_natCast]; exact hc, by omega, by omega⟩)
    obtain ⟨_, d, hd, l1, l2⟩ := opn_iff.mp h1
    obtain ⟨_, d', hd', l3, l4⟩ := opn_iff.mp h2
    rw [Int.toNat_natCast] at hd hd'
    rw [hd] at hd'
    cases hd'
    exact ⟨d, hd, l1, l4⟩
  refine List.ext_getElem? fun i => ?_
  cases ha : a[i]? with
  | none =>
    cases hb : b[i]? with
    | none => rfl
    | some d =>
      obtain ⟨c, hc, _⟩ := key gb (fun x y => (h x y).mpr) i d hb
      rw [ha] at hc; cases hc
  | some c =>
    obtain ⟨d, hd, l1, l2⟩ := key ga (fun x y => (h x y).mp) i c ha
    obtain ⟨c', hc', l3, l4⟩ := key gb (fun x y => (h x y).mpr) i d hd
    rw [ha] at hc'; cases hc'
    rw [hd]
    congr 1
    exact Prod.ext (by omega) (by omega)
end
end VI

set_option Elab.async false
set_option linter.all false
set_option maxRecDepth 100000
set_option maxHeartbeats 4000000
set_option autoImplicit false
/-! VF: groups in a dict; numbers sorted; columns of ascending spans. -/
namespace VI
section
variable {A B κ : Type} [DecidableEq B] [DecidableEq κ]
def grV (mk : List A → D) (f : A → B) (l : List A) (b : B) : D := mk (l.filter fun a => decide (f a = b))
def grD (key : B → κ) (mk : List A → D) (f : A → B) (l : List A) : List (κ × D) := kvD key (grV mk f l) (keysF f l)
theorem gr_look {key : B → κ} (hk : ∀ a b, key a = key b → a = b) (mk : List A → D) (f : A → B) (l : List A) (b : B) : (look (grD key mk f l) (key b)).getD (mk []) = mk (l.filter fun a => decide (f a = b)) := by
  unfold grD
  rw [look_kv hk]
  split
  · rfl
  · rename_i hm
    have : (l.filter fun a => decide (f a = b)) = [] := by
      rw [List.filter_eq_nil_iff]
      intro t ht z
      exact hm (((keysF_spec f l).2.1 _).mpr (List.mem_map.mpr ⟨t, ht, of_decide_eq_true z⟩))
    rw [this]; rfl
theorem gr_at {key : B → κ} (hk : ∀ a b, key a = key b → a = b) (mk : List A → D) (f : A → B) (l : List A) {b : B} (h : b ∈ l.map f) : look (grD key mk f l) (key b) = some (mk (l.filter fun a => decide (f a = b))) := by
  unfold grD
  rw [look_kv hk, if_pos (((keysF_spec f l).2.1 _).mpr h)]
  rfl
theorem gr_put {key : B → κ} (hk : ∀ a b, key a = key b → a = b) (mk : List A → D) (f : A → B) (l : List A) (a : A) : put (grD key mk f l) (key (f a)) (mk ((l.filter fun x => decide (f x = f a)) ++ [a])) = grD key mk f (l ++ [a]) := by
  unfold grD
  rw [keysF_snoc, ← put_kv hk (val := grV mk f l) (val' := grV mk f (l ++ [a])) (ks := keysF f l) (c := f a)]
  · unfold grV
    rw [List.filter_append]
    simp
  · intro b _ hb
    unfold grV
    rw [List.filter_append]
    have : ([a].filter fun x => decide (f x = b)) = [] := by simp [show ¬ f a = b from fun z => hb z.symm]
    rw [this, List.append_nil]
theorem gr_len (key : B → κ) (mk : List A → D) (f : A → B) (l : List A) : (grD key mk f l).length ≤ l.length := by
  unfold grD; rw [kv_len]; exact (keysF_spec f l).2.2
end
theorem inl_inj : ∀ a b : Int, (Sum.inl a : K1) = (Sum.inl b : K1) → a = b := fun a b h => by injection h
theorem kP_inj' : ∀ a b : Int × Int, kP a = kP b → a = b := fun a b h => kP_inj.mp h
theorem leD_int (i j : Int) : leD (.int i) (.int j) = decide (i ≤ j) := by
  rw [leD_eq]
  have : ltD (.int j) (.int i) = decide (j < i) := by
    show PyProof.Rows.lexLt PyProof.Rows.itemOrd (PySem.W.keyToks (toPy (.int j))) (PySem.W.keyToks (toPy (.int i))) = _
    simp [toPy, PySem.W.keyToks, PyProof.Rows.lexLt, PyProof.Rows.itemLt]
  rw [this]
  by_cases h : i ≤ j
  · rw [decide_eq_true h, decide_eq_false (by omega)]; rfl
  · rw [decide_eq_false h, decide_eq_true (by omega)]; rfl
theorem srt_I : ∀ l : List Int, srtD (l.map .int) = (srtI l).map .int
  | [] => rfl
  | a :: l => by
    show insD (.int a) (srtD (l.map .int)) = _
    rw [srt_I l]
    have key : ∀ r : List Int, insD (.int a) (r.map .int) = (insI a r).map .int := by
      intro r
      induction r with
      | nil => rfl
      | cons b r ih =>
        rw [List.map_cons, insD, insI, leD_int]
        by_cases h : a ≤ b
        · simp [h]
        · simp [h, ih]
    exact key _
theorem ints_ok (l : List Int) : (alkD (l.map D.int) && srtK (l.map D.int) && decide (dpts (l.map D.int) ≤ 60)) = true := by
  rw [Bool.and_eq_true, Bool.and_eq_true, decide_eq_true_eq]
  refine ⟨⟨?_, ?_⟩, ?_⟩
  · unfold alkD
    rw [List.all_eq_true]
    intro x hx
    rw [List.all_eq_true]
    intro y hy
    obtain ⟨a, _, rfl⟩ := List.mem_map.mp hx
    obtain ⟨b, _, rfl⟩ := List.mem_map.mp hy
    simp [toPy, PySem.W.alike]
  · unfold srtK
    rw [Bool.or_eq_true]
    refine .inr ?_
    rw [List.all_eq_true]
    intro d hd
    obtain ⟨a, _, rfl⟩ := List.mem_map.mp hd
    rfl
  · have := dpts_ints l
    omega
theorem sorted_I (l : List Int) : bD "sorted" [.o (.lst (l.map .int))] = some (.o (.lst ((srtI l).map .int))) := by
  rw [V_sorted, if_pos (ints_ok l), srt_I]
theorem sorted_keysI (val : Int → D) (ks : List Int) : bD "sorted" [.o (.dK (kvD (Sum.inl : Int → K1) val ks))] = some (.o (.lst ((srtI ks).map .int))) := by
  rw [V_sortedk _ rfl]
  have : keysR (.o (.dK (kvD (Sum.inl : Int → K1) val ks))) = some (ks.map .int) := by
    unfold keysR kvD
    simp only []
    rw [if_pos (by rw [List.all_map, List.all_eq_true]; intro x _; rfl), List.map_map]
    rfl
  rw [this, Option.bind_some, if_pos (ints_ok ks), srt_I]
theorem sorted_keysC (val : Int × Int → D) (ks : List (Int × Int)) : bD "sorted" [.o (.dT (kvD kP val ks))] = some (.o (.lst ((srtC ks).map cD))) := by
  rw [V_sortedk _ rfl]
  have : keysR (.o (.dT (kvD kP val ks))) = some (ks.map cD) := by
    unfold keysR kvD
    simp only []
    rw [if_pos (by rw [List.all_map, List.all_eq_true]; intro x _; rfl), List.map_map]
    rfl
  rw [this, Option.bind_some]
  have h := sorted_C ks
  rw [V_sorted] at h
  exact h
theorem leC (a b : Int × Int) : leD (cD a) (cD b) = decide (a.1 < b.1 ∨ (a.1 = b.1 ∧ a.2 ≤ b.2)) := by
  rw [leD_eq, cD_iT, cD_iT, ltD_iT]
  simp only [lexLtI]
  by_cases h1 : b.1 = a.1
  · rw [if_pos h1]
    by_cases h2 : b.2 = a.2
    · rw [if_pos h2]
      exact (decide_eq_true (by omega)).symm
    · rw [if_neg h2]
      by_cases h3 : b.2 < a.2
      · rw [decide_eq_true h3, decide_eq_false (by omega)]; rfl
      · rw [decide_eq_false h3, decide_eq_true (by omega)]; rfl
  · rw [if_neg h1]
    by_cases h3 : b.1 < a.1
    · rw [decide_eq_true h3, decide_eq_false (by omega)]; rfl
    · rw [decide_eq_false h3, decide_eq_true (by omega)]; rfl
theorem srtC_sorted : ∀ l : List (Int × Int), (srtC l).Pairwise fun a b => a.1 < b.1 ∨ (a.1 = b.1 ∧ a.2 ≤ b.2) := by
  intro l
  have h := srt_sorted (l.map cD)
  rw [srt_C, List.pairwise_map] at h
  exact h.imp fun h => by rw [leC] at h; exact of_decide_eq_true h
/-- pairs without doubles, sorted, are what ascends with the same members -/
theorem srtC_eq {l m : List (Int × Int)} (hn : l.Nodup) (hm : m.Pairwise ltP) (h : ∀ x, x ∈ l ↔ x ∈ m) : srtC l = m := by
  have hn' : (srtC l).Nodup := (srtC_perm l).nodup_iff.mpr hn
  refine asc_eq (fun _ _ => ltP_asymm) (((srtC_sorted l).and hn').imp fun {a b} ⟨h1, h2⟩ => ?_) hm fun x => ?_
  · rw [(srtC_perm l).mem_iff]; exact h x
  · unfold ltP
    rcases h1 with h1 | ⟨h1, h3⟩
    · exact .inl h1
    · refine .inr ⟨h1, ?_⟩
      rcases Int.lt_or_eq_of_le h3 with h | h
      · exact h
      · exact absurd (Prod.ext h1 h) h2
theorem spans60 {cols : Cols} (g : Reg cols) : (spansP cols).length ≤ 3600 := by
  have h := spX_len (cols := cols) (n := 0) (h := 59) g.good.all (by omega)
  have := g.len
  have h2 : cols.length * ((59 : Int).toNat + 1) ≤ 60 * 60 := Nat.mul_le_mul this (by decide)
  unfold spansP
  omega
/-! ### columns of ascending spans -/
section
variable {cols : Cols}
theorem spX_filter : ∀ (cols : Cols) (n : Int) (i : Nat) (c : Int × Int), cols[i]? = some c → ((spX n cols).filter fun s => decide (s.1 = n + i)).map (·.2) = rngI c.1 (c.2 + 1)
  | [], n, i, c, h => by simp at h
  | a :: r, n, i, c, h => by
    rw [spX, List.filter_append, List.map_append]
    cases i with
    | zero =>
      have h : a = c := by simpa using h
      subst h
      have e1 : ((rngI a.1 (a.2 + 1)).map fun y => (n, y)).filter (fun s => decide (s.1 = n + ((0 : Nat) : Int))) = (rngI a.1 (a.2 + 1)).map fun y => (n, y) := by
        rw [List.filter_eq_self]
        intro s hs
        obtain ⟨y, _, rfl⟩ := List.mem_map.mp hs
        simp
      have e2 : ((spX (n + 1) r).filter fun s => decide (s.1 = n + ((0 : Nat) : Int))) = [] := by
        rw [List.filter_eq_nil_iff]
        intro s hs z
        have z := of_decide_eq_true z
        obtain ⟨x, y⟩ := s
        have := (mem_spX.mp hs).1
        simp only at z
        omega
      rw [e1, e2]
      simp [Function.comp_def]
    | succ i =>
      have h : r[i]? = some c := by simpa using h
      have e1 : ((rngI a.1 (a.2 + 1)).map fun y => (n, y)).filter (fun s => decide (s.1 = n + ((i + 1 : Nat) : Int))) = [] := by
        rw [List.filter_eq_nil_iff]
        intro s hs z
        have z := of_decide_eq_true z
        obtain ⟨y, _, rfl⟩ := List.mem_map.mp hs
        simp only at z
        omega
      rw [e1, List.map_nil, List.nil_append, ← spX_filter r (n + 1) i c h]
      congr 2
      funext s
      refine decide_eq_decide.mpr ?_
      omega
theorem col_filter {i : Nat} {c : Int × Int} (h : cols[i]? = some c) : ((spansP cols).filter fun s => decide (s.1 = (i : Int))).map (·.2) = rngI c.1 (c.2 + 1) := by
  have := spX_filter cols 0 i c h
  rw [Int.zero_add] at this
  exact this
theorem col_keys (g : Reg cols) : srtI (keysF (fun s : Int × Int => s.1) (spansP cols)) = (List.range cols.length).map fun (n : Nat) => (n : Int) := by
  obtain ⟨hn, hm, _⟩ := keysF_spec (fun s : Int × Int => s.1) (spansP cols)
  refine asc_eq (fun (a b : Int) h => by omega) (srtI_asc hn) ?_ fun x => ?_
  · rw [List.pairwise_map]
    exact List.pairwise_lt_range.imp fun h => by omega
  · rw [(srtI_perm _).mem_iff, hm]
    constructor
    · intro h
      obtain ⟨s, hs, rfl⟩ := List.mem_map.mp h
      have := opn_x (mem_spans'.mp hs)
      exact List.mem_map.mpr ⟨s.1.toNat, List.mem_range.mpr (by omega), by omega⟩
    · intro h
      obtain ⟨i, hi, rfl⟩ := List.mem_map.mp h
      have hi := List.mem_range.mp hi
      have hc := g.good.all _ (List.getElem_mem hi)
      exact List.mem_map.mpr ⟨((i : Int), (cols[i]).1), mem_spans'.mpr (opn_iff.mpr ⟨by simp only; omega, cols[i], by simp only [Int.toNat_natCast]; exact List.getElem?_eq_getElem hi, by omega, by omega⟩), rfl⟩
theorem rngI_ne {a b : Int} (h : a ≤ b) : rngI a (b + 1) ≠ [] := by
  intro z
  have := rngI_len a (b + 1)
  rw [z] at this
  simp at this
  omega
theorem min_rng {a b : Int} (h : a ≤ b) : bD "min" [.v (.lst ((rngI a (b + 1)).map .int))] = some (.v (.int a)) ∧ bD "max" [.v (.lst ((rngI a (b + 1)).map .int))] = some (.v (.int b)) := by
  obtain ⟨m, hm, e, l⟩ := min_ints (rngI_ne h)
  obtain ⟨m', hm', e', l'⟩ := max_ints (rngI_ne h)
  have h1 := mem_rngI.mp hm
  have h2 := l a (mem_rngI.mpr ⟨Int.le_refl _, by omega⟩)
  have h3 := mem_rngI.mp hm'
  have h4 := l' b (mem_rngI.mpr ⟨h, by omega⟩)
  have e1 : m = a := by omega
  have e2 : m' = b := by omega
  subst e1 e2
  exact ⟨e, e'⟩
end
end VI

set_option Elab.async false
set_option linter.all false
set_option maxRecDepth 100000
set_option maxHeartbeats 4000000
set_option autoImplicit false
/-! VG: regions turned; lists sorted by their members. -/
namespace VI
theorem perm_of {α : Type} [DecidableEq α] : ∀ {l m : List α}, l.Nodup → m.Nodup → (∀ x, x ∈ l ↔ x ∈ m) → l.Perm m
  | [], m, _, _, h => by
    cases m with
    | nil => exact .refl _
    | cons a m => have := (h a).mpr (List.mem_cons_self ..); cases this
  | a :: l, m, hl, hm, h => by
    obtain ⟨h1, h2⟩ := List.pairwise_cons.mp hl
    have ha := (h a).mp (List.mem_cons_self ..)
    have hp := List.perm_cons_erase ha
    refine .trans (.cons a (perm_of h2 (hm.erase a) fun x => ?_)) hp.symm
    rw [hm.mem_erase_iff]
    constructor
    · exact fun hx => ⟨fun e => h1 x hx e.symm, (h x).mp (List.mem_cons_of_mem _ hx)⟩
    · rintro ⟨hne, hx⟩
      exact (List.mem_cons.mp ((h x).mpr hx)).resolve_left hne
theorem sorted_S {l m : List (List Nat)} (hl : l.Nodup) (hm : m.Pairwise (· < ·)) (h : ∀ x, x ∈ l ↔ x ∈ m) : bD "sorted" [.o (.lst (l.map .str))] = some (.o (.lst (m.map .str))) := by
  have hmn : m.Nodup := hm.imp fun {a b} h e => by subst e; exact List.lt_irrefl _ h
  have e : srtD (l.map .str) = m.map .str := by
    refine srt_eq ((perm_of hl hmn h).map _) ?_ ?_
    · rw [List.pairwise_map]
      refine hm.imp fun {a b} hab => ?_
      rw [leD_eq, ltD_str]
      have : ¬ b < a := fun z => List.lt_irrefl _ (List.lt_trans hab z)
      simp [this]
    · intro a ha b hb h1 h2
      obtain ⟨x, _, rfl⟩ := List.mem_map.mp ha
      obtain ⟨y, _, rfl⟩ := List.mem_map.mp hb
      rw [leD_eq, ltD_str] at h1 h2
      have h1' : ¬ y < x := by simpa using h1
      have h2' : ¬ x < y := by simpa using h2
      rw [List.le_antisymm h1' h2']
  rw [V_sorted, if_pos, e]
  rw [Bool.and_eq_true, Bool.and_eq_true, decide_eq_true_eq]
  refine ⟨⟨?_, ?_⟩, ?_⟩
  · unfold alkD
    rw [List.all_eq_true]
    intro x hx
    rw [List.all_eq_true]
    intro y hy
    obtain ⟨a, _, rfl⟩ := List.mem_map.mp hx
    obtain ⟨b, _, rfl⟩ := List.mem_map.mp hy
    simp [toPy, PySem.W.alike]
  · unfold srtK
    rw [Bool.or_eq_true]
    refine .inr ?_
    rw [List.all_eq_true]
    intro d hd
    obtain ⟨a, _, rfl⟩ := List.mem_map.mp hd
    rfl
  · have : dpts (l.map D.str) ≤ 0 + 1 := dpts_le fun d hd => by
      obtain ⟨a, _, rfl⟩ := List.mem_map.mp hd
      exact Nat.zero_le _
    omega
/-! ### left and right changed -/
def xsX (cols : Cols) (y : Nat) : List Nat := (List.range cols.length).filter fun x => opn cols (x : Int) (y : Int)
def flX (cols : Cols) : Cols := (List.range ((endP cols).2.toNat + 1)).map fun y => (((xsX cols y).getD 0 0 : Int), ((xsX cols y).getLast?.getD 0 : Int))
theorem open_last {cols : Cols} {x y : Int} (h : opn cols x y = true) : x.toNat < cols.length := by have := opn_x h; omega
section
variable {cols : Cols}
theorem xs_mem {x y : Nat} : x ∈ xsX cols y ↔ opn cols x y = true := by
  unfold xsX
  rw [List.mem_filter, List.mem_range]
  constructor
  · exact fun h => h.2
  · intro h
    have := opn_x h
    exact ⟨by omega, h⟩
theorem good_mono {h : Int} (g : Good h cols) : ∀ (d i : Nat) (a b : Int × Int), cols[i]? = some a → cols[i + d]? = some b → a.1 ≤ b.1 ∧ a.2 ≤ b.2
  | 0, i, a, b, ha, hb => by rw [Nat.add_zero, ha] at hb; cases hb; omega
  | d + 1, i, a, b, ha, hb => by
    have hl := (List.getElem?_eq_some_iff.mp hb).1
    have hc : cols[i + d]? = some (cols[i + d]'(by omega)) := List.getElem?_eq_getElem _
    have h1 := good_mono g d i a _ ha hc
    have h2 := g.nxt (i + d) _ b hc hb
    omega
/-- what is open at two places is so between them -/
theorem open_between (g : Reg cols) {x z w : Nat} {y : Int} (h1 : opn cols x y = true) (h2 : opn cols z y = true) (hx : x ≤ w) (hz : w ≤ z) : opn cols w y = true := by
  obtain ⟨_, a, ha, a1, a2⟩ := opn_iff.mp h1
  obtain ⟨_, b, hb, b1, b2⟩ := opn_iff.mp h2
  rw [Int.toNat_natCast] at ha hb
  have hl := (List.getElem?_eq_some_iff.mp hb).1
  have hc : cols[w]? = some (cols[w]'(by omega)) := List.getElem?_eq_getElem _
  have m1 := good_mono g.good (w - x) x a _ ha (by rw [show x + (w - x) = w by omega]; exact hc)
  have m2 := good_mono g.good (z - w) w _ b hc (by rw [show w + (z - w) = z by omega]; exact hb)
  exact opn_iff.mpr ⟨by omega, _, by rw [Int.toNat_natCast]; exact hc, by omega, by omega⟩
theorem xs_ne (g : Reg cols) : ∀ (y : Nat), (y : Int) ≤ (endP cols).2 → xsX cols y ≠ [] := by
  intro y hy z
  have hes := g.end_sum
  -- down from the end
  have : ∀ (d : Nat), (d : Int) ≤ (endP cols).2 → ∃ x : Nat, opn cols x ((endP cols).2 - d) = true := by
    intro d
    induction d with
    | zero =>
      intro _
      refine ⟨(endP cols).1.toNat, ?_⟩
      rw [Int.toNat_of_nonneg hes.1]
      simpa using g.end_open
    | succ d ih =>
      intro hd
      obtain ⟨x, hx⟩ := ih (by omega)
      -- left until a step from below
      have key : ∀ (n x : Nat), x ≤ n → opn cols x ((endP cols).2 - d) = true → ∃ x' : Nat, opn cols x' ((endP cols).2 - (d + 1 : Nat)) = true := by
        intro n
        induction n with
        | zero =>
          intro x hn hx
          have : x = 0 := by omega
          subst this
          rcases g.pred (t := (((0 : Nat) : Int), (endP cols).2 - d)) hx (by intro e; injection e with _ e; omega) with h | h
          · have := (g.le_end h).1; simp only at this; omega
          · exact ⟨0, by rw [show (endP cols).2 - ((d + 1 : Nat) : Int) = (endP cols).2 - d - 1 by omega]; exact h⟩
        | succ n ih2 =>
          intro x hn hx
          rcases g.pred (t := ((x : Int), (endP cols).2 - d)) hx (by intro e; injection e with _ e; omega) with h | h
          · have h0 := (g.le_end h).1
            simp only at h0 h
            exact ih2 (x - 1) (by omega) (by rw [show ((x - 1 : Nat) : Int) = (x : Int) - 1 by omega]; exact h)
          · exact ⟨x, by rw [show (endP cols).2 - ((d + 1 : Nat) : Int) = (endP cols).2 - d - 1 by omega]; exact h⟩
      exact key x x (Nat.le_refl _) hx
  obtain ⟨x, hx⟩ := this ((endP cols).2.toNat - y) (by omega)
  rw [show (endP cols).2 - (((endP cols).2.toNat - y : Nat) : Int) = y by omega] at hx
  have := xs_mem.mpr hx
  rw [z] at this; cases this
theorem xs_ends (g : Reg cols) {y : Nat} (hy : (y : Int) ≤ (endP cols).2) : ∃ a b : Nat, (xsX cols y)[0]? = some a ∧ (xsX cols y).getLast? = some b ∧ opn cols a y = true ∧ opn cols b y = true ∧ ∀ x : Nat, opn cols x y = true ↔ a ≤ x ∧ x ≤ b := by
  obtain ⟨a, b, e1, e2, m1, m2, hb⟩ := asc_ends ((List.pairwise_lt_range).filter _ : (xsX cols y).Pairwise (· < ·)) (xs_ne g y hy)
  refine ⟨a, b, e1, e2, xs_mem.mp m1, xs_mem.mp m2, fun x => ⟨fun h => hb x (xs_mem.mpr h), fun ⟨h1, h2⟩ => open_between g (xs_mem.mp m1) (xs_mem.mp m2) h1 h2⟩⟩
theorem fl_get (g : Reg cols) {y : Nat} (hy : (y : Int) ≤ (endP cols).2) : ∃ a b : Nat, (flX cols)[y]? = some ((a : Int), (b : Int)) ∧ (xsX cols y)[0]? = some a ∧ (xsX cols y).getLast? = some b ∧ opn cols a y = true ∧ opn cols b y = true ∧ ∀ x : Nat, opn cols x y = true ↔ a ≤ x ∧ x ≤ b := by
  obtain ⟨a, b, e1, e2, h⟩ := xs_ends g hy
  refine ⟨a, b, ?_, e1, e2, h⟩
  have hes := g.end_sum
  unfold flX
  rw [List.getElem?_map, List.getElem?_range (by omega)]
  simp [e1, e2, List.getD_eq_getElem?_getD]
theorem fl_len (cols : Cols) : (flX cols).length = (endP cols).2.toNat + 1 := by unfold flX; rw [List.length_map, List.length_range]
theorem fl_opn (g : Reg cols) (x y : Int) : opn (flX cols) y x = true ↔ opn cols x y = true := by
  have hes := g.end_sum
  constructor
  · intro h
    obtain ⟨h0, c, hc, c1, c2⟩ := opn_iff.mp h
    have hl := (List.getElem?_eq_some_iff.mp hc).1
    rw [fl_len] at hl
    obtain ⟨a, b, e, _, _, _, _, hab⟩ := fl_get g (y := y.toNat) (by omega)
    rw [e] at hc; cases hc
    simp only at c1 c2
    have := (hab x.toNat).mpr ⟨by omega, by omega⟩
    rwa [Int.toNat_of_nonneg (by omega), Int.toNat_of_nonneg h0] at this
  · intro h
    have hb := g.le_end h
    obtain ⟨a, b, e, _, _, _, _, hab⟩ := fl_get g (y := y.toNat) (by omega)
    have := (hab x.toNat).mp (by rw [Int.toNat_of_nonneg (by omega), Int.toNat_of_nonneg (by omega)]; exact h)
    exact opn_iff.mpr ⟨by omega, _, e, by simp only; omega, by simp only; omega⟩
theorem step_open (g : Reg cols) {x y : Int} (h : opn cols x y = true) (hn : (x, y) ≠ endP cols) : opn cols (x + 1) y = true ∨ opn cols x (y + 1) = true := by
  have hst := g.step (s := (x, y)) h hn
  cases hs : stepsP cols (x, y) with
  | nil => exact (hst hs).elim
  | cons c r =>
    have hc := (mem_steps.mp (by rw [hs]; exact List.mem_cons_self ..) : (c = 76 ∨ c = 82) ∧ opn cols (afterP (x, y) c).1 (afterP (x, y) c).2 = true)
    rcases hc.1 with rfl | rfl
    · exact .inl hc.2
    · exact .inr hc.2
theorem fl_reg (g : Reg cols) : Reg (flX cols) where
  good := {
    all := fun c hc => by
      have hes := g.end_sum
      obtain ⟨y, hy⟩ := List.getElem?_of_mem hc
      have hl := (List.getElem?_eq_some_iff.mp hy).1
      rw [fl_len] at hl
      obtain ⟨a, b, e, _, _, oa, ob, hab⟩ := fl_get g (y := y) (by omega)
      rw [e] at hy; cases hy
      have h1 := (hab a).mp oa
      have h2 := (g.le_end ob).2.2.1
      simp only
      omega
    fst := fun c hc => by
      have hes := g.end_sum
      obtain ⟨a, b, e, _, _, oa, ob, hab⟩ := fl_get g (y := 0) (by omega)
      rw [e] at hc; cases hc
      have := (hab 0).mp g.start_open
      simp only
      omega
    nxt := fun y c d hc hd => by
      have hes := g.end_sum
      have hl := (List.getElem?_eq_some_iff.mp hd).1
      rw [fl_len] at hl
      obtain ⟨a, b, e, _, _, oa, ob, hab⟩ := fl_get g (y := y) (by omega)
      obtain ⟨a', b', e', _, _, oa', ob', hab'⟩ := fl_get g (y := y + 1) (by omega)
      rw [e] at hc; cases hc
      rw [e'] at hd; cases hd
      have h1 : opn cols a' y = true := by
        rcases g.pred (t := ((a' : Int), ((y + 1 : Nat) : Int))) oa' (by intro z; injection z with _ z; omega) with h | h
        · have h0 := (g.le_end h).1
          simp only at h h0
          have := (hab' (a' - 1)).mp (by rw [show ((a' - 1 : Nat) : Int) = (a' : Int) - 1 by omega]; exact h)
          omega
        · simp only at h
          rwa [show ((y + 1 : Nat) : Int) - 1 = (y : Int) by omega] at h
      have h2 : opn cols b ((y + 1 : Nat) : Int) = true := by
        rcases step_open g ob (by intro z; have := congrArg Prod.snd z; simp only at this; omega) with h | h
        · have := (hab (b + 1)).mp h
          omega
        · rwa [show ((y : Int) + 1) = ((y + 1 : Nat) : Int) by omega] at h
      have h3 := (hab a').mp h1
      have h4 := (hab' b).mp h2
      simp only
      omega }
  pos := by rw [fl_len]; omega
  len := by rw [fl_len]; have := g.end_sum; omega
/-- the end is told by the spans -/
theorem end_by (g : Reg cols) {e : Int × Int} (h : opn cols e.1 e.2 = true) (hm : ∀ x y : Int, opn cols x y = true → x ≤ e.1 ∧ y ≤ e.2) : endP cols = e := by
  have h1 := g.le_end h
  have h2 := hm _ _ g.end_open
  exact Prod.ext (by omega) (by omega)
theorem fl_end (g : Reg cols) : endP (flX cols) = ((endP cols).2, (endP cols).1) :=
  end_by (fl_reg g) ((fl_opn g _ _).mpr g.end_open) fun x y h => by have := g.le_end ((fl_opn g _ _).mp h); simp only; omega
theorem fl_fl (g : Reg cols) : flX (flX cols) = cols := reg_ext (fl_reg (fl_reg g)) g fun x y => by rw [fl_opn (fl_reg g), fl_opn g]
/-! ### from the end to the beginning -/
def bkX (cols : Cols) : Cols := cols.reverse.map fun c => ((endP cols).2 - c.2, (endP cols).2 - c.1)
theorem bk_len (cols : Cols) : (bkX cols).length = cols.length := by unfold bkX; rw [List.length_map, List.length_reverse]
theorem end_len (g : Reg cols) : (endP cols).1 = (cols.length : Int) - 1 := by
  obtain ⟨c, _, _, h⟩ := g.last
  rw [h]
theorem bk_get (cols : Cols) {i : Nat} (h : i < cols.length) : (bkX cols)[i]? = (cols[cols.length - 1 - i]?).map fun c => ((endP cols).2 - c.2, (endP cols).2 - c.1) := by
  unfold bkX
  rw [List.getElem?_map, List.getElem?_reverse h]
theorem bk_opn (g : Reg cols) (x y : Int) : opn (bkX cols) x y = true ↔ opn cols ((endP cols).1 - x) ((endP cols).2 - y) = true := by
  have he := end_len g
  rw [opn_iff, opn_iff]
  constructor
  · rintro ⟨h0, c, hc, c1, c2⟩
    have hl := (List.getElem?_eq_some_iff.mp hc).1
    rw [bk_len] at hl
    rw [bk_get cols hl] at hc
    obtain ⟨d, hd, rfl⟩ := Option.map_eq_some_iff.mp hc
    simp only at c1 c2
    refine ⟨by omega, d, ?_, by omega, by omega⟩
    rw [show ((endP cols).1 - x).toNat = cols.length - 1 - x.toNat by omega]
    exact hd
  · rintro ⟨h0, d, hd, c1, c2⟩
    have hl := (List.getElem?_eq_some_iff.mp hd).1
    have hx : 0 ≤ x ∨ x < 0 := by omega
    rcases hx with hx | hx
    · refine ⟨hx, ((endP cols).2 - d.2, (endP cols).2 - d.1), ?_, by simp only; omega, by simp only; omega⟩
      rw [bk_get cols (by omega), show cols.length - 1 - x.toNat = ((endP cols).1 - x).toNat by omega, hd]
      rfl
    · omega
theorem bk_reg (g : Reg cols) : Reg (bkX cols) where
  good := {
    all := fun c hc => by
      have hes := g.end_sum
      unfold bkX at hc
      obtain ⟨d, hd, rfl⟩ := List.mem_map.mp hc
      have hd := List.mem_reverse.mp hd
      have hb := g.good.all d hd
      obtain ⟨i, hi⟩ := List.getElem?_of_mem hd
      have h2 := g.le_end (x := i) (y := d.2) (opn_iff.mpr ⟨by omega, d, by rw [Int.toNat_natCast]; exact hi, by omega, by omega⟩)
      simp only
      omega
    fst := fun c hc => by
      obtain ⟨e, e1, e2, e3⟩ := g.last
      rw [bk_get cols g.pos, Nat.sub_zero, e2] at hc
      cases hc
      rw [e3]; simp
    nxt := fun i a b ha hb => by
      have hl := (List.getElem?_eq_some_iff.mp hb).1
      rw [bk_len] at hl
      rw [bk_get cols (by omega)] at ha
      rw [bk_get cols hl] at hb
      obtain ⟨c, hc, rfl⟩ := Option.map_eq_some_iff.mp ha
      obtain ⟨d, hd, rfl⟩ := Option.map_eq_some_iff.mp hb
      have := g.good.nxt (cols.length - 1 - (i + 1)) d c hd (by rw [show cols.length - 1 - (i + 1) + 1 = cols.length - 1 - i by omega]; exact hc)
      simp only
      omega }
  pos := by rw [bk_len]; exact g.pos
  len := by rw [bk_len]; exact g.len
theorem bk_end (g : Reg cols) : endP (bkX cols) = endP cols :=
  end_by (bk_reg g) ((bk_opn g _ _).mpr (by rw [Int.sub_self, Int.sub_self]; exact g.start_open)) fun x y h => by have := g.le_end ((bk_opn g _ _).mp h); omega
theorem bk_bk (g : Reg cols) : bkX (bkX cols) = cols := reg_ext (bk_reg (bk_reg g)) g fun x y => by
  rw [bk_opn (bk_reg g), bk_opn g, bk_end g, show (endP cols).1 - ((endP cols).1 - x) = x by omega, show (endP cols).2 - ((endP cols).2 - y) = y by omega]
theorem bk_fl (g : Reg cols) : bkX (flX cols) = flX (bkX cols) := reg_ext (bk_reg (fl_reg g)) (fl_reg (bk_reg g)) fun x y => by
  rw [bk_opn (fl_reg g), fl_opn g, fl_opn (bk_reg g), bk_opn g, fl_end g]
/-! ### their plays -/
def swC (c : Nat) : Nat := if c = 76 then 82 else if c = 82 then 76 else c
def swS (s : Int × Int) : Int × Int := (s.2, s.1)
theorem swC_sw (c : Nat) : swC (swC c) = c := by
  unfold swC
  by_cases h : c = 76
  · simp [h]
  · by_cases h2 : c = 82
    · simp [h2]
    · simp [h, h2]
theorem swW_sw (w : List Nat) : (w.map swC).map swC = w := by
  rw [List.map_map]
  conv => rhs; rw [← List.map_id w]
  exact List.map_congr_left fun c _ => swC_sw c
theorem Wk_fl (g : Reg cols) : ∀ {w : List Nat} {s t : Int × Int}, Wk cols s w t → Wk (flX cols) (swS s) (w.map swC) (swS t)
  | [], s, t, h => by
    have h : s = t := h
    subst h; exact rfl
  | c :: r, s, t, ⟨hc, ho, h⟩ => by
    have e : afterP (swS s) (swC c) = swS (afterP s c) := by
      rcases hc with rfl | rfl <;> rfl
    refine ⟨?_, ?_, ?_⟩
    · rcases hc with rfl | rfl
      · exact .inr rfl
      · exact .inl rfl
    · rw [e]; exact (fl_opn g _ _).mpr ho
    · rw [e]; exact Wk_fl g h
def tnS (cols : Cols) (s : Int × Int) : Int × Int := ((endP cols).1 - s.1, (endP cols).2 - s.2)
theorem Wk_bk (g : Reg cols) : ∀ {w : List Nat} {s t : Int × Int}, opn cols s.1 s.2 = true → Wk cols s w t → Wk (bkX cols) (tnS cols t) w.reverse (tnS cols s)
  | [], s, t, _, h => by
    have h : s = t := h
    subst h; exact rfl
  | c :: r, s, t, hs, ⟨hc, ho, h⟩ => by
    have ih := Wk_bk g ho h
    have e : afterP (tnS cols (afterP s c)) c = tnS cols s := by
      rcases hc with rfl | rfl
      · show ((endP cols).1 - (s.1 + 1) + 1, (endP cols).2 - s.2) = _
        unfold tnS; congr 1; omega
      · show ((endP cols).1 - s.1, (endP cols).2 - (s.2 + 1) + 1) = _
        unfold tnS; congr 1; omega
    have hb : opn (bkX cols) (tnS cols s).1 (tnS cols s).2 = true := by
      refine (bk_opn g _ _).mpr ?_
      unfold tnS
      simp only
      rw [show (endP cols).1 - ((endP cols).1 - s.1) = s.1 by omega, show (endP cols).2 - ((endP cols).2 - s.2) = s.2 by omega]
      exact hs
    have := Wk.snoc ih hc (by rw [e]; exact hb)
    rw [e] at this
    rw [List.reverse_cons]
    exact this
theorem nodup_map {α β : Type} {f : α → β} (hf : ∀ a b, f a = f b → a = b) {l : List α} (h : l.Nodup) : (l.map f).Nodup := by
  rw [List.Nodup, List.pairwise_map]
  exact h.imp fun h e => h (hf _ _ e)
theorem listP_nodup (cols : Cols) : (listP cols).Nodup := (listP_sorted cols).imp fun {a b} h e => by subst e; exact List.lt_irrefl _ h
theorem fl_mem (g : Reg cols) (w : List Nat) : w ∈ (listP cols).map (fun w => w.map swC) ↔ w ∈ listP (flX cols) := by
  rw [mem_listP (fl_reg g), List.mem_map]
  constructor
  · rintro ⟨v, hv, rfl⟩
    have := Wk_fl g ((mem_listP g).mp hv)
    rw [fl_end g]; exact this
  · intro h
    refine ⟨w.map swC, (mem_listP g).mpr ?_, swW_sw w⟩
    have := Wk_fl (fl_reg g) h
    rw [fl_fl g, fl_end g] at this
    exact this
theorem bk_mem (g : Reg cols) (w : List Nat) : w ∈ (listP cols).map List.reverse ↔ w ∈ listP (bkX cols) := by
  have key : ∀ {cols : Cols} (g : Reg cols) {w : List Nat}, Wk cols (0, 0) w (endP cols) → Wk (bkX cols) (0, 0) w.reverse (endP (bkX cols)) := fun {cols} g {w} h => by
    have := Wk_bk g (s := (0, 0)) g.start_open h
    unfold tnS at this
    rw [Int.sub_self, Int.sub_self] at this
    rw [bk_end g]
    simpa using this
  rw [mem_listP (bk_reg g), List.mem_map]
  constructor
  · rintro ⟨v, hv, rfl⟩
    exact key g ((mem_listP g).mp hv)
  · intro h
    refine ⟨w.reverse, (mem_listP g).mpr ?_, List.reverse_reverse w⟩
    have := key (bk_reg g) h
    rw [bk_bk g] at this
    exact this
theorem sorted_fl (g : Reg cols) : bD "sorted" [.o (.lst (((listP cols).map fun w => w.map swC).map .str))] = some (.o (.lst ((listP (flX cols)).map .str))) :=
  sorted_S (nodup_map (fun a b h => by rw [← swW_sw a, h, swW_sw]) (listP_nodup cols)) (listP_sorted _) (fl_mem g)
theorem sorted_bk (g : Reg cols) : bD "sorted" [.o (.lst (((listP cols).map List.reverse).map .str))] = some (.o (.lst ((listP (bkX cols)).map .str))) :=
  sorted_S (nodup_map (fun a b h => by rw [← List.reverse_reverse a, h, List.reverse_reverse]) (listP_nodup cols)) (listP_sorted _) (bk_mem g)
/-- the spans, changed and sorted -/
theorem spans_fl (g : Reg cols) : srtC ((spansP cols).map swS) = spansP (flX cols) :=
  srtC_eq (nodup_map (fun a b h => by have h1 := congrArg Prod.fst h; have h2 := congrArg Prod.snd h; exact Prod.ext h2 h1) (spans_nodup cols)) (spans_sorted _) fun s => by
    rw [mem_spans', List.mem_map]
    constructor
    · rintro ⟨t, ht, rfl⟩
      exact (fl_opn g _ _).mpr (mem_spans'.mp ht)
    · intro h
      exact ⟨(s.2, s.1), mem_spans'.mpr ((fl_opn g _ _).mp h), rfl⟩
theorem spans_bk (g : Reg cols) : srtC ((spansP cols).map (tnS cols)) = spansP (bkX cols) :=
  srtC_eq (nodup_map (fun a b h => by have h1 := congrArg Prod.fst h; have h2 := congrArg Prod.snd h; unfold tnS at h1 h2; simp only at h1 h2; exact Prod.ext (by omega) (by omega)) (spans_nodup cols)) (spans_sorted _) fun s => by
    rw [mem_spans', List.mem_map]
    constructor
    · rintro ⟨t, ht, rfl⟩
      refine (bk_opn g _ _).mpr ?_
      unfold tnS
      simp only
      rw [show (endP cols).1 - ((endP cols).1 - t.1) = t.1 by omega, show (endP cols).2 - ((endP cols).2 - t.2) = t.2 by omega]
      exact mem_spans'.mp ht
    · intro h
      refine ⟨tnS cols s, mem_spans'.mpr ((bk_opn g _ _).mp h), ?_⟩
      unfold tnS
      exact Prod.ext (by simp only; omega) (by simp only; omega)
end
end VI

set_option Elab.async false
set_option linter.all false
set_option maxRecDepth 100000
set_option maxHeartbeats 4000000
set_option autoImplicit false
namespace K51
open PySem PySem.Spec PyProof.Rows L2 VI
def topS (i : Nat) : Stmt := PySem.Challenge.pw_keylanes_k51_whole_turned_regions.main.body.getD i (.Pass ⟨0, 0, 0, 0⟩)
abbrev s_is_int : Stmt := topS 6
def b_is_int : Cms := (.cons (.ret (.bool true (.cons (.isi (.var 0) ["int"]) (.cons (.nt (.isi (.var 0) ["bool"])) .nil)))) .nil)
def f_is_int : FD := ⟨"is_int", ["value"], ["value"], b_is_int⟩
abbrev s_is_in : Stmt := topS 7
def b_is_in : Cms := (.cons (.ret (.bool true (.cons (.call "is_int" (.cons (.var 0) .nil)) (.cons (.ch2 .le .le (.var 1) (.var 0) (.var 2)) .nil)))) .nil)
def f_is_in : FD := ⟨"is_in", ["value", "least", "most"], ["value", "least", "most"], b_is_in⟩
abbrev s_is_column : Stmt := topS 9
def b_is_column : Cms := (.cons (.ife (.bool false (.cons (.nt (.ex (.isi (.var 0) ["tuple"]))) (.cons (.ex (.cmp .ne (.b "len" (.cons (.var 0) .nil)) (.lit (.int 2)))) .nil))) (.cons (.ret (.lit (.bl false))) .nil) .nil) (.cons (.ret (.bool true (.cons (.call "is_in" (.cons (.ix (.var 0) (.lit (.int 0))) (.cons (.lit (.int 0)) (.cons (.op .sub (.cst "MOST_ROOMS" (.int 60)) (.lit (.int 1))) .nil)))) (.cons (.call "is_in" (.cons (.ix (.var 0) (.lit (.int 1))) (.cons (.ix (.var 0) (.lit (.int 0))) (.cons (.op .sub (.cst "MOST_ROOMS" (.int 60)) (.lit (.int 1))) .nil)))) .nil)))) .nil))
def f_is_column : FD := ⟨"is_column", ["value"], ["value"], b_is_column⟩
abbrev s_fits_behind : Stmt := topS 10
def b_fits_behind : Cms := (.cons (.ret (.ch3 .le .le .le (.ix (.var 0) (.lit (.int 0))) (.ix (.var 1) (.lit (.int 0))) (.ix (.var 0) (.lit (.int 1))) (.ix (.var 1) (.lit (.int 1))))) .nil)
def f_fits_behind : FD := ⟨"fits_behind", ["one", "other"], ["one", "other"], b_fits_behind⟩
abbrev s_need_region : Stmt := topS 11
def l_need_region_0 : Cms := (.cons (.ife (.nt (.ex (.call "is_column" (.cons (.var 2) .nil)))) (.cons .never .nil) .nil) (.cons (.ife (.bool false (.cons (.bool true (.cons (.ex (.cmp .eq (.var 1) (.lit (.int 0)))) (.cons (.ex (.cmp .ne (.ix (.var 2) (.lit (.int 0))) (.lit (.int 0)))) .nil))) (.cons (.bool true (.cons (.ex (.cmp .gt (.var 1) (.lit (.int 0)))) (.cons (.nt (.ex (.call "fits_behind" (.cons (.ix (.var 0) (.op .sub (.var 1) (.lit (.int 1)))) (.cons (.var 2) .nil))))) .nil))) .nil))) (.cons .never .nil) .nil) .nil))
def b_need_region : Cms := (.cons (.ife (.bool false (.cons (.nt (.ex (.isi (.var 0) ["tuple"]))) (.cons (.nt (.ex (.ch2 .le .le (.lit (.int 1)) (.b "len" (.cons (.var 0) .nil)) (.cst "MOST_ROOMS" (.int 60))))) .nil))) (.cons .never .nil) .nil) (.cons (.fr (.tp (.cons (.nm 1) (.cons (.nm 2) .nil))) (.en (.var 0)) l_need_region_0) .nil))
def f_need_region : FD := ⟨"need_region", ["value"], ["value", "index", "column"], b_need_region⟩
abbrev s_end_of : Stmt := topS 12
def b_end_of : Cms := (.cons (.ret (.tup (.cons (.op .sub (.b "len" (.cons (.var 0) .nil)) (.lit (.int 1))) (.cons (.ix (.ix (.var 0) (.neg (.lit (.int 1)))) (.lit (.int 1))) .nil)))) .nil)
def f_end_of : FD := ⟨"end_of", ["region"], ["region"], b_end_of⟩
abbrev s_is_open : Stmt := topS 13
def b_is_open : Cms := (.cons (.ret (.bool true (.cons (.ch2 .le .lt (.lit (.int 0)) (.ix (.var 1) (.lit (.int 0))) (.b "len" (.cons (.var 0) .nil))) (.cons (.ch2 .le .le (.ix (.ix (.var 0) (.ix (.var 1) (.lit (.int 0)))) (.lit (.int 0))) (.ix (.var 1) (.lit (.int 1))) (.ix (.ix (.var 0) (.ix (.var 1) (.lit (.int 0)))) (.lit (.int 1)))) .nil)))) .nil)
def f_is_open : FD := ⟨"is_open", ["region", "span"], ["region", "span"], b_is_open⟩
abbrev s_spans_of : Stmt := topS 14
def q_spans_of_0 : Ex := .lc2 [2, 3, 1] [1] (.tp (.cons (.nm 2) (.cons (.nm 3) .nil))) (.en (.var 0)) .no (.nm 1) (.r2 (.ix (.var 3) (.lit (.int 0))) (.op .add (.ix (.var 3) (.lit (.int 1))) (.lit (.int 1)))) .no (.tup (.cons (.var 2) (.cons (.var 1) .nil)))
@[simp] theorem opd_q_spans_of_0 (d : Fr → R Rt) (f : Fr) : opd q_spans_of_0 d f = (d f).bind fun r f1 => .ok (.rt r) f1 := rfl
@[simp] theorem arg_q_spans_of_0 (d : Fr → R Rt) (f : Fr) : arg q_spans_of_0 d f = (d f).bind fun r f1 => match r with | .v d => .ok (.val d) f1 | .o ob => .ok (.tmp ob) f1 := rfl
@[simp] theorem evW_q_spans_of_0 (d : Fr → R Rt) (f : Fr) : evW q_spans_of_0 d f = (d f).bind fun x f1 => ofO f1 ((walkR x).map fun ds => (ds, [])) := rfl
@[simp] theorem mvR_q_spans_of_0 (d : Fr → R Rt) (f : Fr) : mvR q_spans_of_0 d f = d f := rfl
def b_spans_of : Cms := (.cons (.ret q_spans_of_0) .nil)
def f_spans_of : FD := ⟨"spans_of", ["region"], ["region", "y", "x", "column"], b_spans_of⟩
abbrev s_steps_in : Stmt := topS 15
def b_steps_in : Cms := (.cons (.asgt (.tp (.cons (.nm 3) (.cons (.nm 4) .nil))) (.var 1)) (.cons (.asg 2 (.ite (.ex (.call "is_open" (.cons (.var 0) (.cons (.tup (.cons (.op .add (.var 3) (.lit (.int 1))) (.cons (.var 4) .nil))) .nil)))) (.lit (.str [76])) (.lit (.str [])))) (.cons (.ret (.ite (.ex (.call "is_open" (.cons (.var 0) (.cons (.tup (.cons (.var 3) (.cons (.op .add (.var 4) (.lit (.int 1))) .nil))) .nil)))) (.op .add (.var 2) (.lit (.str [82]))) (.var 2))) .nil)))
def f_steps_in : FD := ⟨"steps_in", ["region", "span"], ["region", "span", "found", "x", "y"], b_steps_in⟩
abbrev s_behind_of : Stmt := topS 18
def l_behind_of_0 : Cms := (.cons (.sset 1 (.tup (.cons (.var 3) (.cons (.var 4) .nil))) (.ite (.ex (.cmp .eq (.tup (.cons (.var 3) (.cons (.var 4) .nil))) (.var 2))) (.lit (.int 1)) (.op .add (.gt (.var 1) (.tup (.cons (.op .add (.var 3) (.lit (.int 1))) (.cons (.var 4) .nil))) (.lit (.int 0))) (.gt (.var 1) (.tup (.cons (.var 3) (.cons (.op .add (.var 4) (.lit (.int 1))) .nil))) (.lit (.int 0)))))) .nil)
def b_behind_of : Cms := (.cons (.par [1, 2] (.cons (.dct true .nil .nil) (.cons (.call "end_of" (.cons (.var 0) .nil)) .nil))) (.cons (.fr (.tp (.cons (.nm 3) (.cons (.nm 4) .nil))) (.ex (.rev (.call "spans_of" (.cons (.var 0) .nil)))) l_behind_of_0) (.cons (.ret (.var 1)) .nil)))
def f_behind_of : FD := ⟨"behind_of", ["region"], ["region", "found", "end", "x", "y"], b_behind_of⟩
abbrev s_after : Stmt := topS 19
def b_after : Cms := (.cons (.ret (.ite (.ex (.cmp .eq (.var 1) (.lit (.str [76])))) (.tup (.cons (.op .add (.ix (.var 0) (.lit (.int 0))) (.lit (.int 1))) (.cons (.ix (.var 0) (.lit (.int 1))) .nil))) (.tup (.cons (.ix (.var 0) (.lit (.int 0))) (.cons (.op .add (.ix (.var 0) (.lit (.int 1))) (.lit (.int 1))) .nil))))) .nil)
def f_after : FD := ⟨"after", ["span", "sign"], ["span", "sign"], b_after⟩
abbrev s_plays : Stmt := topS 20
def q_plays_0 : Ex := .lc2 [5, 6, 4] [4] (.tp (.cons (.nm 5) (.cons (.nm 6) .nil))) (.ex (.var 2)) .no (.nm 4) (.ex (.call "steps_in" (.cons (.var 0) (.cons (.var 6) .nil)))) .no (.tup (.cons (.op .add (.var 5) (.var 4)) (.cons (.call "after" (.cons (.var 6) (.cons (.var 4) .nil))) .nil)))
@[simp] theorem opd_q_plays_0 (d : Fr → R Rt) (f : Fr) : opd q_plays_0 d f = (d f).bind fun r f1 => .ok (.rt r) f1 := rfl
@[simp] theorem arg_q_plays_0 (d : Fr → R Rt) (f : Fr) : arg q_plays_0 d f = (d f).bind fun r f1 => match r with | .v d => .ok (.val d) f1 | .o ob => .ok (.tmp ob) f1 := rfl
@[simp] theorem evW_q_plays_0 (d : Fr → R Rt) (f : Fr) : evW q_plays_0 d f = (d f).bind fun x f1 => ofO f1 ((walkR x).map fun ds => (ds, [])) := rfl
@[simp] theorem mvR_q_plays_0 (d : Fr → R Rt) (f : Fr) : mvR q_plays_0 d f = d f := rfl
def l_plays_1 : Cms := (.cons (.asg 2 q_plays_0) .nil)
def q_plays_2 : Ex := .lc [5, 6] (.tp (.cons (.nm 5) (.cons (.nm 6) .nil))) (.ex (.var 2)) .no (.var 5)
@[simp] theorem opd_q_plays_2 (d : Fr → R Rt) (f : Fr) : opd q_plays_2 d f = (d f).bind fun r f1 => .ok (.rt r) f1 := rfl
@[simp] theorem arg_q_plays_2 (d : Fr → R Rt) (f : Fr) : arg q_plays_2 d f = (d f).bind fun r f1 => match r with | .v d => .ok (.val d) f1 | .o ob => .ok (.tmp ob) f1 := rfl
@[simp] theorem evW_q_plays_2 (d : Fr → R Rt) (f : Fr) : evW q_plays_2 d f = (d f).bind fun x f1 => ofO f1 ((walkR x).map fun ds => (ds, [])) := rfl
@[simp] theorem mvR_q_plays_2 (d : Fr → R Rt) (f : Fr) : mvR q_plays_2 d f = d f := rfl
def b_plays : Cms := (.cons (.ex (.call "need_region" (.cons (.var 0) .nil))) (.cons (.ife (.ex (.cmp .gt (.ix (.call "behind_of" (.cons (.var 0) .nil)) (.tup (.cons (.lit (.int 0)) (.cons (.lit (.int 0)) .nil)))) (.cst "MOST_LISTED" (.int 500)))) (.cons .never .nil) .nil) (.cons (.par [2, 3] (.cons (.lst (.cons (.tup (.cons (.lit (.str [])) (.cons (.tup (.cons (.lit (.int 0)) (.cons (.lit (.int 0)) .nil))) .nil))) .nil)) (.cons (.call "end_of" (.cons (.var 0) .nil)) .nil))) (.cons (.fr (.nm 1) (.r1 (.b "sum" (.cons (.var 3) .nil))) l_plays_1) (.cons (.ret q_plays_2) .nil)))))
def f_plays : FD := ⟨"plays", ["region"], ["region", "turn", "found", "end", "sign", "word", "span"], b_plays⟩
abbrev s_flipped_of : Stmt := topS 22
def q_flipped_of_0 : Ex := .lc [4, 5] (.tp (.cons (.nm 4) (.cons (.nm 5) .nil))) (.en (.var 0)) (.so (.ex (.ch2 .le .le (.ix (.var 5) (.lit (.int 0))) (.var 2) (.ix (.var 5) (.lit (.int 1)))))) (.var 4)
@[simp] theorem opd_q_flipped_of_0 (d : Fr → R Rt) (f : Fr) : opd q_flipped_of_0 d f = (d f).bind fun r f1 => .ok (.rt r) f1 := rfl
@[simp] theorem arg_q_flipped_of_0 (d : Fr → R Rt) (f : Fr) : arg q_flipped_of_0 d f = (d f).bind fun r f1 => match r with | .v d => .ok (.val d) f1 | .o ob => .ok (.tmp ob) f1 := rfl
@[simp] theorem evW_q_flipped_of_0 (d : Fr → R Rt) (f : Fr) : evW q_flipped_of_0 d f = (d f).bind fun x f1 => ofO f1 ((walkR x).map fun ds => (ds, [])) := rfl
@[simp] theorem mvR_q_flipped_of_0 (d : Fr → R Rt) (f : Fr) : mvR q_flipped_of_0 d f = d f := rfl
def l_flipped_of_1 : Cms := (.cons (.asg 3 q_flipped_of_0) (.cons (.app 1 (.tup (.cons (.ix (.var 3) (.lit (.int 0))) (.cons (.ix (.var 3) (.neg (.lit (.int 1)))) .nil)))) .nil))
def b_flipped_of : Cms := (.cons (.asg 1 (.lst .nil)) (.cons (.fr (.nm 2) (.r1 (.op .add (.ix (.ix (.var 0) (.neg (.lit (.int 1)))) (.lit (.int 1))) (.lit (.int 1)))) l_flipped_of_1) (.cons (.ret (.b "tuple" (.cons (.var 1) .nil))) .nil)))
def f_flipped_of : FD := ⟨"flipped_of", ["region"], ["region", "columns", "y", "told", "x", "column"], b_flipped_of⟩
abbrev s_flipped : Stmt := topS 23
def b_flipped : Cms := (.cons (.ex (.call "need_region" (.cons (.var 0) .nil))) (.cons (.ret (.call "flipped_of" (.cons (.var 0) .nil))) .nil))
def f_flipped : FD := ⟨"flipped", ["region"], ["region"], b_flipped⟩
abbrev s_backward : Stmt := topS 24
def q_backward_0 : Ex := .lc [2] (.nm 2) (.ex (.rev (.var 0))) .no (.tup (.cons (.op .sub (.var 1) (.ix (.var 2) (.lit (.int 1)))) (.cons (.op .sub (.var 1) (.ix (.var 2) (.lit (.int 0)))) .nil)))
@[simp] theorem opd_q_backward_0 (d : Fr → R Rt) (f : Fr) : opd q_backward_0 d f = (d f).bind fun r f1 => .ok (.rt r) f1 := rfl
@[simp] theorem arg_q_backward_0 (d : Fr → R Rt) (f : Fr) : arg q_backward_0 d f = (d f).bind fun r f1 => match r with | .v d => .ok (.val d) f1 | .o ob => .ok (.tmp ob) f1 := rfl
@[simp] theorem evW_q_backward_0 (d : Fr → R Rt) (f : Fr) : evW q_backward_0 d f = (d f).bind fun x f1 => ofO f1 ((walkR x).map fun ds => (ds, [])) := rfl
@[simp] theorem mvR_q_backward_0 (d : Fr → R Rt) (f : Fr) : mvR q_backward_0 d f = d f := rfl
def b_backward : Cms := (.cons (.ex (.call "need_region" (.cons (.var 0) .nil))) (.cons (.asg 1 (.ix (.ix (.var 0) (.neg (.lit (.int 1)))) (.lit (.int 1)))) (.cons (.ret (.b "tuple" (.cons q_backward_0 .nil))) .nil)))
def f_backward : FD := ⟨"backward", ["region"], ["region", "high", "column"], b_backward⟩
abbrev s__law_taken : Stmt := topS 26
def b__law_taken : Cms := (.cons (.ife (.ex (.cmp .gt (.ix (.var 0) (.lit (.int 3))) (.lit (.int 0)))) (.cons (.asg 3 (.op .mod (.b "int" (.cons (.ix (.var 0) (.lit (.int 3))) .nil)) (.var 1))) (.cons (.sset 0 (.lit (.int 3)) (.op .fdiv (.ix (.var 0) (.lit (.int 3))) (.var 1))) (.cons (.ret (.var 3)) .nil))) .nil) (.cons (.sset 0 (.lit (.int 1)) (.op .add (.ix (.var 0) (.lit (.int 1))) (.lit (.int 1)))) (.cons (.ife (.ex (.cmp .gt (.ix (.var 0) (.lit (.int 1))) (.b "len" (.cons (.ix (.var 0) (.lit (.int 0))) .nil)))) (.cons (.sset 0 (.lit (.int 2)) (.op .mod (.b "int" (.cons (.op .add (.op .mul (.ix (.var 0) (.lit (.int 2))) (.lit (.int 48271))) (.lit (.int 11))) .nil)) (.lit (.int 2147483647)))) (.cons (.ret (.op .mod (.b "int" (.cons (.op .fdiv (.ix (.var 0) (.lit (.int 2))) (.lit (.int 7))) .nil)) (.var 1))) .nil)) .nil) (.cons (.asg 2 (.ix (.ix (.var 0) (.lit (.int 0))) (.op .sub (.ix (.var 0) (.lit (.int 1))) (.lit (.int 1))))) (.cons (.sset 0 (.lit (.int 2)) (.op .mod (.b "int" (.cons (.op .add (.op .add (.op .mul (.ix (.var 0) (.lit (.int 2))) (.lit (.int 48271))) (.var 2)) (.lit (.int 11))) .nil)) (.lit (.int 2147483647)))) (.cons (.ife (.ex (.cmp .ge (.var 2) (.op .pow (.lit (.int 10)) (.lit (.int 18))))) (.cons (.sset 0 (.lit (.int 3)) (.op .fdiv (.var 2) (.var 1))) .nil) .nil) (.cons (.ret (.op .mod (.b "int" (.cons (.var 2) .nil)) (.var 1))) .nil)))))))
def f__law_taken : FD := ⟨"_law_taken", ["_law_row", "_law_many"], ["_law_row", "_law_many", "_law_cell", "_law_found"], b__law_taken⟩
abbrev s__law_alike : Stmt := topS 27
def q__law_alike_0 : Ex := .lc [2] (.nm 2) (.r1 (.b "len" (.cons (.var 1) .nil))) (.so (.nt (.ex (.call "_law_alike" (.cons (.ix (.var 0) (.var 2)) (.cons (.ix (.var 1) (.var 2)) .nil)))))) (.var 2)
@[simp] theorem opd_q__law_alike_0 (d : Fr → R Rt) (f : Fr) : opd q__law_alike_0 d f = (d f).bind fun r f1 => .ok (.rt r) f1 := rfl
@[simp] theorem arg_q__law_alike_0 (d : Fr → R Rt) (f : Fr) : arg q__law_alike_0 d f = (d f).bind fun r f1 => match r with | .v d => .ok (.val d) f1 | .o ob => .ok (.tmp ob) f1 := rfl
@[simp] theorem evW_q__law_alike_0 (d : Fr → R Rt) (f : Fr) : evW q__law_alike_0 d f = (d f).bind fun x f1 => ofO f1 ((walkR x).map fun ds => (ds, [])) := rfl
@[simp] theorem mvR_q__law_alike_0 (d : Fr → R Rt) (f : Fr) : mvR q__law_alike_0 d f = d f := rfl
def b__law_alike : Cms := (.cons (.ife (.ex (.isi (.var 1) ["tuple", "list"])) (.cons (.ife (.bool false (.cons (.nt (.ex (.isi (.var 0) ["tuple", "list"]))) (.cons (.ex (.cmp .ne (.isi (.var 0) ["list"]) (.isi (.var 1) ["list"]))) .nil))) (.cons (.ret (.lit (.bl false))) .nil) .nil) (.cons (.ife (.ex (.cmp .ne (.b "len" (.cons (.var 0) .nil)) (.b "len" (.cons (.var 1) .nil)))) (.cons (.ret (.lit (.bl false))) .nil) .nil) (.cons (.ret (.cmp .eq q__law_alike_0 (.lst .nil))) .nil))) .nil) (.cons (.ife (.bool false (.cons (.ex (.cmp .is_ (.var 1) (.lit .non))) (.cons (.ex (.isi (.var 1) ["str"])) .nil))) (.cons (.ret (.bool true (.cons (.cmp .eq (.var 0) (.var 1)) (.cons (.cmp .eq (.isi (.var 0) ["str"]) (.isi (.var 1) ["str"])) .nil)))) .nil) .nil) (.cons (.ret (.bool true (.cons (.isi (.var 0) ["int"]) (.cons (.cmp .eq (.isi (.var 0) ["bool"]) (.isi (.var 1) ["bool"])) (.cons (.cmp .eq (.var 0) (.var 1)) .nil))))) .nil)))
def f__law_alike : FD := ⟨"_law_alike", ["_law_found", "_law_due"], ["_law_found", "_law_due", "_law_k"], b__law_alike⟩
abbrev s__law_after : Stmt := topS 28
def b__law_after : Cms := (.cons (.ret (.ite (.ex (.cmp .eq (.var 1) (.lit (.str [76])))) (.tup (.cons (.op .add (.ix (.var 0) (.lit (.int 0))) (.lit (.int 1))) (.cons (.ix (.var 0) (.lit (.int 1))) .nil))) (.tup (.cons (.ix (.var 0) (.lit (.int 0))) (.cons (.op .add (.ix (.var 0) (.lit (.int 1))) (.lit (.int 1))) .nil))))) .nil)
def f__law_after : FD := ⟨"_law_after", ["_law_span", "_law_sign"], ["_law_span", "_law_sign"], b__law_after⟩
abbrev s__law_region_of : Stmt := topS 29
def l__law_region_of_0 : Cms := (.cons (.sset 1 (.var 2) (.op .add (.gt (.var 1) (.var 2) (.lst .nil)) (.lst (.cons (.var 3) .nil)))) .nil)
def q__law_region_of_1 : Ex := .lc [2] (.nm 2) (.ex (.b "sorted" (.cons (.var 1) .nil))) .no (.tup (.cons (.b "min" (.cons (.ix (.var 1) (.var 2)) .nil)) (.cons (.b "max" (.cons (.ix (.var 1) (.var 2)) .nil)) .nil)))
@[simp] theorem opd_q__law_region_of_1 (d : Fr → R Rt) (f : Fr) : opd q__law_region_of_1 d f = (d f).bind fun r f1 => .ok (.rt r) f1 := rfl
@[simp] theorem arg_q__law_region_of_1 (d : Fr → R Rt) (f : Fr) : arg q__law_region_of_1 d f = (d f).bind fun r f1 => match r with | .v d => .ok (.val d) f1 | .o ob => .ok (.tmp ob) f1 := rfl
@[simp] theorem evW_q__law_region_of_1 (d : Fr → R Rt) (f : Fr) : evW q__law_region_of_1 d f = (d f).bind fun x f1 => ofO f1 ((walkR x).map fun ds => (ds, [])) := rfl
@[simp] theorem mvR_q__law_region_of_1 (d : Fr → R Rt) (f : Fr) : mvR q__law_region_of_1 d f = d f := rfl
def b__law_region_of : Cms := (.cons (.asg 1 (.dct false .nil .nil)) (.cons (.fr (.tp (.cons (.nm 2) (.cons (.nm 3) .nil))) (.ex (.var 0)) l__law_region_of_0) (.cons (.ret (.b "tuple" (.cons q__law_region_of_1 .nil))) .nil)))
def f__law_region_of : FD := ⟨"_law_region_of", ["_law_some"], ["_law_some", "_law_columns", "_law_x", "_law_y"], b__law_region_of⟩
abbrev s__law_region : Stmt := topS 30
def l__law_region_0 : Cms := (.cons (.ife (.ex (.cmp .gt (.var 4) (.lit (.int 0)))) (.cons (.asg 6 (.ite (.ex (.cmp .gt (.var 3) (.lit (.int 0)))) (.op .add (.var 6) (.call "_law_taken" (.cons (.var 0) (.cons (.op .add (.op .sub (.var 7) (.var 6)) (.lit (.int 1))) .nil)))) (.var 6))) (.cons (.asg 7 (.ite (.ex (.cmp .ne (.var 3) (.lit (.int 1)))) (.op .add (.var 7) (.call "_law_taken" (.cons (.var 0) (.cons (.op .add (.op .sub (.var 2) (.var 7)) (.lit (.int 1))) .nil)))) (.b "min" (.cons (.var 2) (.cons (.op .add (.var 7) (.lit (.int 1))) .nil))))) .nil)) .nil) (.cons (.app 5 (.tup (.cons (.var 6) (.cons (.var 7) .nil)))) .nil))
def b__law_region : Cms := (.cons (.par [5, 6, 7] (.cons (.lst .nil) (.cons (.lit (.int 0)) (.cons (.call "_law_taken" (.cons (.var 0) (.cons (.op .add (.var 2) (.lit (.int 1))) .nil))) .nil)))) (.cons (.asg 3 (.call "_law_taken" (.cons (.var 0) (.cons (.lit (.int 4)) .nil)))) (.cons (.fr (.nm 4) (.r1 (.op .add (.lit (.int 1)) (.call "_law_taken" (.cons (.var 0) (.cons (.op .add (.var 1) (.lit (.int 1))) .nil))))) l__law_region_0) (.cons (.ret (.b "tuple" (.cons (.var 5) .nil))) .nil))))
def f__law_region : FD := ⟨"_law_region", ["_law_row", "_law_wide", "_law_high"], ["_law_row", "_law_wide", "_law_high", "_law_kind", "_law_x", "_law_columns", "_law_low", "_law_top"], b__law_region⟩
abbrev s__law_spans : Stmt := topS 31
def q__law_spans_0 : Ex := .lc [3] (.nm 3) (.r2 (.ix (.ix (.var 0) (.var 2)) (.lit (.int 0))) (.op .add (.ix (.ix (.var 0) (.var 2)) (.lit (.int 1))) (.lit (.int 1)))) .no (.tup (.cons (.var 2) (.cons (.var 3) .nil)))
@[simp] theorem opd_q__law_spans_0 (d : Fr → R Rt) (f : Fr) : opd q__law_spans_0 d f = (d f).bind fun r f1 => .ok (.rt r) f1 := rfl
@[simp] theorem arg_q__law_spans_0 (d : Fr → R Rt) (f : Fr) : arg q__law_spans_0 d f = (d f).bind fun r f1 => match r with | .v d => .ok (.val d) f1 | .o ob => .ok (.tmp ob) f1 := rfl
@[simp] theorem evW_q__law_spans_0 (d : Fr → R Rt) (f : Fr) : evW q__law_spans_0 d f = (d f).bind fun x f1 => ofO f1 ((walkR x).map fun ds => (ds, [])) := rfl
@[simp] theorem mvR_q__law_spans_0 (d : Fr → R Rt) (f : Fr) : mvR q__law_spans_0 d f = d f := rfl
def l__law_spans_1 : Cms := (.cons (.asg 1 (.op .add (.var 1) q__law_spans_0)) .nil)
def b__law_spans : Cms := (.cons (.asg 1 (.lst .nil)) (.cons (.fr (.nm 2) (.r1 (.b "len" (.cons (.var 0) .nil))) l__law_spans_1) (.cons (.ret (.var 1)) .nil)))
def f__law_spans : FD := ⟨"_law_spans", ["_law_shape"], ["_law_shape", "_law_found", "_law_x", "_law_y"], b__law_spans⟩
abbrev s__law_plays : Stmt := topS 32
def q__law_plays_0 : Ex := .lc [7] (.nm 7) (.ex (.lit (.str [76, 82]))) (.so (.ex (.cmp .in_ (.call "_law_after" (.cons (.var 6) (.cons (.var 7) .nil))) (.var 2)))) (.tup (.cons (.op .add (.var 5) (.var 7)) (.cons (.call "_law_after" (.cons (.var 6) (.cons (.var 7) .nil))) .nil)))
@[simp] theorem opd_q__law_plays_0 (d : Fr → R Rt) (f : Fr) : opd q__law_plays_0 d f = (d f).bind fun r f1 => .ok (.rt r) f1 := rfl
@[simp] theorem arg_q__law_plays_0 (d : Fr → R Rt) (f : Fr) : arg q__law_plays_0 d f = (d f).bind fun r f1 => match r with | .v d => .ok (.val d) f1 | .o ob => .ok (.tmp ob) f1 := rfl
@[simp] theorem evW_q__law_plays_0 (d : Fr → R Rt) (f : Fr) : evW q__law_plays_0 d f = (d f).bind fun x f1 => ofO f1 ((walkR x).map fun ds => (ds, [])) := rfl
@[simp] theorem mvR_q__law_plays_0 (d : Fr → R Rt) (f : Fr) : mvR q__law_plays_0 d f = d f := rfl
def l__law_plays_1 : Cms := (.cons (.asg 4 (.op .add (.var 4) q__law_plays_0)) .nil)
def l__law_plays_2 : Cms := (.cons (.asg 4 (.lst .nil)) (.cons (.fr (.tp (.cons (.nm 5) (.cons (.nm 6) .nil))) (.ex (.var 3)) l__law_plays_1) (.cons (.asg 3 (.var 4)) .nil)))
def q__law_plays_3 : Ex := .lc [5, 6] (.tp (.cons (.nm 5) (.cons (.nm 6) .nil))) (.ex (.var 3)) .no (.var 5)
@[simp] theorem opd_q__law_plays_3 (d : Fr → R Rt) (f : Fr) : opd q__law_plays_3 d f = (d f).bind fun r f1 => .ok (.rt r) f1 := rfl
@[simp] theorem arg_q__law_plays_3 (d : Fr → R Rt) (f : Fr) : arg q__law_plays_3 d f = (d f).bind fun r f1 => match r with | .v d => .ok (.val d) f1 | .o ob => .ok (.tmp ob) f1 := rfl
@[simp] theorem evW_q__law_plays_3 (d : Fr → R Rt) (f : Fr) : evW q__law_plays_3 d f = (d f).bind fun x f1 => ofO f1 ((walkR x).map fun ds => (ds, [])) := rfl
@[simp] theorem mvR_q__law_plays_3 (d : Fr → R Rt) (f : Fr) : mvR q__law_plays_3 d f = d f := rfl
def b__law_plays : Cms := (.cons (.par [2, 3] (.cons (.call "_law_spans" (.cons (.var 0) .nil)) (.cons (.lst (.cons (.tup (.cons (.lit (.str [])) (.cons (.tup (.cons (.lit (.int 0)) (.cons (.lit (.int 0)) .nil))) .nil))) .nil)) .nil))) (.cons (.fr (.nm 1) (.r1 (.b "sum" (.cons (.ix (.var 2) (.neg (.lit (.int 1)))) .nil))) l__law_plays_2) (.cons (.ret q__law_plays_3) .nil)))
def f__law_plays : FD := ⟨"_law_plays", ["_law_shape"], ["_law_shape", "_law_turn", "_law_some", "_law_found", "_law_longer", "_law_word", "_law_span", "_law_sign"], b__law_plays⟩
abbrev s__law_count : Stmt := topS 33
def l__law_count_0 : Cms := (.cons (.sset 1 (.tup (.cons (.var 2) (.cons (.var 3) .nil))) (.ite (.ex (.cmp .eq (.tup (.cons (.var 2) (.cons (.var 3) .nil))) (.tup (.cons (.lit (.int 0)) (.cons (.lit (.int 0)) .nil))))) (.lit (.int 1)) (.op .add (.gt (.var 1) (.tup (.cons (.op .sub (.var 2) (.lit (.int 1))) (.cons (.var 3) .nil))) (.lit (.int 0))) (.gt (.var 1) (.tup (.cons (.var 2) (.cons (.op .sub (.var 3) (.lit (.int 1))) .nil))) (.lit (.int 0)))))) .nil)
def b__law_count : Cms := (.cons (.asg 1 (.dct true .nil .nil)) (.cons (.fr (.tp (.cons (.nm 2) (.cons (.nm 3) .nil))) (.ex (.call "_law_spans" (.cons (.var 0) .nil))) l__law_count_0) (.cons (.ret (.ix (.var 1) (.tup (.cons (.op .sub (.b "len" (.cons (.var 0) .nil)) (.lit (.int 1))) (.cons (.ix (.ix (.var 0) (.neg (.lit (.int 1)))) (.lit (.int 1))) .nil))))) .nil)))
def f__law_count : FD := ⟨"_law_count", ["_law_shape"], ["_law_shape", "_law_found", "_law_x", "_law_y"], b__law_count⟩
abbrev s__law_few : Stmt := topS 34
def l__law_few_0 : Cms := (.cons (.asg 2 (.call "_law_region" (.cons (.var 0) (.cons (.lit (.int 4)) (.cons (.lit (.int 4)) .nil))))) (.cons (.ife (.ex (.cmp .le (.call "_law_count" (.cons (.var 2) .nil)) (.var 1))) (.cons (.ret (.var 2)) .nil) .nil) (.cons (.asg 1 (.op .add (.var 1) (.lit (.int 10)))) .nil)))
def b__law_few : Cms := (.cons (.whl (.ex (.lit (.bl true))) l__law_few_0) .nil)
def f__law_few : FD := ⟨"_law_few", ["_law_row", "_law_most"], ["_law_row", "_law_most", "_law_shape"], b__law_few⟩
abbrev s_law : Stmt := topS 35
def q_law_0 : Ex := .lc [8, 9] (.tp (.cons (.nm 8) (.cons (.nm 9) .nil))) (.ex (.var 3)) .no (.tup (.cons (.var 9) (.cons (.var 8) .nil)))
@[simp] theorem opd_q_law_0 (d : Fr → R Rt) (f : Fr) : opd q_law_0 d f = (d f).bind fun r f1 => .ok (.rt r) f1 := rfl
@[simp] theorem arg_q_law_0 (d : Fr → R Rt) (f : Fr) : arg q_law_0 d f = (d f).bind fun r f1 => match r with | .v d => .ok (.val d) f1 | .o ob => .ok (.tmp ob) f1 := rfl
@[simp] theorem evW_q_law_0 (d : Fr → R Rt) (f : Fr) : evW q_law_0 d f = (d f).bind fun x f1 => ofO f1 ((walkR x).map fun ds => (ds, [])) := rfl
@[simp] theorem mvR_q_law_0 (d : Fr → R Rt) (f : Fr) : mvR q_law_0 d f = d f := rfl
def q_law_1 : Ex := .lc [11, 12] (.tp (.cons (.nm 11) (.cons (.nm 12) .nil))) (.ex (.var 3)) .no (.tup (.cons (.op .sub (.var 8) (.var 11)) (.cons (.op .sub (.var 9) (.var 12)) .nil)))
@[simp] theorem opd_q_law_1 (d : Fr → R Rt) (f : Fr) : opd q_law_1 d f = (d f).bind fun r f1 => .ok (.rt r) f1 := rfl
@[simp] theorem arg_q_law_1 (d : Fr → R Rt) (f : Fr) : arg q_law_1 d f = (d f).bind fun r f1 => match r with | .v d => .ok (.val d) f1 | .o ob => .ok (.tmp ob) f1 := rfl
@[simp] theorem evW_q_law_1 (d : Fr → R Rt) (f : Fr) : evW q_law_1 d f = (d f).bind fun x f1 => ofO f1 ((walkR x).map fun ds => (ds, [])) := rfl
@[simp] theorem mvR_q_law_1 (d : Fr → R Rt) (f : Fr) : mvR q_law_1 d f = d f := rfl
def q_law_2 : Ex := .lc [10] (.nm 10) (.ex (.var 7)) .no (.ite (.ex (.cmp .eq (.var 10) (.lit (.str [76])))) (.lit (.str [82])) (.lit (.str [76])))
@[simp] theorem opd_q_law_2 (d : Fr → R Rt) (f : Fr) : opd q_law_2 d f = (d f).bind fun r f1 => .ok (.rt r) f1 := rfl
@[simp] theorem arg_q_law_2 (d : Fr → R Rt) (f : Fr) : arg q_law_2 d f = (d f).bind fun r f1 => match r with | .v d => .ok (.val d) f1 | .o ob => .ok (.tmp ob) f1 := rfl
@[simp] theorem evW_q_law_2 (d : Fr → R Rt) (f : Fr) : evW q_law_2 d f = (d f).bind fun x f1 => ofO f1 ((walkR x).map fun ds => (ds, [])) := rfl
@[simp] theorem mvR_q_law_2 (d : Fr → R Rt) (f : Fr) : mvR q_law_2 d f = d f := rfl
def l_law_3 : Cms := (.cons (.app 6 (.m "join" (.lit (.str [])) (.cons q_law_2 .nil))) .nil)
def q_law_4 : Ex := .lc [7] (.nm 7) (.ex (.var 5)) .no (.rev (.var 7))
@[simp] theorem opd_q_law_4 (d : Fr → R Rt) (f : Fr) : opd q_law_4 d f = (d f).bind fun r f1 => .ok (.rt r) f1 := rfl
@[simp] theorem arg_q_law_4 (d : Fr → R Rt) (f : Fr) : arg q_law_4 d f = (d f).bind fun r f1 => match r with | .v d => .ok (.val d) f1 | .o ob => .ok (.tmp ob) f1 := rfl
@[simp] theorem evW_q_law_4 (d : Fr → R Rt) (f : Fr) : evW q_law_4 d f = (d f).bind fun x f1 => ofO f1 ((walkR x).map fun ds => (ds, [])) := rfl
@[simp] theorem mvR_q_law_4 (d : Fr → R Rt) (f : Fr) : mvR q_law_4 d f = d f := rfl
def b_law : Cms := (.cons (.asg 1 (.lst (.cons (.var 0) (.cons (.lit (.int 0)) (.cons (.lit (.int 4751)) (.cons (.lit (.int 0)) .nil)))))) (.cons (.asg 2 (.call "_law_region" (.cons (.var 1) (.cons (.lit (.int 6)) (.cons (.lit (.int 6)) .nil))))) (.cons (.asg 3 (.call "_law_spans" (.cons (.var 2) .nil))) (.cons (.ife (.nt (.ex (.call "_law_alike" (.cons (.call "flipped" (.cons (.var 2) .nil)) (.cons (.call "_law_region_of" (.cons (.b "sorted" (.cons q_law_0 .nil)) .nil)) .nil))))) (.cons (.ret (.lit (.bl false))) .nil) .nil) (.cons (.asgt (.tp (.cons (.nm 8) (.cons (.nm 9) .nil))) (.ix (.var 3) (.neg (.lit (.int 1))))) (.cons (.ife (.nt (.ex (.call "_law_alike" (.cons (.call "backward" (.cons (.var 2) .nil)) (.cons (.call "_law_region_of" (.cons (.b "sorted" (.cons q_law_1 .nil)) .nil)) .nil))))) (.cons (.ret (.lit (.bl false))) .nil) .nil) (.cons (.asg 4 (.call "_law_few" (.cons (.var 1) (.cons (.lit (.int 100)) .nil)))) (.cons (.asg 5 (.call "_law_plays" (.cons (.var 4) .nil))) (.cons (.asg 6 (.lst .nil)) (.cons (.fr (.nm 7) (.ex (.var 5)) l_law_3) (.cons (.ife (.bool false (.cons (.ex (.cmp .ne (.call "plays" (.cons (.call "flipped" (.cons (.var 4) .nil)) .nil)) (.b "sorted" (.cons (.var 6) .nil)))) (.cons (.ex (.cmp .ne (.call "plays" (.cons (.call "backward" (.cons (.var 4) .nil)) .nil)) (.b "sorted" (.cons q_law_4 .nil)))) .nil))) (.cons (.ret (.lit (.bl false))) .nil) .nil) (.cons (.ret (.bool true (.cons (.cmp .eq (.call "flipped" (.cons (.call "flipped" (.cons (.var 2) .nil)) .nil)) (.var 2)) (.cons (.cmp .eq (.call "backward" (.cons (.call "backward" (.cons (.var 2) .nil)) .nil)) (.var 2)) (.cons (.cmp .eq (.call "backward" (.cons (.call "flipped" (.cons (.var 2) .nil)) .nil)) (.call "flipped" (.cons (.call "backward" (.cons (.var 2) .nil)) .nil))) .nil))))) .nil))))))))))))
def f_law : FD := ⟨"law", ["_law_script"], ["_law_script", "_law_row", "_law_region_here", "_law_some", "_law_few_here", "_law_words", "_law_turned", "_law_word", "_law_x", "_law_y", "_law_sign", "_law_a", "_law_b"], b_law⟩
def tbl : List (String × FD) := [("is_int", f_is_int), ("is_in", f_is_in), ("is_column", f_is_column), ("fits_behind", f_fits_behind), ("need_region", f_need_region), ("end_of", f_end_of), ("is_open", f_is_open), ("spans_of", f_spans_of), ("steps_in", f_steps_in), ("behind_of", f_behind_of), ("after", f_after), ("plays", f_plays), ("flipped_of", f_flipped_of), ("flipped", f_flipped), ("backward", f_backward), ("_law_taken", f__law_taken), ("_law_alike", f__law_alike), ("_law_after", f__law_after), ("_law_region_of", f__law_region_of), ("_law_region", f__law_region), ("_law_spans", f__law_spans), ("_law_plays", f__law_plays), ("_law_count", f__law_count), ("_law_few", f__law_few), ("law", f_law)]
def tb : Tb := fun g => tbl.lookup g
def csts : List (String × D) := [("MOST_LISTED", (.int 500)), ("MOST_ROOMS", (.int 60))]
def bls : List String := ["bool", "enumerate", "int", "isinstance", "len", "list", "max", "min", "range", "sorted", "str", "sum", "tuple"]
theorem sc_is_int : FnScope (f_is_int.N.map oS) (f_is_int.ps.map oS) (defScope s_is_int) := ⟨rfl, rfl, rfl, by decide +kernel, rfl, by decide +kernel, by decide +kernel⟩
theorem m_is_int : mSs ⟨f_is_int.N, defScope s_is_int, fun _ => true, csts, bls⟩ f_is_int.body (defBody s_is_int) = true := by decide +kernel
theorem sc_is_in : FnScope (f_is_in.N.map oS) (f_is_in.ps.map oS) (defScope s_is_in) := ⟨rfl, rfl, rfl, by decide +kernel, rfl, by decide +kernel, by decide +kernel⟩
theorem m_is_in : mSs ⟨f_is_in.N, defScope s_is_in, fun _ => true, csts, bls⟩ f_is_in.body (defBody s_is_in) = true := by decide +kernel
theorem sc_is_column : FnScope (f_is_column.N.map oS) (f_is_column.ps.map oS) (defScope s_is_column) := ⟨rfl, rfl, rfl, by decide +kernel, rfl, by decide +kernel, by decide +kernel⟩
theorem m_is_column : mSs ⟨f_is_column.N, defScope s_is_column, fun _ => true, csts, bls⟩ f_is_column.body (defBody s_is_column) = true := by decide +kernel
theorem sc_fits_behind : FnScope (f_fits_behind.N.map oS) (f_fits_behind.ps.map oS) (defScope s_fits_behind) := ⟨rfl, rfl, rfl, by decide +kernel, rfl, by decide +kernel, by decide +kernel⟩
theorem m_fits_behind : mSs ⟨f_fits_behind.N, defScope s_fits_behind, fun _ => true, csts, bls⟩ f_fits_behind.body (defBody s_fits_behind) = true := by decide +kernel
theorem sc_need_region : FnScope (f_need_region.N.map oS) (f_need_region.ps.map oS) (defScope s_need_region) := ⟨rfl, rfl, rfl, by decide +kernel, rfl, by decide +kernel, by decide +kernel⟩
theorem m_need_region : mSs ⟨f_need_region.N, defScope s_need_region, fun _ => true, csts, bls⟩ f_need_region.body (defBody s_need_region) = true := by decide +kernel
theorem sc_end_of : FnScope (f_end_of.N.map oS) (f_end_of.ps.map oS) (defScope s_end_of) := ⟨rfl, rfl, rfl, by decide +kernel, rfl, by decide +kernel, by decide +kernel⟩
theorem m_end_of : mSs ⟨f_end_of.N, defScope s_end_of, fun _ => true, csts, bls⟩ f_end_of.body (defBody s_end_of) = true := by decide +kernel
theorem sc_is_open : FnScope (f_is_open.N.map oS) (f_is_open.ps.map oS) (defScope s_is_open) := ⟨rfl, rfl, rfl, by decide +kernel, rfl, by decide +kernel, by decide +kernel⟩
theorem m_is_open : mSs ⟨f_is_open.N, defScope s_is_open, fun _ => true, csts, bls⟩ f_is_open.body (defBody s_is_open) = true := by decide +kernel
theorem sc_spans_of : FnScope (f_spans_of.N.map oS) (f_spans_of.ps.map oS) (defScope s_spans_of) := ⟨rfl, rfl, rfl, by decide +kernel, rfl, by decide +kernel, by decide +kernel⟩
theorem m_spans_of : mSs ⟨f_spans_of.N, defScope s_spans_of, fun _ => true, csts, bls⟩ f_spans_of.body (defBody s_spans_of) = true := by decide +kernel
theorem sc_steps_in : FnScope (f_steps_in.N.map oS) (f_steps_in.ps.map oS) (defScope s_steps_in) := ⟨rfl, rfl, rfl, by decide +kernel, rfl, by decide +kernel, by decide +kernel⟩
theorem m_steps_in : mSs ⟨f_steps_in.N, defScope s_steps_in, fun _ => true, csts, bls⟩ f_steps_in.body (defBody s_steps_in) = true := by decide +kernel
theorem sc_behind_of : FnScope (f_behind_of.N.map oS) (f_behind_of.ps.map oS) (defScope s_behind_of) := ⟨rfl, rfl, rfl, by decide +kernel, rfl, by decide +kernel, by decide +kernel⟩
theorem m_behind_of : mSs ⟨f_behind_of.N, defScope s_behind_of, fun _ => true, csts, bls⟩ f_behind_of.body (defBody s_behind_of) = true := by decide +kernel
theorem sc_after : FnScope (f_after.N.map oS) (f_after.ps.map oS) (defScope s_after) := ⟨rfl, rfl, rfl, by decide +kernel, rfl, by decide +kernel, by decide +kernel⟩
theorem m_after : mSs ⟨f_after.N, defScope s_after, fun _ => true, csts, bls⟩ f_after.body (defBody s_after) = true := by decide +kernel
theorem sc_plays : FnScope (f_plays.N.map oS) (f_plays.ps.map oS) (defScope s_plays) := ⟨rfl, rfl, rfl, by decide +kernel, rfl, by decide +kernel, by decide +kernel⟩
theorem m_plays : mSs ⟨f_plays.N, defScope s_plays, fun _ => true, csts, bls⟩ f_plays.body (defBody s_plays) = true := by decide +kernel
theorem sc_flipped_of : FnScope (f_flipped_of.N.map oS) (f_flipped_of.ps.map oS) (defScope s_flipped_of) := ⟨rfl, rfl, rfl, by decide +kernel, rfl, by decide +kernel, by decide +kernel⟩
theorem m_flipped_of : mSs ⟨f_flipped_of.N, defScope s_flipped_of, fun _ => true, csts, bls⟩ f_flipped_of.body (defBody s_flipped_of) = true := by decide +kernel
theorem sc_flipped : FnScope (f_flipped.N.map oS) (f_flipped.ps.map oS) (defScope s_flipped) := ⟨rfl, rfl, rfl, by decide +kernel, rfl, by decide +kernel, by decide +kernel⟩
theorem m_flipped : mSs ⟨f_flipped.N, defScope s_flipped, fun _ => true, csts, bls⟩ f_flipped.body (defBody s_flipped) = true := by decide +kernel
theorem sc_backward : FnScope (f_backward.N.map oS) (f_backward.ps.map oS) (defScope s_backward) := ⟨rfl, rfl, rfl, by decide +kernel, rfl, by decide +kernel, by decide +kernel⟩
theorem m_backward : mSs ⟨f_backward.N, defScope s_backward, fun _ => true, csts, bls⟩ f_backward.body (defBody s_backward) = true := by decide +kernel
theorem sc__law_taken : FnScope (f__law_taken.N.map oS) (f__law_taken.ps.map oS) (defScope s__law_taken) := ⟨rfl, rfl, rfl, by decide +kernel, rfl, by decide +kernel, by decide +kernel⟩
theorem m__law_taken : mSs ⟨f__law_taken.N, defScope s__law_taken, fun _ => true, csts, bls⟩ f__law_taken.body (defBody s__law_taken) = true := by decide +kernel
theorem sc__law_alike : FnScope (f__law_alike.N.map oS) (f__law_alike.ps.map oS) (defScope s__law_alike) := ⟨rfl, rfl, rfl, by decide +kernel, rfl, by decide +kernel, by decide +kernel⟩
theorem m__law_alike : mSs ⟨f__law_alike.N, defScope s__law_alike, fun _ => true, csts, bls⟩ f__law_alike.body (defBody s__law_alike) = true := by decide +kernel
theorem sc__law_after : FnScope (f__law_after.N.map oS) (f__law_after.ps.map oS) (defScope s__law_after) := ⟨rfl, rfl, rfl, by decide +kernel, rfl, by decide +kernel, by decide +kernel⟩
theorem m__law_after : mSs ⟨f__law_after.N, defScope s__law_after, fun _ => true, csts, bls⟩ f__law_after.body (defBody s__law_after) = true := by decide +kernel
theorem sc__law_region_of : FnScope (f__law_region_of.N.map oS) (f__law_region_of.ps.map oS) (defScope s__law_region_of) := ⟨rfl, rfl, rfl, by decide +kernel, rfl, by decide +kernel, by decide +kernel⟩
theorem m__law_region_of : mSs ⟨f__law_region_of.N, defScope s__law_region_of, fun _ => true, csts, bls⟩ f__law_region_of.body (defBody s__law_region_of) = true := by decide +kernel
theorem sc__law_region : FnScope (f__law_region.N.map oS) (f__law_region.ps.map oS) (defScope s__law_region) := ⟨rfl, rfl, rfl, by decide +kernel, rfl, by decide +kernel, by decide +kernel⟩
theorem m__law_region : mSs ⟨f__law_region.N, defScope s__law_region, fun _ => true, csts, bls⟩ f__law_region.body (defBody s__law_region) = true := by decide +kernel
theorem sc__law_spans : FnScope (f__law_spans.N.map oS) (f__law_spans.ps.map oS) (defScope s__law_spans) := ⟨rfl, rfl, rfl, by decide +kernel, rfl, by decide +kernel, by decide +kernel⟩
theorem m__law_spans : mSs ⟨f__law_spans.N, defScope s__law_spans, fun _ => true, csts, bls⟩ f__law_spans.body (defBody s__law_spans) = true := by decide +kernel
theorem sc__law_plays : FnScope (f__law_plays.N.map oS) (f__law_plays.ps.map oS) (defScope s__law_plays) := ⟨rfl, rfl, rfl, by decide +kernel, rfl, by decide +kernel, by decide +kernel⟩
theorem m__law_plays : mSs ⟨f__law_plays.N, defScope s__law_plays, fun _ => true, csts, bls⟩ f__law_plays.body (defBody s__law_plays) = true := by decide +kernel
theorem sc__law_count : FnScope (f__law_count.N.map oS) (f__law_count.ps.map oS) (defScope s__law_count) := ⟨rfl, rfl, rfl, by decide +kernel, rfl, by decide +kernel, by decide +kernel⟩
theorem m__law_count : mSs ⟨f__law_count.N, defScope s__law_count, fun _ => true, csts, bls⟩ f__law_count.body (defBody s__law_count) = true := by decide +kernel
theorem sc__law_few : FnScope (f__law_few.N.map oS) (f__law_few.ps.map oS) (defScope s__law_few) := ⟨rfl, rfl, rfl, by decide +kernel, rfl, by decide +kernel, by decide +kernel⟩
theorem m__law_few : mSs ⟨f__law_few.N, defScope s__law_few, fun _ => true, csts, bls⟩ f__law_few.body (defBody s__law_few) = true := by decide +kernel
theorem sc_law : FnScope (f_law.N.map oS) (f_law.ps.map oS) (defScope s_law) := ⟨rfl, rfl, rfl, by decide +kernel, rfl, by decide +kernel, by decide +kernel⟩
theorem m_law : mSs ⟨f_law.N, defScope s_law, fun _ => true, csts, bls⟩ f_law.body (defBody s_law) = true := by decide +kernel
theorem all_mk {l : PySem.W.OpenLaw} {w : World} {K : PySem.W.Frag} {h : Heap} {mg : Str → Option Value} {fa : Addr} (X : K.In h) (G : h.Ns mainGlobals mg) (hfa : mg "law" = some (.ref fa))
    {f0 : Addr} {od0 an0 : Option Addr} {sl0 : Array (Option Value)} {oc0 kV0 dc0 pm0 cd0 ct0 : Value}
    (a0 : PySem.W.nsIn K mainGlobals "is_int" = some (some (.ref f0))) (l0 : K.lookup f0 = some ⟨oc0, od0, .func (PySem.W.fnOf "is_int" "is_int" (defArgs s_is_int) (defBody s_is_int) (defScope s_is_int) .none kV0 dc0 pm0 an0 cd0 ct0), sl0⟩) (c0 : PySem.W.codeIn K cd0 "is_int" = true) (k0 : PySem.W.keepIn K (.ref f0) = true)
    {f1 : Addr} {od1 an1 : Option Addr} {sl1 : Array (Option Value)} {oc1 kV1 dc1 pm1 cd1 ct1 : Value}
    (a1 : PySem.W.nsIn K mainGlobals "is_in" = some (some (.ref f1))) (l1 : K.lookup f1 = some ⟨oc1, od1, .func (PySem.W.fnOf "is_in" "is_in" (defArgs s_is_in) (defBody s_is_in) (defScope s_is_in) .none kV1 dc1 pm1 an1 cd1 ct1), sl1⟩) (c1 : PySem.W.codeIn K cd1 "is_in" = true) (k1 : PySem.W.keepIn K (.ref f1) = true)
    {f2 : Addr} {od2 an2 : Option Addr} {sl2 : Array (Option Value)} {oc2 kV2 dc2 pm2 cd2 ct2 : Value}
    (a2 : PySem.W.nsIn K mainGlobals "is_column" = some (some (.ref f2))) (l2 : K.lookup f2 = some ⟨oc2, od2, .func (PySem.W.fnOf "is_column" "is_column" (defArgs s_is_column) (defBody s_is_column) (defScope s_is_column) .none kV2 dc2 pm2 an2 cd2 ct2), sl2⟩) (c2 : PySem.W.codeIn K cd2 "is_column" = true) (k2 : PySem.W.keepIn K (.ref f2) = true)
    {f3 : Addr} {od3 an3 : Option Addr} {sl3 : Array (Option Value)} {oc3 kV3 dc3 pm3 cd3 ct3 : Value}
    (a3 : PySem.W.nsIn K mainGlobals "fits_behind" = some (some (.ref f3))) (l3 : K.lookup f3 = some ⟨oc3, od3, .func (PySem.W.fnOf "fits_behind" "fits_behind" (defArgs s_fits_behind) (defBody s_fits_behind) (defScope s_fits_behind) .none kV3 dc3 pm3 an3 cd3 ct3), sl3⟩) (c3 : PySem.W.codeIn K cd3 "fits_behind" = true) (k3 : PySem.W.keepIn K (.ref f3) = true)
    {f4 : Addr} {od4 an4 : Option Addr} {sl4 : Array (Option Value)} {oc4 kV4 dc4 pm4 cd4 ct4 : Value}
    (a4 : PySem.W.nsIn K mainGlobals "need_region" = some (some (.ref f4))) (l4 : K.lookup f4 = some ⟨oc4, od4, .func (PySem.W.fnOf "need_region" "need_region" (defArgs s_need_region) (defBody s_need_region) (defScope s_need_region) .none kV4 dc4 pm4 an4 cd4 ct4), sl4⟩) (c4 : PySem.W.codeIn K cd4 "need_region" = true) (k4 : PySem.W.keepIn K (.ref f4) = true)
    {f5 : Addr} {od5 an5 : Option Addr} {sl5 : Array (Option Value)} {oc5 kV5 dc5 pm5 cd5 ct5 : Value}
    (a5 : PySem.W.nsIn K mainGlobals "end_of" = some (some (.ref f5))) (l5 : K.lookup f5 = some ⟨oc5, od5, .func (PySem.W.fnOf "end_of" "end_of" (defArgs s_end_of) (defBody s_end_of) (defScope s_end_of) .none kV5 dc5 pm5 an5 cd5 ct5), sl5⟩) (c5 : PySem.W.codeIn K cd5 "end_of" = true) (k5 : PySem.W.keepIn K (.ref f5) = true)
    {f6 : Addr} {od6 an6 : Option Addr} {sl6 : Array (Option Value)} {oc6 kV6 dc6 pm6 cd6 ct6 : Value}
    (a6 : PySem.W.nsIn K mainGlobals "is_open" = some (some (.ref f6))) (l6 : K.lookup f6 = some ⟨oc6, od6, .func (PySem.W.fnOf "is_open" "is_open" (defArgs s_is_open) (defBody s_is_open) (defScope s_is_open) .none kV6 dc6 pm6 an6 cd6 ct6), sl6⟩) (c6 : PySem.W.codeIn K cd6 "is_open" = true) (k6 : PySem.W.keepIn K (.ref f6) = true)
    {f7 : Addr} {od7 an7 : Option Addr} {sl7 : Array (Option Value)} {oc7 kV7 dc7 pm7 cd7 ct7 : Value}
    (a7 : PySem.W.nsIn K mainGlobals "spans_of" = some (some (.ref f7))) (l7 : K.lookup f7 = some ⟨oc7, od7, .func (PySem.W.fnOf "spans_of" "spans_of" (defArgs s_spans_of) (defBody s_spans_of) (defScope s_spans_of) .none kV7 dc7 pm7 an7 cd7 ct7), sl7⟩) (c7 : PySem.W.codeIn K cd7 "spans_of" = true) (k7 : PySem.W.keepIn K (.ref f7) = true)
    {f8 : Addr} {od8 an8 : Option Addr} {sl8 : Array (Option Value)} {oc8 kV8 dc8 pm8 cd8 ct8 : Value}
    (a8 : PySem.W.nsIn K mainGlobals "steps_in" = some (some (.ref f8))) (l8 : K.lookup f8 = some ⟨oc8, od8, .func (PySem.W.fnOf "steps_in" "steps_in" (defArgs s_steps_in) (defBody s_steps_in) (defScope s_steps_in) .none kV8 dc8 pm8 an8 cd8 ct8), sl8⟩) (c8 : PySem.W.codeIn K cd8 "steps_in" = true) (k8 : PySem.W.keepIn K (.ref f8) = true)
    {f9 : Addr} {od9 an9 : Option Addr} {sl9 : Array (Option Value)} {oc9 kV9 dc9 pm9 cd9 ct9 : Value}
    (a9 : PySem.W.nsIn K mainGlobals "behind_of" = some (some (.ref f9))) (l9 : K.lookup f9 = some ⟨oc9, od9, .func (PySem.W.fnOf "behind_of" "behind_of" (defArgs s_behind_of) (defBody s_behind_of) (defScope s_behind_of) .none kV9 dc9 pm9 an9 cd9 ct9), sl9⟩) (c9 : PySem.W.codeIn K cd9 "behind_of" = true) (k9 : PySem.W.keepIn K (.ref f9) = true)
    {f10 : Addr} {od10 an10 : Option Addr} {sl10 : Array (Option Value)} {oc10 kV10 dc10 pm10 cd10 ct10 : Value}
    (a10 : PySem.W.nsIn K mainGlobals "after" = some (some (.ref f10))) (l10 : K.lookup f10 = some ⟨oc10, od10, .func (PySem.W.fnOf "after" "after" (defArgs s_after) (defBody s_after) (defScope s_after) .none kV10 dc10 pm10 an10 cd10 ct10), sl10⟩) (c10 : PySem.W.codeIn K cd10 "after" = true) (k10 : PySem.W.keepIn K (.ref f10) = true)
    {f11 : Addr} {od11 an11 : Option Addr} {sl11 : Array (Option Value)} {oc11 kV11 dc11 pm11 cd11 ct11 : Value}
    (a11 : PySem.W.nsIn K mainGlobals "plays" = some (some (.ref f11))) (l11 : K.lookup f11 = some ⟨oc11, od11, .func (PySem.W.fnOf "plays" "plays" (defArgs s_plays) (defBody s_plays) (defScope s_plays) .none kV11 dc11 pm11 an11 cd11 ct11), sl11⟩) (c11 : PySem.W.codeIn K cd11 "plays" = true) (k11 : PySem.W.keepIn K (.ref f11) = true)
    {f12 : Addr} {od12 an12 : Option Addr} {sl12 : Array (Option Value)} {oc12 kV12 dc12 pm12 cd12 ct12 : Value}
    (a12 : PySem.W.nsIn K mainGlobals "flipped_of" = some (some (.ref f12))) (l12 : K.lookup f12 = some ⟨oc12, od12, .func (PySem.W.fnOf "flipped_of" "flipped_of" (defArgs s_flipped_of) (defBody s_flipped_of) (defScope s_flipped_of) .none kV12 dc12 pm12 an12 cd12 ct12), sl12⟩) (c12 : PySem.W.codeIn K cd12 "flipped_of" = true) (k12 : PySem.W.keepIn K (.ref f12) = true)
    {f13 : Addr} {od13 an13 : Option Addr} {sl13 : Array (Option Value)} {oc13 kV13 dc13 pm13 cd13 ct13 : Value}
    (a13 : PySem.W.nsIn K mainGlobals "flipped" = some (some (.ref f13))) (l13 : K.lookup f13 = some ⟨oc13, od13, .func (PySem.W.fnOf "flipped" "flipped" (defArgs s_flipped) (defBody s_flipped) (defScope s_flipped) .none kV13 dc13 pm13 an13 cd13 ct13), sl13⟩) (c13 : PySem.W.codeIn K cd13 "flipped" = true) (k13 : PySem.W.keepIn K (.ref f13) = true)
    {f14 : Addr} {od14 an14 : Option Addr} {sl14 : Array (Option Value)} {oc14 kV14 dc14 pm14 cd14 ct14 : Value}
    (a14 : PySem.W.nsIn K mainGlobals "backward" = some (some (.ref f14))) (l14 : K.lookup f14 = some ⟨oc14, od14, .func (PySem.W.fnOf "backward" "backward" (defArgs s_backward) (defBody s_backward) (defScope s_backward) .none kV14 dc14 pm14 an14 cd14 ct14), sl14⟩) (c14 : PySem.W.codeIn K cd14 "backward" = true) (k14 : PySem.W.keepIn K (.ref f14) = true)
    {f15 : Addr} {od15 an15 : Option Addr} {sl15 : Array (Option Value)} {oc15 kV15 dc15 pm15 cd15 ct15 : Value}
    (a15 : PySem.W.nsIn K mainGlobals "_law_taken" = some (some (.ref f15))) (l15 : K.lookup f15 = some ⟨oc15, od15, .func (PySem.W.fnOf "_law_taken" "_law_taken" (defArgs s__law_taken) (defBody s__law_taken) (defScope s__law_taken) .none kV15 dc15 pm15 an15 cd15 ct15), sl15⟩) (c15 : PySem.W.codeIn K cd15 "_law_taken" = true) (k15 : PySem.W.keepIn K (.ref f15) = true)
    {f16 : Addr} {od16 an16 : Option Addr} {sl16 : Array (Option Value)} {oc16 kV16 dc16 pm16 cd16 ct16 : Value}
    (a16 : PySem.W.nsIn K mainGlobals "_law_alike" = some (some (.ref f16))) (l16 : K.lookup f16 = some ⟨oc16, od16, .func (PySem.W.fnOf "_law_alike" "_law_alike" (defArgs s__law_alike) (defBody s__law_alike) (defScope s__law_alike) .none kV16 dc16 pm16 an16 cd16 ct16), sl16⟩) (c16 : PySem.W.codeIn K cd16 "_law_alike" = true) (k16 : PySem.W.keepIn K (.ref f16) = true)
    {f17 : Addr} {od17 an17 : Option Addr} {sl17 : Array (Option Value)} {oc17 kV17 dc17 pm17 cd17 ct17 : Value}
    (a17 : PySem.W.nsIn K mainGlobals "_law_after" = some (some (.ref f17))) (l17 : K.lookup f17 = some ⟨oc17, od17, .func (PySem.W.fnOf "_law_after" "_law_after" (defArgs s__law_after) (defBody s__law_after) (defScope s__law_after) .none kV17 dc17 pm17 an17 cd17 ct17), sl17⟩) (c17 : PySem.W.codeIn K cd17 "_law_after" = true) (k17 : PySem.W.keepIn K (.ref f17) = true)
    {f18 : Addr} {od18 an18 : Option Addr} {sl18 : Array (Option Value)} {oc18 kV18 dc18 pm18 cd18 ct18 : Value}
    (a18 : PySem.W.nsIn K mainGlobals "_law_region_of" = some (some (.ref f18))) (l18 : K.lookup f18 = some ⟨oc18, od18, .func (PySem.W.fnOf "_law_region_of" "_law_region_of" (defArgs s__law_region_of) (defBody s__law_region_of) (defScope s__law_region_of) .none kV18 dc18 pm18 an18 cd18 ct18), sl18⟩) (c18 : PySem.W.codeIn K cd18 "_law_region_of" = true) (k18 : PySem.W.keepIn K (.ref f18) = true)
    {f19 : Addr} {od19 an19 : Option Addr} {sl19 : Array (Option Value)} {oc19 kV19 dc19 pm19 cd19 ct19 : Value}
    (a19 : PySem.W.nsIn K mainGlobals "_law_region" = some (some (.ref f19))) (l19 : K.lookup f19 = some ⟨oc19, od19, .func (PySem.W.fnOf "_law_region" "_law_region" (defArgs s__law_region) (defBody s__law_region) (defScope s__law_region) .none kV19 dc19 pm19 an19 cd19 ct19), sl19⟩) (c19 : PySem.W.codeIn K cd19 "_law_region" = true) (k19 : PySem.W.keepIn K (.ref f19) = true)
    {f20 : Addr} {od20 an20 : Option Addr} {sl20 : Array (Option Value)} {oc20 kV20 dc20 pm20 cd20 ct20 : Value}
    (a20 : PySem.W.nsIn K mainGlobals "_law_spans" = some (some (.ref f20))) (l20 : K.lookup f20 = some ⟨oc20, od20, .func (PySem.W.fnOf "_law_spans" "_law_spans" (defArgs s__law_spans) (defBody s__law_spans) (defScope s__law_spans) .none kV20 dc20 pm20 an20 cd20 ct20), sl20⟩) (c20 : PySem.W.codeIn K cd20 "_law_spans" = true) (k20 : PySem.W.keepIn K (.ref f20) = true)
    {f21 : Addr} {od21 an21 : Option Addr} {sl21 : Array (Option Value)} {oc21 kV21 dc21 pm21 cd21 ct21 : Value}
    (a21 : PySem.W.nsIn K mainGlobals "_law_plays" = some (some (.ref f21))) (l21 : K.lookup f21 = some ⟨oc21, od21, .func (PySem.W.fnOf "_law_plays" "_law_plays" (defArgs s__law_plays) (defBody s__law_plays) (defScope s__law_plays) .none kV21 dc21 pm21 an21 cd21 ct21), sl21⟩) (c21 : PySem.W.codeIn K cd21 "_law_plays" = true) (k21 : PySem.W.keepIn K (.ref f21) = true)
    {f22 : Addr} {od22 an22 : Option Addr} {sl22 : Array (Option Value)} {oc22 kV22 dc22 pm22 cd22 ct22 : Value}
    (a22 : PySem.W.nsIn K mainGlobals "_law_count" = some (some (.ref f22))) (l22 : K.lookup f22 = some ⟨oc22, od22, .func (PySem.W.fnOf "_law_count" "_law_count" (defArgs s__law_count) (defBody s__law_count) (defScope s__law_count) .none kV22 dc22 pm22 an22 cd22 ct22), sl22⟩) (c22 : PySem.W.codeIn K cd22 "_law_count" = true) (k22 : PySem.W.keepIn K (.ref f22) = true)
    {f23 : Addr} {od23 an23 : Option Addr} {sl23 : Array (Option Value)} {oc23 kV23 dc23 pm23 cd23 ct23 : Value}
    (a23 : PySem.W.nsIn K mainGlobals "_law_few" = some (some (.ref f23))) (l23 : K.lookup f23 = some ⟨oc23, od23, .func (PySem.W.fnOf "_law_few" "_law_few" (defArgs s__law_few) (defBody s__law_few) (defScope s__law_few) .none kV23 dc23 pm23 an23 cd23 ct23), sl23⟩) (c23 : PySem.W.codeIn K cd23 "_law_few" = true) (k23 : PySem.W.keepIn K (.ref f23) = true)
    {f24 : Addr} {od24 an24 : Option Addr} {sl24 : Array (Option Value)} {oc24 kV24 dc24 pm24 cd24 ct24 : Value}
    (a24 : PySem.W.nsIn K mainGlobals "law" = some (some (.ref f24))) (l24 : K.lookup f24 = some ⟨oc24, od24, .func (PySem.W.fnOf "law" "law" (defArgs s_law) (defBody s_law) (defScope s_law) .none kV24 dc24 pm24 an24 cd24 ct24), sl24⟩) (c24 : PySem.W.codeIn K cd24 "law" = true) (k24 : PySem.W.keepIn K (.ref f24) = true)
    (z0 : PySem.W.nsIn K mainGlobals "bool" = some none)
    (z1 : PySem.W.nsIn K mainGlobals "enumerate" = some none)
    (z2 : PySem.W.nsIn K mainGlobals "int" = some none)
    (z3 : PySem.W.nsIn K mainGlobals "isinstance" = some none)
    (z4 : PySem.W.nsIn K mainGlobals "len" = some none)
    (z5 : PySem.W.nsIn K mainGlobals "list" = some none)
    (z6 : PySem.W.nsIn K mainGlobals "max" = some none)
    (z7 : PySem.W.nsIn K mainGlobals "min" = some none)
    (z8 : PySem.W.nsIn K mainGlobals "range" = some none)
    (z9 : PySem.W.nsIn K mainGlobals "sorted" = some none)
    (z10 : PySem.W.nsIn K mainGlobals "str" = some none)
    (z11 : PySem.W.nsIn K mainGlobals "sum" = some none)
    (z12 : PySem.W.nsIn K mainGlobals "tuple" = some none)
    {t0 : Tok} (y0 : PySem.W.nsIn K mainGlobals "MOST_LISTED" = some (some (.int 500 t0)))
    {t1 : Tok} (y1 : PySem.W.nsIn K mainGlobals "MOST_ROOMS" = some (some (.int 60 t1)))
    (law : ∀ ns : List Int, ns.length ≤ 63 → ∃ outs, callK tb 40 "law" [.val (.lst (ns.map .int))] = .ok (.v (.bl true)) outs) :
    ∃ fd : FuncData, (∀ (s : Shared) (v : Value), BindsTo s fd ⟨[v], []⟩ [("_law_script", v)]) ∧ ∀ base : Heap, K.In base → base.Ns mainGlobals mg → FnOk l.prog w K mg base CX0 40 fa fd ["_law_script"] (spL K) := by
  have e := hfa.symm.trans (PySem.W.mg_of X G a24)
  cases e
  have F0 := fun_mk (st := s_is_int) l0 c0 k0
  have B0 := F0.binds (ps := f_is_int.ps.map oS) fun _ _ _ _ _ _ us hl => match us, hl with | [_], _ => rfl
  have F1 := fun_mk (st := s_is_in) l1 c1 k1
  have B1 := F1.binds (ps := f_is_in.ps.map oS) fun _ _ _ _ _ _ us hl => match us, hl with | [_, _, _], _ => rfl
  have F2 := fun_mk (st := s_is_column) l2 c2 k2
  have B2 := F2.binds (ps := f_is_column.ps.map oS) fun _ _ _ _ _ _ us hl => match us, hl with | [_], _ => rfl
  have F3 := fun_mk (st := s_fits_behind) l3 c3 k3
  have B3 := F3.binds (ps := f_fits_behind.ps.map oS) fun _ _ _ _ _ _ us hl => match us, hl with | [_, _], _ => rfl
  have F4 := fun_mk (st := s_need_region) l4 c4 k4
  have B4 := F4.binds (ps := f_need_region.ps.map oS) fun _ _ _ _ _ _ us hl => match us, hl with | [_], _ => rfl
  have F5 := fun_mk (st := s_end_of) l5 c5 k5
  have B5 := F5.binds (ps := f_end_of.ps.map oS) fun _ _ _ _ _ _ us hl => match us, hl with | [_], _ => rfl
  have F6 := fun_mk (st := s_is_open) l6 c6 k6
  have B6 := F6.binds (ps := f_is_open.ps.map oS) fun _ _ _ _ _ _ us hl => match us, hl with | [_, _], _ => rfl
  have F7 := fun_mk (st := s_spans_of) l7 c7 k7
  have B7 := F7.binds (ps := f_spans_of.ps.map oS) fun _ _ _ _ _ _ us hl => match us, hl with | [_], _ => rfl
  have F8 := fun_mk (st := s_steps_in) l8 c8 k8
  have B8 := F8.binds (ps := f_steps_in.ps.map oS) fun _ _ _ _ _ _ us hl => match us, hl with | [_, _], _ => rfl
  have F9 := fun_mk (st := s_behind_of) l9 c9 k9
  have B9 := F9.binds (ps := f_behind_of.ps.map oS) fun _ _ _ _ _ _ us hl => match us, hl with | [_], _ => rfl
  have F10 := fun_mk (st := s_after) l10 c10 k10
  have B10 := F10.binds (ps := f_after.ps.map oS) fun _ _ _ _ _ _ us hl => match us, hl with | [_, _], _ => rfl
  have F11 := fun_mk (st := s_plays) l11 c11 k11
  have B11 := F11.binds (ps := f_plays.ps.map oS) fun _ _ _ _ _ _ us hl => match us, hl with | [_], _ => rfl
  have F12 := fun_mk (st := s_flipped_of) l12 c12 k12
  have B12 := F12.binds (ps := f_flipped_of.ps.map oS) fun _ _ _ _ _ _ us hl => match us, hl with | [_], _ => rfl
  have F13 := fun_mk (st := s_flipped) l13 c13 k13
  have B13 := F13.binds (ps := f_flipped.ps.map oS) fun _ _ _ _ _ _ us hl => match us, hl with | [_], _ => rfl
  have F14 := fun_mk (st := s_backward) l14 c14 k14
  have B14 := F14.binds (ps := f_backward.ps.map oS) fun _ _ _ _ _ _ us hl => match us, hl with | [_], _ => rfl
  have F15 := fun_mk (st := s__law_taken) l15 c15 k15
  have B15 := F15.binds (ps := f__law_taken.ps.map oS) fun _ _ _ _ _ _ us hl => match us, hl with | [_, _], _ => rfl
  have F16 := fun_mk (st := s__law_alike) l16 c16 k16
  have B16 := F16.binds (ps := f__law_alike.ps.map oS) fun _ _ _ _ _ _ us hl => match us, hl with | [_, _], _ => rfl
  have F17 := fun_mk (st := s__law_after) l17 c17 k17
  have B17 := F17.binds (ps := f__law_after.ps.map oS) fun _ _ _ _ _ _ us hl => match us, hl with | [_, _], _ => rfl
  have F18 := fun_mk (st := s__law_region_of) l18 c18 k18
  have B18 := F18.binds (ps := f__law_region_of.ps.map oS) fun _ _ _ _ _ _ us hl => match us, hl with | [_], _ => rfl
  have F19 := fun_mk (st := s__law_region) l19 c19 k19
  have B19 := F19.binds (ps := f__law_region.ps.map oS) fun _ _ _ _ _ _ us hl => match us, hl with | [_, _, _], _ => rfl
  have F20 := fun_mk (st := s__law_spans) l20 c20 k20
  have B20 := F20.binds (ps := f__law_spans.ps.map oS) fun _ _ _ _ _ _ us hl => match us, hl with | [_], _ => rfl
  have F21 := fun_mk (st := s__law_plays) l21 c21 k21
  have B21 := F21.binds (ps := f__law_plays.ps.map oS) fun _ _ _ _ _ _ us hl => match us, hl with | [_], _ => rfl
  have F22 := fun_mk (st := s__law_count) l22 c22 k22
  have B22 := F22.binds (ps := f__law_count.ps.map oS) fun _ _ _ _ _ _ us hl => match us, hl with | [_], _ => rfl
  have F23 := fun_mk (st := s__law_few) l23 c23 k23
  have B23 := F23.binds (ps := f__law_few.ps.map oS) fun _ _ _ _ _ _ us hl => match us, hl with | [_, _], _ => rfl
  have F24 := fun_mk (st := s_law) l24 c24 k24
  have B24 := F24.binds (ps := f_law.ps.map oS) fun _ _ _ _ _ _ us hl => match us, hl with | [_], _ => rfl
  have kn : Known K mg tb csts bls := by
    refine ⟨fun g h => ?_, fun y d h => ?_, known_fn ?_⟩
    · exact bl_of h (blAll_cons (PySem.W.mg_none_of X G z0) (blAll_cons (PySem.W.mg_none_of X G z1) (blAll_cons (PySem.W.mg_none_of X G z2) (blAll_cons (PySem.W.mg_none_of X G z3) (blAll_cons (PySem.W.mg_none_of X G z4) (blAll_cons (PySem.W.mg_none_of X G z5) (blAll_cons (PySem.W.mg_none_of X G z6) (blAll_cons (PySem.W.mg_none_of X G z7) (blAll_cons (PySem.W.mg_none_of X G z8) (blAll_cons (PySem.W.mg_none_of X G z9) (blAll_cons (PySem.W.mg_none_of X G z10) (blAll_cons (PySem.W.mg_none_of X G z11) (blAll_cons (PySem.W.mg_none_of X G z12) (blAll_nil))))))))))))))
    · exact cs_of h (csAll_cons ⟨.int 500, _, PySem.W.mg_of X G y0, ⟨t0, rfl⟩, fun _ _ => rfl⟩ (csAll_cons ⟨.int 60, _, PySem.W.mg_of X G y1, ⟨t1, rfl⟩, fun _ _ => rfl⟩ (csAll_nil)))
    · exact fnAll_cons ⟨s_is_int, _, _, PySem.W.mg_of X G a0, F0, B0, sc_is_int, m_is_int⟩ (fnAll_cons ⟨s_is_in, _, _, PySem.W.mg_of X G a1, F1, B1, sc_is_in, m_is_in⟩ (fnAll_cons ⟨s_is_column, _, _, PySem.W.mg_of X G a2, F2, B2, sc_is_column, m_is_column⟩ (fnAll_cons ⟨s_fits_behind, _, _, PySem.W.mg_of X G a3, F3, B3, sc_fits_behind, m_fits_behind⟩ (fnAll_cons ⟨s_need_region, _, _, PySem.W.mg_of X G a4, F4, B4, sc_need_region, m_need_region⟩ (fnAll_cons ⟨s_end_of, _, _, PySem.W.mg_of X G a5, F5, B5, sc_end_of, m_end_of⟩ (fnAll_cons ⟨s_is_open, _, _, PySem.W.mg_of X G a6, F6, B6, sc_is_open, m_is_open⟩ (fnAll_cons ⟨s_spans_of, _, _, PySem.W.mg_of X G a7, F7, B7, sc_spans_of, m_spans_of⟩ (fnAll_cons ⟨s_steps_in, _, _, PySem.W.mg_of X G a8, F8, B8, sc_steps_in, m_steps_in⟩ (fnAll_cons ⟨s_behind_of, _, _, PySem.W.mg_of X G a9, F9, B9, sc_behind_of, m_behind_of⟩ (fnAll_cons ⟨s_after, _, _, PySem.W.mg_of X G a10, F10, B10, sc_after, m_after⟩ (fnAll_cons ⟨s_plays, _, _, PySem.W.mg_of X G a11, F11, B11, sc_plays, m_plays⟩ (fnAll_cons ⟨s_flipped_of, _, _, PySem.W.mg_of X G a12, F12, B12, sc_flipped_of, m_flipped_of⟩ (fnAll_cons ⟨s_flipped, _, _, PySem.W.mg_of X G a13, F13, B13, sc_flipped, m_flipped⟩ (fnAll_cons ⟨s_backward, _, _, PySem.W.mg_of X G a14, F14, B14, sc_backward, m_backward⟩ (fnAll_cons ⟨s__law_taken, _, _, PySem.W.mg_of X G a15, F15, B15, sc__law_taken, m__law_taken⟩ (fnAll_cons ⟨s__law_alike, _, _, PySem.W.mg_of X G a16, F16, B16, sc__law_alike, m__law_alike⟩ (fnAll_cons ⟨s__law_after, _, _, PySem.W.mg_of X G a17, F17, B17, sc__law_after, m__law_after⟩ (fnAll_cons ⟨s__law_region_of, _, _, PySem.W.mg_of X G a18, F18, B18, sc__law_region_of, m__law_region_of⟩ (fnAll_cons ⟨s__law_region, _, _, PySem.W.mg_of X G a19, F19, B19, sc__law_region, m__law_region⟩ (fnAll_cons ⟨s__law_spans, _, _, PySem.W.mg_of X G a20, F20, B20, sc__law_spans, m__law_spans⟩ (fnAll_cons ⟨s__law_plays, _, _, PySem.W.mg_of X G a21, F21, B21, sc__law_plays, m__law_plays⟩ (fnAll_cons ⟨s__law_count, _, _, PySem.W.mg_of X G a22, F22, B22, sc__law_count, m__law_count⟩ (fnAll_cons ⟨s__law_few, _, _, PySem.W.mg_of X G a23, F23, B23, sc__law_few, m__law_few⟩ (fnAll_cons ⟨s_law, _, _, PySem.W.mg_of X G a24, F24, B24, sc_law, m_law⟩ (fnAll_nil)))))))))))))))))))))))))
  exact ⟨_, fun s v => .of_eq rfl, fun base _ _ => law_fn kn (show tb "law" = some f_law from rfl) rfl F24 sc_law m_law law⟩
end K51

set_option Elab.async false
set_option linter.all false
set_option maxRecDepth 100000
set_option maxHeartbeats 4000000
set_option autoImplicit false
namespace K51
open VI
theorem c_is_int (k : Nat) (i : Int) : callK tb (k+1) "is_int" [.val (.int i)] = .ok (.v (.bl true)) [.val (.int i)] := by
  rw [callK_def (fd := f_is_int) rfl rfl]
  simp [f_is_int, b_is_int]
theorem c_is_in (k : Nat) (i a b : Int) : callK tb (k+2) "is_in" [.val (.int i), .val (.int a), .val (.int b)] = .ok (.v (.bl (decide (a ≤ i ∧ i ≤ b)))) [.val (.int i), .val (.int a), .val (.int b)] := by
  rw [callK_def (fd := f_is_in) rfl rfl]
  by_cases h : a ≤ i <;> simp [f_is_in, b_is_in, c_is_int, h]
/-! ### the drawn numbers -/
def Row (ns : List Int) (row : List D) : Prop := ∃ p z q : Int, row = [.lst (ns.map .int), .int p, .int z, .int q] ∧ 0 ≤ p
theorem c_taken (k : Nat) (ns : List Int) (row : List D) (hr : Row ns row) (m : Int) (hm : 0 < m) (hm2 : m < 1073741824) : ∃ v row', 0 ≤ v ∧ v < m ∧ Row ns row' ∧
    callK tb (k+1) "_law_taken" [.own true false (.lst row), .val (.int m)] = .ok (.v (.int v)) [.own true false (.lst row'), .val (.int m)] := by
  obtain ⟨p, z, q, rfl, hp⟩ := hr
  have hm0 : m ≠ 0 := by omega
  have hm3 : m.natAbs < 1073741824 := by omega
  have fm : ∀ x : Int, 0 ≤ x.fmod m ∧ x.fmod m < m := fun x => ⟨Int.fmod_nonneg_of_pos x hm, Int.fmod_lt_of_pos x hm⟩
  rw [callK_def (fd := f__law_taken) rfl rfl]
  by_cases hq : 0 < q
  · refine ⟨q.fmod m, [.lst (ns.map .int), .int p, .int z, .int (q.fdiv m)], (fm q).1, (fm q).2, ⟨p, z, q.fdiv m, rfl, hp⟩, ?_⟩
    simp [f__law_taken, b__law_taken, mod_ii, div_ii, hm0, hm3, ixNN, hq]
  · by_cases hl : p + 1 > ns.length
    · refine ⟨(((z * 48271 + 11).fmod 2147483647).fdiv 7).fmod m, [.lst (ns.map .int), .int (p + 1), .int ((z * 48271 + 11).fmod 2147483647), .int q], (fm _).1, (fm _).2, ⟨_, _, _, rfl, by omega⟩, ?_⟩
      simp [f__law_taken, b__law_taken, mod_ii, div_ii, mul_48271, hm0, hm3, ixNN, hq, hl]
    · have hlt : p.toNat < ns.length := by omega
      have hat : atD (ns.map D.int) p = some (.int ns[p.toNat]) := by
        have h := atD_at (xs := ns.map D.int) (i := p.toNat) (a := .int ns[p.toNat]) (by simp [hlt])
        rw [show ((p.toNat : Nat) : Int) = p by omega] at h
        exact h
      generalize ns[p.toNat] = c at hat
      refine ⟨c.fmod m, [.lst (ns.map .int), .int (p + 1), .int ((z * 48271 + c + 11).fmod 2147483647), .int (if 1000000000000000000 ≤ c then c.fdiv m else q)], (fm _).1, (fm _).2, ⟨_, _, _, rfl, by omega⟩, ?_⟩
      have hl' : ¬ ((ns.length : Int) < p + 1) := by omega
      by_cases hc : (1000000000000000000 : Int) ≤ c
      · simp [f__law_taken, b__law_taken, mod_ii, div_ii, mul_48271, hm0, hm3, hat, hq, hl', hc, pow_18, ixNN]
      · simp [f__law_taken, b__law_taken, mod_ii, div_ii, mul_48271, hm0, hm3, hat, hq, hl', hc, pow_18, ixNN]
theorem row0 (ns : List Int) (z : Int) : Row ns [.lst (ns.map .int), .int 0, .int z, .int 0] := ⟨0, z, 0, rfl, by omega⟩

end K51

set_option Elab.async false
set_option linter.all false
set_option maxRecDepth 100000
set_option maxHeartbeats 4000000
set_option autoImplicit false
namespace K51
open VI
theorem c_is_column (k : Nat) (a b : Int) (h : 0 ≤ a ∧ a ≤ b ∧ b ≤ 59) : callK tb (k+3) "is_column" [.val (cD (a, b))] = .ok (.v (.bl true)) [.val (cD (a, b))] := by
  rw [callK_def (fd := f_is_column) rfl rfl]
  have h1 : a ≤ 59 := by omega
  simp [f_is_column, b_is_column, c_is_in, h.1, h.2.1, h.2.2, h1, cD]
theorem c_fits_behind (k : Nat) (a b : Int × Int) (h : a.1 ≤ b.1 ∧ b.1 ≤ a.2 ∧ a.2 ≤ b.2) : callK tb (k+1) "fits_behind" [.val (cD a), .val (cD b)] = .ok (.v (.bl true)) [.val (cD a), .val (cD b)] := by
  rw [callK_def (fd := f_fits_behind) rfl rfl]
  simp [f_fits_behind, b_fits_behind, h.1, h.2.1, h.2.2, cD]
theorem reg_at {cols : Cols} {i : Nat} {c : Int × Int} (h : cols[i]? = some c) : atD (cols.map cD) (i : Int) = some (cD c) := atD_at (by rw [List.getElem?_map, h]; rfl)
theorem c_need_region (k : Nat) (cols : Cols) (g : Reg cols) : callK tb (k+4) "need_region" [.val (regD cols)] = .ok (.v .non) [.val (regD cols)] := by
  obtain ⟨f', e1, a, b, rfl, _, _⟩ := frGo_inv (t := .tp (.cons (.nm 1) (.cons (.nm 2) .nil))) (b := exCs ⟨callK tb (k+3)⟩ l_need_region_0) (fun i f => ∃ a b : Slot, f = [.val (regD cols), a, b] ∧ (a = .no ∨ ∃ d, a = .val d) ∧ (b = .no ∨ ∃ d, b = .val d))
    (enumD 0 (cols.map cD)) 0 [.val (regD cols), .no, .no] ⟨.no, .no, rfl, .inl rfl, .inl rfl⟩ (by
      rintro i d f hd ⟨a, b, rfl, ha, hb⟩
      obtain ⟨e, he, rfl⟩ := enumD_get hd
      rw [List.getElem?_map] at he
      obtain ⟨⟨lo, up⟩, hc, rfl⟩ := Option.map_eq_some_iff.mp he
      have hci := g.good.all _ (List.mem_of_getElem? hc)
      have e1 := c_is_column k lo up hci
      refine ⟨[.val (regD cols), .val (.int (0 + i : Nat)), .val (cD (lo, up))], [.val (regD cols), .val (.int (0 + i : Nat)), .val (cD (lo, up))], ?_, .inl ?_, _, _, rfl, .inr ⟨_, rfl⟩, .inr ⟨_, rfl⟩⟩
      · rcases ha with rfl | ⟨_, rfl⟩ <;> rcases hb with rfl | ⟨_, rfl⟩ <;> simp
      · by_cases hi : i = 0
        · subst hi
          have hz : lo = 0 := g.good.fst _ hc
          subst hz
          simp [l_need_region_0, cD] at e1 ⊢
          simp [e1]
        · have hi1 : 0 < i := by omega
          obtain ⟨p, hp⟩ : ∃ p, cols[i - 1]? = some p := ⟨cols[i-1]'(by have := (List.getElem?_eq_some_iff.mp hc).1; omega), List.getElem?_eq_getElem _⟩
          have hn := g.good.nxt (i - 1) _ _ hp (by rw [show i - 1 + 1 = i by omega]; exact hc)
          have e2 := c_fits_behind (k + 2) p (lo, up) hn
          have e3 := reg_at hp
          rw [show ((i - 1 : Nat) : Int) = (i : Int) - 1 by omega] at e3
          simp [l_need_region_0, e1, hi, hi1, regD, e3, e2])
  rw [callK_def (fd := f_need_region) rfl rfl]
  have h1' : (cols.length : Int) ≤ 60 := by have := g.len; omega
  have h0' : (1 : Int) ≤ cols.length := by have := g.pos; omega
  simp [f_need_region, b_need_region, h0', h1', regD] at e1 ⊢
  simp [e1]
theorem c_after (k : Nat) (s : Int × Int) (c : Nat) : callK tb (k+1) "after" [.val (cD s), .val (.str [c])] = .ok (.v (cD (afterP s c))) [.val (cD s), .val (.str [c])] := by
  rw [callK_def (fd := f_after) rfl rfl]
  by_cases h : c = 76 <;> simp [f_after, b_after, cD, afterP, h]
theorem c_end_of (k : Nat) (cols : Cols) (h : 0 < cols.length) : callK tb (k+1) "end_of" [.val (regD cols)] = .ok (.v (cD (endP cols))) [.val (regD cols)] := by
  rw [callK_def (fd := f_end_of) rfl rfl]
  obtain ⟨c, hc⟩ : ∃ c, cols.getLast? = some c := ⟨_, List.getLast?_eq_some_getLast (fun z => by rw [z] at h; exact absurd h (by decide))⟩
  have e : atD (cols.map cD) (-1) = some (cD c) := atD_last (by rw [List.getLast?_map, hc]; rfl)
  simp [f_end_of, b_end_of, regD, e, endP, topP, hc]
  simp [cD]
theorem c_is_open (k : Nat) (cols : Cols) (s : Int × Int) : callK tb (k+1) "is_open" [.val (regD cols), .val (cD s)] = .ok (.v (.bl (opn cols s.1 s.2))) [.val (regD cols), .val (cD s)] := by
  rw [callK_def (fd := f_is_open) rfl rfl]
  obtain ⟨x, y⟩ := s
  by_cases h0 : 0 ≤ x
  · by_cases h1 : x < cols.length
    · obtain ⟨c, hc⟩ : ∃ c, cols[x.toNat]? = some c := ⟨cols[x.toNat]'(by omega), List.getElem?_eq_getElem _⟩
      have e := reg_at hc
      rw [show ((x.toNat : Nat) : Int) = x by omega] at e
      have ho : opn cols x y = (decide (c.1 ≤ y) && decide (y ≤ c.2)) := by unfold opn; rw [hc]; simp [h0]
      by_cases h2 : c.1 ≤ y <;> simp [f_is_open, b_is_open, regD, cD, h0, h1, ho] <;> simp [e, cD, h2]
    · have e : cols[x.toNat]? = none := List.getElem?_eq_none (by omega)
      simp [f_is_open, b_is_open, regD, cD, h0, h1, opn, e]
  · simp [f_is_open, b_is_open, regD, cD, h0, opn]
theorem c_steps_in (k : Nat) (cols : Cols) (s : Int × Int) : callK tb (k+2) "steps_in" [.val (regD cols), .val (cD s)] = .ok (.v (.str (stepsP cols s))) [.val (regD cols), .val (cD s)] := by
  rw [callK_def (fd := f_steps_in) rfl rfl]
  obtain ⟨x, y⟩ := s
  have e1 := c_is_open k cols (x + 1, y)
  have e2 := c_is_open k cols (x, y + 1)
  simp only [cD] at e1 e2
  by_cases h1 : opn cols (x + 1) y = true <;> by_cases h2 : opn cols x (y + 1) = true <;> simp [f_steps_in, b_steps_in, cD, e1, e2, h1, h2, stepsP, Lm]
theorem spX_enum : ∀ (cols : Cols) (n : Nat), (enumD n (cols.map cD)).flatMap (fun d => match d with | .tup [.int x, .tup [.int a, .int b]] => (rngI a (b + 1)).map fun y => cD (x, y) | _ => []) = (spX n cols).map cD
  | [], n => rfl
  | c :: r, n => by
    have ih := spX_enum r (n + 1)
    rw [List.map_cons, enumD, List.flatMap_cons, ih]
    simp [spX, cD, Function.comp_def]
theorem spX_len60 {cols : Cols} (g : Reg cols) : (spansP cols).length ≤ 3600 := by
  have h := spX_len (cols := cols) (n := 0) (h := 59) g.good.all (by omega)
  have := g.len
  have h2 : cols.length * ((59 : Int).toNat + 1) ≤ 60 * 60 := Nat.mul_le_mul this (by decide)
  unfold spansP
  omega
theorem c_spans_of (k : Nat) (cols : Cols) (g : Reg cols) : callK tb (k+1) "spans_of" [.val (regD cols)] = .ok (.o (.lst ((spansP cols).map cD))) [.val (regD cols)] := by
  rw [callK_def (fd := f_spans_of) rfl rfl]
  have q : ev ⟨callK tb k⟩ q_spans_of_0 [.val (regD cols), .no, .no, .no] = .ok (.o (.lst ((spansP cols).map cD))) [.val (regD cols), .no, .no, .no] := by
    have hf := spX_enum cols 0
    have hl := spX_len60 g
    refine (lc2_run (enumD 0 (cols.map cD)) [] _ (f1 := [.val (regD cols), .no, .no, .no]) (by simp [regD]) (by simp [noOwn]) (by rw [hf, List.length_map]; show _ ≤ 16777216; unfold spansP at hl; exact Nat.le_trans hl (by omega)) ?_).trans (by rw [hf]; rfl)
    intro d hd
    obtain ⟨i, hi⟩ := List.getElem?_of_mem hd
    obtain ⟨e, he, rfl⟩ := enumD_get hi
    rw [List.getElem?_map] at he
    obtain ⟨⟨a, b⟩, hc, rfl⟩ := Option.map_eq_some_iff.mp he
    have hci := g.good.all _ (List.mem_of_getElem? hc)
    simp only at hci
    refine ⟨_, by simp; rfl, .inr ⟨_, (rngI a (b + 1)).map .int, [], [.val (regD cols), .no, .val (.int (0 + i : Nat)), .val (cD (a, b))], by simp; rfl, ?_, by simp, fun x => match x with | .int y => some (cD (((0 + i : Nat) : Int), y)) | _ => none, ?_, ?_, ?_⟩⟩
    · simp [cD]
      rw [r2F_ok (by omega) (by omega), rng_I]
    · simp [List.filterMap_map, Function.comp_def, cD]
    · rw [List.length_map, rngI_len]; show _ ≤ 16777216; omega
    · intro x hx
      obtain ⟨y, _, rfl⟩ := List.mem_map.mp hx
      simp [lcTurn, cD]
  simp [f_spans_of, b_spans_of]
  simp [q]
theorem c_law_after (k : Nat) (s : Int × Int) (c : Nat) : callK tb (k+1) "_law_after" [.val (cD s), .val (.str [c])] = .ok (.v (cD (afterP s c))) [.val (cD s), .val (.str [c])] := by
  rw [callK_def (fd := f__law_after) rfl rfl]
  by_cases h : c = 76 <;> simp [f__law_after, b__law_after, cD, afterP, h]

end K51

set_option Elab.async false
set_option linter.all false
set_option maxRecDepth 100000
set_option maxHeartbeats 4000000
set_option autoImplicit false
namespace K51
open VI
theorem fl_told (k : Nat) (cols : Cols) (g : Reg cols) (y : Nat) (A : List D) (x3 : Slot) :
    ev ⟨callK tb k⟩ q_flipped_of_0 [.val (regD cols), .own false false (.lst A), .val (.int y), x3, .no, .no] = .ok (.o (.lst ((xsX cols y).map fun (x : Nat) => .int (x : Int)))) [.val (regD cols), .own false false (.lst A), .val (.int y), x3, .no, .no] := by
  have hen : ∀ (l : Cols) (n : Nat), enumD n (l.map cD) = (List.range l.length).map fun i => D.tup [.int ((n + i : Nat) : Int), cD (cAt l i)] := by
    intro l
    induction l with
    | nil => intro n; rfl
    | cons a l ih =>
      intro n
      rw [List.map_cons, enumD, ih (n + 1), List.length_cons, List.range_succ_eq_map, List.map_cons, List.map_map]
      congr 1
      refine List.map_congr_left fun i _ => ?_
      simp only [Function.comp]
      congr 3
      congr 1
      omega
  have hen0 := hen cols 0
  have hop : ∀ x : Nat, x < cols.length → opn cols x y = (decide ((cAt cols x).1 ≤ (y : Int)) && decide ((y : Int) ≤ (cAt cols x).2)) := fun x hx => by
    unfold opn
    rw [Int.toNat_natCast, cAt_get hx, decide_eq_true (by omega), Bool.true_and]
  have e : (xsX cols y).map (fun (x : Nat) => D.int (x : Int)) = (enumD 0 (cols.map cD)).filterMap fun d => match d with | .tup [.int i, .tup [.int a, .int b]] => if a ≤ (y : Int) ∧ (y : Int) ≤ b then some (.int i) else none | _ => none := by
    rw [hen0, List.filterMap_map]
    unfold xsX
    have : ∀ l : List Nat, (∀ x ∈ l, x < cols.length) → (l.filter fun (x : Nat) => opn cols (x : Int) (y : Int)).map (fun (x : Nat) => D.int (x : Int)) = l.filterMap ((fun d => match d with | D.tup [D.int i, D.tup [D.int a, D.int b]] => if a ≤ (y : Int) ∧ (y : Int) ≤ b then some (D.int i) else none | _ => none) ∘ fun i => D.tup [.int ((0 + i : Nat) : Int), cD (cAt cols i)]) := by
      intro l
      induction l with
      | nil => intro _; rfl
      | cons x l ih =>
        intro h
        rw [List.filterMap_cons, ← ih (fun z hz => h z (List.mem_cons_of_mem _ hz)), List.filter_cons, hop x (h x (List.mem_cons_self ..))]
        by_cases h1 : (cAt cols x).1 ≤ (y : Int) <;> by_cases h2 : (y : Int) ≤ (cAt cols x).2 <;> simp [h1, h2, cD]
    exact this _ fun x hx => List.mem_range.mp hx
  rw [e]
  refine (lc_run (enumD 0 (cols.map cD)) [] (fun d => match d with | .tup [.int i, .tup [.int a, .int b]] => if a ≤ (y : Int) ∧ (y : Int) ≤ b then some (.int i) else none | _ => none) (f1 := [.val (regD cols), .own false false (.lst A), .val (.int y), x3, .no, .no]) (by simp [regD]) (by simp [noOwn]) (by rw [hen0, List.length_map, List.length_range]; have := g.len; show _ ≤ 16777216; omega) ?_).trans rfl
  intro d hd
  rw [hen0] at hd
  obtain ⟨i, hi, rfl⟩ := List.mem_map.mp hd
  by_cases h1 : (cAt cols i).1 ≤ (y : Int) <;> by_cases h2 : (y : Int) ≤ (cAt cols i).2 <;> simp [lcTurn, cD, h1, h2]
theorem c_flipped_of (k : Nat) (cols : Cols) (g : Reg cols) : callK tb (k+1) "flipped_of" [.val (regD cols)] = .ok (.v (regD (flX cols))) [.val (regD cols)] := by
  have hes := g.end_sum
  obtain ⟨c, hc1, hc2, hc3⟩ := g.last
  have hix := V_ixr hc1
  have hr : ∀ f, r1F (c.2 + 1) f = .ok ((List.range ((endP cols).2.toNat + 1)).map fun (n : Nat) => D.int (n : Int), []) f := fun f => by
    have h2 : (endP cols).2 = c.2 := by rw [hc3]
    rw [r1F_ok (by omega)]
    congr 2
    unfold rng
    rw [show (c.2 + 1 - 0).toNat = (endP cols).2.toNat + 1 by omega]
    refine List.map_congr_left fun n _ => ?_
    rw [Int.zero_add]
  obtain ⟨f', e1, x2, x3, rfl, _⟩ := frGo_inv (t := .nm 2) (b := exCs ⟨callK tb k⟩ l_flipped_of_1) (fun i f => ∃ x2 x3, f = [.val (regD cols), .own false false (.lst (((flX cols).take i).map cD)), x2, x3, .no, .no] ∧ Vs x2 ∧ (x3 = .no ∨ ∃ l, x3 = .own false false (.lst l)))
    ((List.range ((endP cols).2.toNat + 1)).map fun (n : Nat) => D.int (n : Int)) 0 [.val (regD cols), .own false false (.lst []), .no, .no, .no, .no] ⟨_, _, rfl, .inl rfl, .inl rfl⟩ (by
      rintro i d f hdi ⟨x2, x3, rfl, h2, h3⟩
      rw [List.getElem?_map] at hdi
      obtain ⟨j, hj, rfl⟩ := Option.map_eq_some_iff.mp hdi
      have hil := (List.getElem?_eq_some_iff.mp hj).1
      rw [List.length_range] at hil
      rw [List.getElem?_range hil] at hj
      cases hj
      rw [Nat.zero_add]
      obtain ⟨a, b, e, ea, eb, _⟩ := fl_get g (y := i) (by omega)
      have ht : (flX cols).take (i + 1) = (flX cols).take i ++ [((a : Int), (b : Int))] := by rw [List.take_add_one, e]; rfl
      have q := fl_told k cols g i (((flX cols).take i).map cD) x3
      have a0 : atD ((xsX cols i).map fun (x : Nat) => D.int (x : Int)) 0 = some (.int a) := atD_at (i := 0) (by rw [List.getElem?_map, ea]; rfl)
      have a1 : atD ((xsX cols i).map fun (x : Nat) => D.int (x : Int)) (-1) = some (.int b) := atD_last (by rw [List.getLast?_map, eb]; rfl)
      have hal : ((flX cols).take i).length < Lm := by rw [List.length_take]; show _ < 16777216; omega
      have hal' : (((flX cols).take i).map cD).length < Lm := by rw [List.length_map]; exact hal
      rw [ht]
      refine ⟨[.val (regD cols), .own false false (.lst (((flX cols).take i).map cD)), .val (.int i), x3, .no, .no], [.val (regD cols), .own false false (.lst (((flX cols).take i ++ [((a : Int), (b : Int))]).map cD)), .val (.int i), .own false false (.lst ((xsX cols i).map fun (x : Nat) => .int (x : Int))), .no, .no], ?_, .inl ?_, _, _, rfl, .inr ⟨_, rfl⟩, .inr ⟨_, rfl⟩⟩
      · rcases h2 with rfl | ⟨_, rfl⟩ <;> simp
      · clear ht e
        generalize ((xsX cols i).map fun (x : Nat) => D.int (x : Int)) = X at *
        rw [List.map_append]
        generalize ((flX cols).take i).map cD = Y at *
        rcases h3 with rfl | ⟨_, rfl⟩ <;> simp [l_flipped_of_1, q, a0, a1, hal', cD])
  have htk : (flX cols).take ((endP cols).2.toNat + 1) = flX cols := by rw [← fl_len, List.take_length]
  rw [Nat.zero_add, List.length_map, List.length_range, htk] at e1
  rw [callK_def (fd := f_flipped_of) rfl rfl]
  simp [f_flipped_of, b_flipped_of, hix, hr, e1]
  rfl
theorem c_flipped (k : Nat) (cols : Cols) (g : Reg cols) : callK tb (k+5) "flipped" [.val (regD cols)] = .ok (.v (regD (flX cols))) [.val (regD cols)] := by
  rw [callK_def (fd := f_flipped) rfl rfl]
  simp [f_flipped, b_flipped, c_need_region _ cols g, c_flipped_of _ cols g]
theorem c_backward (k : Nat) (cols : Cols) (g : Reg cols) : callK tb (k+5) "backward" [.val (regD cols)] = .ok (.v (regD (bkX cols))) [.val (regD cols)] := by
  have hes := g.end_sum
  have hlen := g.len
  obtain ⟨c, hc1, hc2, hc3⟩ := g.last
  have hix := V_ixr hc1
  have q : ev ⟨callK tb (k+4)⟩ q_backward_0 [.val (regD cols), .val (.int c.2), .no] = .ok (.o (.lst ((bkX cols).map cD))) [.val (regD cols), .val (.int c.2), .no] := by
    have e : (bkX cols).map cD = (cols.map cD).reverse.map fun d => match d with | .tup [.int a, .int b] => .tup [.int (c.2 - b), .int (c.2 - a)] | _ => .non := by
      unfold bkX
      rw [← List.map_reverse, List.map_map, List.map_map, hc3]
      rfl
    rw [e]
    refine (lc_map (cols.map cD).reverse [] (fun d => match d with | .tup [.int a, .int b] => .tup [.int (c.2 - b), .int (c.2 - a)] | _ => .non) (f1 := [.val (regD cols), .val (.int c.2), .no]) (by simp [regD]) (by simp [noOwn]) (by rw [List.length_reverse, List.length_map]; show _ ≤ 16777216; omega) ?_).trans rfl
    intro d hd
    obtain ⟨s, _, rfl⟩ := List.mem_map.mp (List.mem_reverse.mp hd)
    simp [lcTurn, cD]
  rw [callK_def (fd := f_backward) rfl rfl]
  simp [f_backward, b_backward, c_need_region _ cols g, hix, q]
  rfl

end K51

set_option Elab.async false
set_option linter.all false
set_option maxRecDepth 100000
set_option maxHeartbeats 4000000
set_option autoImplicit false
namespace K51
open VI
def nD (cols : Cols) (s : Int × Int) : D := .int (nP cols s)
theorem look_done (cols : Cols) (done : List (Int × Int)) (s : Int × Int) (h : opn cols s.1 s.2 = true → s ∈ done) (h' : ∀ t ∈ done, opn cols t.1 t.2 = true) : (look (mkD done (nD cols)) (kP s)).getD (.int 0) = .int (if opn cols s.1 s.2 = true then (nP cols s : Int) else 0) := by
  rw [look_mkD]
  by_cases ho : opn cols s.1 s.2 = true
  · rw [if_pos (h ho), if_pos ho]; rfl
  · rw [if_neg (fun z => ho (h' _ z)), if_neg ho]; rfl
theorem c_behind_of (k : Nat) (cols : Cols) (g : Reg cols) : callK tb (k+2) "behind_of" [.val (regD cols)] = .ok (.o (.dT (mkD (spansP cols).reverse (nD cols)))) [.val (regD cols)] := by
  have hlen := spX_len60 g
  obtain ⟨f', e1, x, y, rfl, _⟩ := frGo_inv (t := .tp (.cons (.nm 3) (.cons (.nm 4) .nil))) (b := exCs ⟨callK tb (k+1)⟩ l_behind_of_0) (fun i f => ∃ x y, f = [.val (regD cols), .own false false (.dT (mkD ((spansP cols).reverse.take i) (nD cols))), .val (cD (endP cols)), x, y] ∧ Vs x ∧ Vs y)
    ((spansP cols).reverse.map cD) 0 [.val (regD cols), .own false false (.dT []), .val (cD (endP cols)), .no, .no] ⟨_, _, rfl, .inl rfl, .inl rfl⟩ (by
      rintro i d f hdi ⟨x, y, rfl, hx, hy⟩
      rw [List.getElem?_map] at hdi
      obtain ⟨s, hs, rfl⟩ := Option.map_eq_some_iff.mp hdi
      rw [Nat.zero_add]
      have hnd : s ∉ (spansP cols).reverse.take i := nodup_take (nodup_rev (spans_nodup cols)) hs
      have ht : (spansP cols).reverse.take (i + 1) = (spansP cols).reverse.take i ++ [s] := by rw [List.take_add_one, hs]; rfl
      have hdone : ∀ c, opn cols (afterP s c).1 (afterP s c).2 = true → afterP s c ∈ (spansP cols).reverse.take i := fun c hc =>
        take_rev_of_gt (spans_sorted cols) hs (mem_spans'.mpr hc) (ltP_after s c)
      have hall : ∀ t ∈ (spansP cols).reverse.take i, opn cols t.1 t.2 = true := fun t hm => mem_spans'.mp (List.mem_reverse.mp (List.mem_of_mem_take hm))
      generalize hD : (spansP cols).reverse.take i = done at *
      have hdl : done.length < Lm := by rw [← hD, List.length_take, List.length_reverse]; show _ < 16777216; omega
      have l1 := look_done cols done (s.1 + 1, s.2) (hdone 76) hall
      have l2 := look_done cols done (s.1, s.2 + 1) (hdone 82) hall
      simp only [kP] at l1 l2
      have hn := nP_two g s
      have hput := put_mkD (nD cols) s (nD cols s) done hnd
      simp only [kP] at hput
      refine ⟨[.val (regD cols), .own false false (.dT (mkD done (nD cols))), .val (cD (endP cols)), .val (.int s.1), .val (.int s.2)], [.val (regD cols), .own false false (.dT (mkD (done ++ [s]) (nD cols))), .val (cD (endP cols)), .val (.int s.1), .val (.int s.2)], ?_, .inl ?_, _, _, by rw [ht], .inr ⟨_, rfl⟩, .inr ⟨_, rfl⟩⟩
      · rcases hx with rfl | ⟨_, rfl⟩ <;> rcases hy with rfl | ⟨_, rfl⟩ <;> simp [cD]
      · have he : cmpD .eq (.v (.tup [.int s.1, .int s.2])) (.v (cD (endP cols))) = some (decide (s = endP cols)) := V_eqc s (endP cols)
        by_cases h : s = endP cols
        · rw [if_pos h] at hn
          have hnd1 : nD cols s = .int 1 := by unfold nD; rw [hn]
          rw [hnd1] at hput
          have he' : cmpD .eq (.v (.tup [.int s.1, .int s.2])) (.v (cD (endP cols))) = some true := by rw [he, decide_eq_true h]
          simp [l_behind_of_0, he', hput, mkD_len, hdl, mkD_snoc, hnd1, kP]
        · rw [if_neg h] at hn
          have hnd1 : nD cols s = .int ((if opn cols (s.1 + 1) s.2 = true then (nP cols (s.1 + 1, s.2) : Int) else 0) + (if opn cols s.1 (s.2 + 1) = true then (nP cols (s.1, s.2 + 1) : Int) else 0)) := by unfold nD; rw [hn]
          rw [hnd1] at hput
          have he' : cmpD .eq (.v (.tup [.int s.1, .int s.2])) (.v (cD (endP cols))) = some false := by rw [he, decide_eq_false h]
          simp [l_behind_of_0, he', l1, l2, hput, mkD_len, hdl, mkD_snoc, hnd1, kP])
  rw [Nat.zero_add, List.length_map, List.take_length] at e1
  rw [callK_def (fd := f_behind_of) rfl rfl]
  rw [List.map_reverse] at e1
  simp [f_behind_of, b_behind_of, c_spans_of _ cols g, c_end_of _ cols g.pos, e1]
theorem look_behind {cols : Cols} {s : Int × Int} (h : opn cols s.1 s.2 = true) : look (mkD (spansP cols).reverse (nD cols)) (kP s) = some (.int (nP cols s)) := by
  rw [look_mkD, if_pos (List.mem_reverse.mpr (mem_spans'.mpr h))]; rfl
theorem getD_behind (cols : Cols) (s : Int × Int) : (look (mkD (spansP cols).reverse (nD cols)) (kP s)).getD (.int 0) = .int (if opn cols s.1 s.2 = true then (nP cols s : Int) else 0) :=
  look_done cols _ s (fun h => List.mem_reverse.mpr (mem_spans'.mpr h)) fun t h => mem_spans'.mp (List.mem_reverse.mp h)

end K51

set_option Elab.async false
set_option linter.all false
set_option maxRecDepth 100000
set_option maxHeartbeats 4000000
set_option autoImplicit false
namespace K51
open VI
def wsD (p : List Nat × (Int × Int)) : D := .tup [.str p.1, cD p.2]
theorem c_plays (k : Nat) (cols : Cols) (g : Reg cols) (h5 : nP cols (0, 0) ≤ 500) : callK tb (k+5) "plays" [.val (regD cols)] = .ok (.o (.lst ((listP cols).map .str))) [.val (regD cols)] := by
  have hl0 := look_behind (cols := cols) (s := (0, 0)) g.start_open
  simp only [kP] at hl0
  have hes := g.end_sum
  have hsum : bD "sum" [.v (cD (endP cols))] = some (.v (.int ((endP cols).1 + (endP cols).2))) := by
    simp [cD, bD, intL]
  generalize hN : ((endP cols).1 + (endP cols).2).toNat = n
  have hn : (endP cols).1 + (endP cols).2 = n := by omega
  obtain ⟨f', e1, x, rfl, _⟩ := frGo_inv (t := .nm 1) (b := exCs ⟨callK tb (k+4)⟩ l_plays_1) (fun i f => ∃ x, f = [.val (regD cols), x, .own false false (.lst ((levP cols i).map wsD)), .val (cD (endP cols)), .no, .no, .no] ∧ Vs x)
    ((rngI 0 n).map .int) 0 [.val (regD cols), .no, .own false false (.lst [.tup [.str [], cD (0, 0)]]), .val (cD (endP cols)), .no, .no, .no] ⟨_, rfl, .inl rfl⟩ (by
      rintro i d f hdi ⟨x, rfl, hx⟩
      rw [List.getElem?_map] at hdi
      obtain ⟨j, hj, rfl⟩ := Option.map_eq_some_iff.mp hdi
      obtain ⟨rfl, hj2⟩ := rngI_get' hj
      rw [Nat.zero_add, Int.zero_add] at *
      have hle := lev_le g (i + 1) (by omega)
      refine ⟨[.val (regD cols), .val (.int i), .own false false (.lst ((levP cols i).map wsD)), .val (cD (endP cols)), .no, .no, .no], [.val (regD cols), .val (.int i), .own false false (.lst ((levP cols (i + 1)).map wsD)), .val (cD (endP cols)), .no, .no, .no], ?_, .inl ?_, _, rfl, .inr ⟨_, rfl⟩⟩
      · rcases hx with rfl | ⟨_, rfl⟩ <;> simp
      · have hfl : ((levP cols i).map wsD).flatMap (fun d => match d with | .tup [.str w, .tup [.int a, .int b]] => (stepsP cols (a, b)).map (fun c => wsD (w ++ [c], afterP (a, b) c)) | _ => []) = (levP cols (i + 1)).map wsD := by
          rw [levP, List.flatMap_map, List.map_flatMap]
          congr 1
          funext p
          simp [wsD, cD, Function.comp_def]
        have q : ev ⟨callK tb (k+4)⟩ q_plays_0 [.val (regD cols), .val (.int i), .own false false (.lst ((levP cols i).map wsD)), .val (cD (endP cols)), .no, .no, .no] = .ok (.o (.lst ((levP cols (i + 1)).map wsD))) [.val (regD cols), .val (.int i), .own false false (.lst ((levP cols i).map wsD)), .val (cD (endP cols)), .no, .no, .no] := by
          refine (lc2_run ((levP cols i).map wsD) [2] _ (f1 := [.val (regD cols), .val (.int i), .own false true (.lst ((levP cols i).map wsD)), .val (cD (endP cols)), .no, .no, .no]) (by simp) (by simp [noOwn]) (by rw [hfl, List.length_map]; show _ ≤ 16777216; omega) ?_).trans (by rw [hfl]; simp [unlk])
          intro d hd
          obtain ⟨⟨w, s⟩, hp, rfl⟩ := List.mem_map.mp hd
          obtain ⟨hw1, hw2⟩ := mem_lev.mp hp
          have hwl := g.word_len hw2
          have hwm : w.length + 1 ≤ Lm := by show _ ≤ 16777216; omega
          refine ⟨_, by simp [wsD]; rfl, .inr ⟨_, chD (stepsP cols s), [], [.val (regD cols), .val (.int i), .own false true (.lst ((levP cols i).map wsD)), .val (cD (endP cols)), .no, .val (.str w), .val (cD s)], by simp; rfl, ?_, by simp, fun x => match x with | .str [c] => some (wsD (w ++ [c], afterP s c)) | _ => none, ?_, ?_, ?_⟩⟩
          · simp [c_steps_in]
          · simp [wsD, cD, List.filterMap_map, Function.comp_def]
          · rw [List.length_map]; have := steps_len cols s; show _ ≤ 16777216; omega
          · intro x hx
            obtain ⟨c, _, rfl⟩ := List.mem_map.mp hx
            simp [lcTurn, c_after, hwm, wsD]
        simp [l_plays_1, q])
  have hni : ((rngI 0 (n : Int)).map D.int).length = n := by rw [List.length_map, rngI_len]; omega
  rw [Nat.zero_add, hni] at e1
  have hq2 : ev ⟨callK tb (k+4)⟩ q_plays_2 [.val (regD cols), x, .own false false (.lst ((levP cols n).map wsD)), .val (cD (endP cols)), .no, .no, .no] = .ok (.o (.lst ((listP cols).map .str))) [.val (regD cols), x, .own false false (.lst ((levP cols n).map wsD)), .val (cD (endP cols)), .no, .no, .no] := by
    have hle := lev_le g n (by omega)
    refine (lc_map ((levP cols n).map wsD) [2] (fun d => match d with | .tup [.str w, _] => .str w | _ => .non) (f1 := [.val (regD cols), x, .own false true (.lst ((levP cols n).map wsD)), .val (cD (endP cols)), .no, .no, .no]) (by simp) (by simp [noOwn]) (by rw [List.length_map]; show _ ≤ 16777216; omega) ?_).trans ?_
    · intro d hd
      obtain ⟨p, _, rfl⟩ := List.mem_map.mp hd
      simp [lcTurn, wsD]
    · unfold listP
      rw [hN]
      simp [unlk, wsD, Function.comp_def]
  have hr1 : ∀ f, r1F ((endP cols).1 + (endP cols).2) f = .ok ((rngI 0 n).map .int, []) f := fun f => by rw [r1F_ok (by omega), rng_I, hn]
  have h5' : ¬ ((500 : Int) < (nP cols (0, 0) : Int)) := by omega
  rw [callK_def (fd := f_plays) rfl rfl]
  simp only [cD] at e1
  simp [f_plays, b_plays, c_need_region _ cols g, c_behind_of _ cols g, hl0, h5', c_end_of _ cols g.pos, hsum]
  simp [hr1]
  simp [cD] at e1 hq2 ⊢
  simp [e1, hq2]

end K51

set_option Elab.async false
set_option linter.all false
set_option maxRecDepth 100000
set_option maxHeartbeats 4000000
set_option autoImplicit false
namespace K51
open VI
theorem spX_take {cols : Cols} {i : Nat} {c : Int × Int} (h : cols[i]? = some c) : spX 0 (cols.take (i + 1)) = spX 0 (cols.take i) ++ (rngI c.1 (c.2 + 1)).map fun y => ((i : Int), y) := by
  have hl := (List.getElem?_eq_some_iff.mp h).1
  rw [List.take_add_one, h, spX_append]
  simp [spX, Nat.min_eq_left (Nat.le_of_lt hl)]
theorem c_law_spans (k : Nat) (cols : Cols) (g : Reg cols) : callK tb (k+1) "_law_spans" [.val (regD cols)] = .ok (.o (.lst ((spansP cols).map cD))) [.val (regD cols)] := by
  have hlen := spX_len60 g
  obtain ⟨f', e1, x, rfl, _⟩ := frGo_inv (t := .nm 2) (b := exCs ⟨callK tb k⟩ l__law_spans_1) (fun i f => ∃ x : Slot, f = [.val (regD cols), .own false false (.lst ((spX 0 (cols.take i)).map cD)), x, .no] ∧ (x = .no ∨ ∃ d, x = .val d))
    ((rngI 0 cols.length).map .int) 0 [.val (regD cols), .own false false (.lst []), .no, .no] ⟨.no, rfl, .inl rfl⟩ (by
      rintro i d f hd ⟨x, rfl, hx⟩
      rw [List.getElem?_map] at hd
      obtain ⟨j, hj, rfl⟩ := Option.map_eq_some_iff.mp hd
      obtain ⟨rfl, hj2⟩ := rngI_get' hj
      rw [Nat.zero_add, Int.zero_add] at *
      have hi : i < cols.length := by omega
      obtain ⟨⟨a, b⟩, hc⟩ : ∃ c, cols[i]? = some c := ⟨cols[i], List.getElem?_eq_getElem hi⟩
      have hci := g.good.all _ (List.mem_of_getElem? hc)
      simp only at hci
      have hat := reg_at hc
      have ht := spX_take hc
      have hle : (spX 0 (cols.take i)).length + (rngI a (b + 1)).length ≤ 7200 := by
        have h1 : (spX 0 (cols.take (i + 1))).length ≤ 3600 := by
          have h2 := spX_append (cols.take (i + 1)) (cols.drop (i + 1)) 0
          rw [List.take_append_drop] at h2
          have h3 := congrArg List.length h2
          rw [List.length_append] at h3
          unfold spansP at hlen
          omega
        rw [ht, List.length_append, List.length_map] at h1
        simp only at h1
        omega
      refine ⟨[.val (regD cols), .own false false (.lst ((spX 0 (cols.take i)).map cD)), .val (.int i), .no], [.val (regD cols), .own false false (.lst ((spX 0 (cols.take (i + 1))).map cD)), .val (.int i), .no], ?_, .inl ?_, _, rfl, .inr ⟨_, rfl⟩⟩
      · rcases hx with rfl | ⟨_, rfl⟩ <;> simp
      · have q : ev ⟨callK tb k⟩ q__law_spans_0 [.val (regD cols), .own false false (.lst ((spX 0 (cols.take i)).map cD)), .val (.int i), .no] = .ok (.o (.lst (((rngI a (b + 1)).map fun y => ((i : Int), y)).map cD))) [.val (regD cols), .own false false (.lst ((spX 0 (cols.take i)).map cD)), .val (.int i), .no] := by
          refine (lc_map ((rngI a (b + 1)).map .int) [] (fun d => match d with | .int y => cD ((i : Int), y) | _ => .non) (f1 := [.val (regD cols), .own false false (.lst ((spX 0 (cols.take i)).map cD)), .val (.int i), .no]) ?_ (by simp [noOwn]) (by rw [List.length_map]; show _ ≤ 16777216; omega) ?_).trans (by simp [Function.comp_def])
          · simp [regD, hat, cD]
            rw [r2F_ok (by omega) (by omega), rng_I]
          · intro x hx
            obtain ⟨y, _, rfl⟩ := List.mem_map.mp hx
            simp [lcTurn, cD]
        have hle' : (spX 0 (cols.take i)).length + (rngI a (b + 1)).length ≤ Lm := Nat.le_trans hle (by show 7200 ≤ 16777216; omega)
        simp [l__law_spans_1, q, hle', ht])
  rw [callK_def (fd := f__law_spans) rfl rfl]
  have hb1 : ∀ f, r1F (cols.length : Int) f = .ok ((rngI 0 cols.length).map .int, []) f := fun f => by rw [r1F_ok (by have := g.len; omega), rng_I]
  have e2 : cols.take (0 + ((rngI 0 (cols.length : Int)).map D.int).length) = cols := by rw [List.length_map, rngI_len]; simp
  rw [e2] at e1
  simp [f__law_spans, b__law_spans, regD] at e1 ⊢
  simp [hb1, e1, regD, spansP]
theorem pos_iff {x : Int} : (x != 0) = true ↔ x ≠ 0 := by simp
/-- the loop's frame -/
def rF (row : List D) (wide high kind : Int) (x : Slot) (cols : Cols) (low top : Int) : Fr := [.own true false (.lst row), .val (.int wide), .val (.int high), .val (.int kind), x, .own false false (.lst (cols.map cD)), .val (.int low), .val (.int top)]
theorem region_turn (k : Nat) (ns : List Int) (row : List D) (hr : Row ns row) (wide high kind low top : Int) (n : Nat) (cols : Cols) (hk : 0 ≤ kind) (hh : high ≤ 59) (h0 : 0 ≤ low ∧ low ≤ top ∧ top ≤ high) (hn : cols.length < Lm) :
    ∃ row' low' top', Row ns row' ∧ low ≤ low' ∧ low' ≤ top ∧ top ≤ top' ∧ top' ≤ high ∧ (n = 0 → low' = low ∧ top' = top) ∧
      exCs ⟨callK tb (k+1)⟩ l__law_region_0 (rF row wide high kind (.val (.int n)) cols low top) = .nxt (rF row' wide high kind (.val (.int n)) (cols ++ [(low', top')]) low' top') := by
  by_cases hn0 : n = 0
  · subst hn0
    refine ⟨row, low, top, hr, by omega, by omega, by omega, by omega, fun _ => ⟨rfl, rfl⟩, ?_⟩
    simp [l__law_region_0, rF, hn, cD]
  · have hn1 : 0 < n := by omega
    by_cases hk0 : kind = 0
    · subst hk0
      obtain ⟨v, row1, v0, v1, hr1, hc1⟩ := c_taken k ns row hr (high - top + 1) (by omega) (by omega)
      refine ⟨row1, low, top + v, hr1, by omega, by omega, by omega, by omega, fun z => absurd z hn0, ?_⟩
      simp [l__law_region_0, rF, hc1, hn, hn1, cD]
    · by_cases hk1 : kind = 1
      · subst hk1
        obtain ⟨v, row1, v0, v1, hr1, hc1⟩ := c_taken k ns row hr (top - low + 1) (by omega) (by omega)
        refine ⟨row1, low + v, if top + 1 < high then top + 1 else high, hr1, by omega, by omega, by split <;> omega, by split <;> omega, fun z => absurd z hn0, ?_⟩
        simp [l__law_region_0, rF, hc1, hn, hn1, cD]
      · have hkp : 0 < kind := by omega
        obtain ⟨v, row1, v0, v1, hr1, hc1⟩ := c_taken k ns row hr (top - low + 1) (by omega) (by omega)
        obtain ⟨u, row2, u0, u1, hr2, hc2⟩ := c_taken k ns row1 hr1 (high - top + 1) (by omega) (by omega)
        refine ⟨row2, low + v, top + u, hr2, by omega, by omega, by omega, by omega, fun z => absurd z hn0, ?_⟩
        simp [l__law_region_0, rF, hc1, hc2, hn, hn1, hk1, hkp, cD]
theorem c_law_region (k : Nat) (ns : List Int) (row : List D) (hr : Row ns row) (wide high : Int) (hw : 0 ≤ wide ∧ wide ≤ 59) (hh : 0 ≤ high ∧ high ≤ 59) : ∃ row' cols, Row ns row' ∧ Good high cols ∧ 0 < cols.length ∧ (cols.length : Int) ≤ wide + 1 ∧
    callK tb (k+2) "_law_region" [.own true false (.lst row), .val (.int wide), .val (.int high)] = .ok (.v (regD cols)) [.own true false (.lst row'), .val (.int wide), .val (.int high)] := by
  obtain ⟨t0, row1, a0, a1, hr1, hc1⟩ := c_taken k ns row hr (high + 1) (by omega) (by omega)
  obtain ⟨kind, row2, b0, b1, hr2, hc2⟩ := c_taken k ns row1 hr1 4 (by omega) (by omega)
  obtain ⟨w, row3, d0, d1, hr3, hc3⟩ := c_taken k ns row2 hr2 (wide + 1) (by omega) (by omega)
  obtain ⟨n, rfl⟩ : ∃ n : Nat, w = n := ⟨w.toNat, by omega⟩
  obtain ⟨f', e1, row', cols, low, top, x, rfl, hr', hG, hl, _, _⟩ := frGo_inv (t := .nm 4) (b := exCs ⟨callK tb (k+1)⟩ l__law_region_0) (fun i f => ∃ row cols low top x, f = rF row wide high kind x cols low top ∧ Row ns row ∧ Good high cols ∧ cols.length = i ∧ (0 ≤ low ∧ low ≤ top ∧ top ≤ high) ∧ ((i = 0 → low = 0) ∧ (∀ a, cols.getLast? = some a → a = (low, top)) ∧ ((∃ d, x = .val d) ∨ x = .no)))
    (rng 0 (1 + (n : Int))) 0 (rF row3 wide high kind .no [] 0 t0) ⟨row3, [], 0, t0, .no, rfl, hr3, Good.nil _, rfl, by omega, fun _ => rfl, fun _ h => (nomatch h), .inr rfl⟩ (by
      rintro i d f hd ⟨row, cols, low, top, x, rfl, hr, hG, hl, hb, hz, hlast, hx⟩
      rw [rng_I, List.getElem?_map] at hd
      obtain ⟨j, hj, rfl⟩ := Option.map_eq_some_iff.mp hd
      obtain ⟨rfl, hj2⟩ := rngI_get' hj
      rw [Int.zero_add]
      obtain ⟨row', low', top', hr', g1, g2, g3, g4, g5, e⟩ := region_turn k ns row hr wide high kind low top i cols b0 hh.2 hb (by rw [hl]; show 0 + i < 16777216; omega)
      refine ⟨rF row wide high kind (.val (.int i)) cols low top, rF row' wide high kind (.val (.int i)) (cols ++ [(low', top')]) low' top', ?_, .inl e, row', cols ++ [(low', top')], low', top', _, rfl, hr', ?_, by simp [hl], by omega, fun z => by omega, fun a h => by simpa using h.symm, .inl ⟨_, rfl⟩⟩
      · rcases hx with ⟨d, rfl⟩ | rfl <;> simp [rF]
      · refine hG.snoc (by omega) (fun z => ?_) (fun a h => ?_)
        · rw [z] at hl
          have : i = 0 := by simpa using hl.symm
          obtain ⟨q1, q2⟩ := g5 this
          rw [q1]; exact hz (by omega)
        · rw [hlast a h]; exact ⟨g1, g2, g3⟩)
  have hlen : cols.length = n + 1 := by
    rw [hl, rng_I, List.length_map, rngI_len]; omega
  refine ⟨row', cols, hr', hG, by omega, by omega, ?_⟩
  rw [callK_def (fd := f__law_region) rfl rfl]
  have hb1 : ∀ f, r1F (1 + (n : Int)) f = .ok (rng 0 (1 + (n : Int)), []) f := fun f => r1F_ok (by omega)
  simp [rF, cD] at e1
  simp [f__law_region, b__law_region, hc1, hc2, hc3, hb1, e1, regD, cD]

end K51

set_option Elab.async false
set_option linter.all false
set_option maxRecDepth 100000
set_option maxHeartbeats 4000000
set_option autoImplicit false
namespace K51
open VI
def wsD' (p : List Nat × (Int × Int)) : D := .tup [.str p.1, cD p.2]
theorem lp_turn (k : Nat) (cols : Cols) (g : Reg cols) (t x5 x6 x7 : Slot) (n : Nat) (hn : (n : Int) < (endP cols).1 + (endP cols).2) (hn2 : (n : Int) ≤ 20) (h5 : Vs x5) (h6 : Vs x6) (h7 : Vs x7) : ∃ y5 y6 y7, Vs y5 ∧ Vs y6 ∧ Vs y7 ∧
    frGo (.tp (.cons (.nm 5) (.cons (.nm 6) .nil))) (exCs ⟨callK tb (k+1)⟩ l__law_plays_1) ((levP cols n).map wsD') [.val (regD cols), t, .own false false (.lst ((spansP cols).map cD)), .own false true (.lst ((levP cols n).map wsD')), .own false false (.lst []), x5, x6, x7] =
      .nxt [.val (regD cols), t, .own false false (.lst ((spansP cols).map cD)), .own false true (.lst ((levP cols n).map wsD')), .own false false (.lst ((levP cols (n + 1)).map wsD')), y5, y6, y7] := by
  have hle := lev_len (cols := cols) n
  have hpow : 2 ^ n ≤ 2 ^ 20 := Nat.pow_le_pow_right (by decide) (by omega)
  obtain ⟨f', e1, y5, y6, y7, rfl, g5, g6, g7⟩ := frGo_inv (t := .tp (.cons (.nm 5) (.cons (.nm 6) .nil))) (b := exCs ⟨callK tb (k+1)⟩ l__law_plays_1) (fun i f => ∃ x5 x6 x7, f = [.val (regD cols), t, .own false false (.lst ((spansP cols).map cD)), .own false true (.lst ((levP cols n).map wsD')), .own false false (.lst ((((levP cols n).take i).flatMap fun p => (stepsP cols p.2).map fun c => (p.1 ++ [c], afterP p.2 c)).map wsD')), x5, x6, x7] ∧ Vs x5 ∧ Vs x6 ∧ Vs x7)
    ((levP cols n).map wsD') 0 [.val (regD cols), t, .own false false (.lst ((spansP cols).map cD)), .own false true (.lst ((levP cols n).map wsD')), .own false false (.lst []), x5, x6, x7] ⟨_, _, _, rfl, h5, h6, h7⟩ (by
      rintro i d f hdi ⟨x5, x6, x7, rfl, h5, h6, h7⟩
      rw [List.getElem?_map] at hdi
      obtain ⟨⟨w, s⟩, hp, rfl⟩ := Option.map_eq_some_iff.mp hdi
      rw [Nat.zero_add]
      have hil := (List.getElem?_eq_some_iff.mp hp).1
      obtain ⟨hw1, hw2⟩ := mem_lev.mp (List.mem_of_getElem? hp)
      have hwm : w.length + 1 ≤ Lm := by show _ ≤ 16777216; omega
      have ht : (((levP cols n).take (i + 1)).flatMap fun p => (stepsP cols p.2).map fun c => (p.1 ++ [c], afterP p.2 c)) = (((levP cols n).take i).flatMap fun p => (stepsP cols p.2).map fun c => (p.1 ++ [c], afterP p.2 c)) ++ (stepsP cols s).map fun c => (w ++ [c], afterP s c) := by
        rw [List.take_add_one, hp, List.flatMap_append]; simp
      have hlen : (((levP cols n).take i).flatMap fun p => (stepsP cols p.2).map fun c => (p.1 ++ [c], afterP p.2 c)).length ≤ 2 * 2 ^ 20 := by
        rw [List.length_flatMap]
        have : ∀ l : List (List Nat × (Int × Int)), (l.map fun a => ((stepsP cols a.2).map fun c => (a.1 ++ [c], afterP a.2 c)).length).sum ≤ 2 * l.length := by
          intro l
          induction l with
          | nil => simp
          | cons x l ih =>
            have := steps_len cols x.2
            rw [List.map_cons, List.sum_cons, List.length_map, List.length_cons]
            omega
        have := this ((levP cols n).take i)
        rw [List.length_take] at this
        omega
      rw [ht]
      generalize (((levP cols n).take i).flatMap fun p => (stepsP cols p.2).map fun c => (p.1 ++ [c], afterP p.2 c)) = L at hlen ⊢
      refine ⟨[.val (regD cols), t, .own false false (.lst ((spansP cols).map cD)), .own false true (.lst ((levP cols n).map wsD')), .own false false (.lst (L.map wsD')), .val (.str w), .val (cD s), x7], [.val (regD cols), t, .own false false (.lst ((spansP cols).map cD)), .own false true (.lst ((levP cols n).map wsD')), .own false false (.lst ((L ++ (stepsP cols s).map fun c => (w ++ [c], afterP s c)).map wsD')), .val (.str w), .val (cD s), x7], ?_, .inl ?_, _, _, _, rfl, .inr ⟨_, rfl⟩, .inr ⟨_, rfl⟩, h7⟩
      · rcases h5 with rfl | ⟨_, rfl⟩ <;> rcases h6 with rfl | ⟨_, rfl⟩ <;> simp [wsD']
      · have q : ev ⟨callK tb (k+1)⟩ q__law_plays_0 [.val (regD cols), t, .own false false (.lst ((spansP cols).map cD)), .own false true (.lst ((levP cols n).map wsD')), .own false false (.lst (L.map wsD')), .val (.str w), .val (cD s), x7] = .ok (.o (.lst (((stepsP cols s).map fun c => (w ++ [c], afterP s c)).map wsD'))) [.val (regD cols), t, .own false false (.lst ((spansP cols).map cD)), .own false true (.lst ((levP cols n).map wsD')), .own false false (.lst (L.map wsD')), .val (.str w), .val (cD s), x7] := by
          refine (lc_run [.str [76], .str [82]] [] (fun d => match d with | .str [c] => if opn cols (afterP s c).1 (afterP s c).2 = true then some (wsD' (w ++ [c], afterP s c)) else none | _ => none) (f1 := [.val (regD cols), t, .own false false (.lst ((spansP cols).map cD)), .own false true (.lst ((levP cols n).map wsD')), .own false false (.lst (L.map wsD')), .val (.str w), .val (cD s), x7]) (by simp) (by rcases h7 with rfl | ⟨_, rfl⟩ <;> simp [noOwn]) (by show 2 ≤ 16777216; omega) ?_).trans ?_
          · intro d hd
            have hd : d = .str [76] ∨ d = .str [82] := by simpa using hd
            rcases hd with rfl | rfl
            · by_cases h : opn cols (s.1 + 1) s.2 = true <;> simp [lcTurn, c_law_after, mem_spans', h, hwm, wsD']
            · by_cases h : opn cols s.1 (s.2 + 1) = true <;> simp [lcTurn, c_law_after, mem_spans', h, hwm, wsD']
          · unfold stepsP
            by_cases h : opn cols (s.1 + 1) s.2 = true <;> by_cases h' : opn cols s.1 (s.2 + 1) = true <;> simp [h, h']
        have hs := steps_len cols s
        have hlm : L.length + (stepsP cols s).length ≤ Lm := by show _ ≤ 16777216; omega
        simp [l__law_plays_1, q, hlm])
  refine ⟨y5, y6, y7, g5, g6, g7, ?_⟩
  rw [Nat.zero_add, List.length_map, List.take_length] at e1
  rw [e1]; rfl
theorem c_law_plays (k : Nat) (cols : Cols) (g : Reg cols) (h20 : (endP cols).1 + (endP cols).2 ≤ 20) : callK tb (k+2) "_law_plays" [.val (regD cols)] = .ok (.o (.lst ((listP cols).map .str))) [.val (regD cols)] := by
  have hes := g.end_sum
  generalize hN : ((endP cols).1 + (endP cols).2).toNat = n
  have hn : (endP cols).1 + (endP cols).2 = n := by omega
  have hlast : atD ((spansP cols).map cD) (-1) = some (cD (endP cols)) := atD_last (by rw [List.getLast?_map, g.spans_last]; rfl)
  have hsum : bD "sum" [.v (cD (endP cols))] = some (.v (.int n)) := by
    rw [← hn]; simp [cD, bD, intL]
  obtain ⟨f', e1, x1, x4, x5, x6, x7, rfl, _, _, g5, g6, g7⟩ := frGo_inv (t := .nm 1) (b := exCs ⟨callK tb (k+1)⟩ l__law_plays_2) (fun i f => ∃ x1 x4 x5 x6 x7, f = [.val (regD cols), x1, .own false false (.lst ((spansP cols).map cD)), .own false false (.lst ((levP cols i).map wsD')), x4, x5, x6, x7] ∧ Vs x1 ∧ Vs x4 ∧ Vs x5 ∧ Vs x6 ∧ Vs x7)
    ((rngI 0 n).map .int) 0 [.val (regD cols), .no, .own false false (.lst ((spansP cols).map cD)), .own false false (.lst [.tup [.str [], cD (0, 0)]]), .no, .no, .no, .no] ⟨_, _, _, _, _, rfl, .inl rfl, .inl rfl, .inl rfl, .inl rfl, .inl rfl⟩ (by
      rintro i d f hdi ⟨x1, x4, x5, x6, x7, rfl, h1, h4, h5, h6, h7⟩
      rw [List.getElem?_map] at hdi
      obtain ⟨j, hj, rfl⟩ := Option.map_eq_some_iff.mp hdi
      obtain ⟨rfl, hj2⟩ := rngI_get' hj
      rw [Nat.zero_add, Int.zero_add] at *
      obtain ⟨y5, y6, y7, g5, g6, g7, e⟩ := lp_turn k cols g (.val (.int i)) x5 x6 x7 i (by omega) (by omega) h5 h6 h7
      refine ⟨[.val (regD cols), .val (.int i), .own false false (.lst ((spansP cols).map cD)), .own false false (.lst ((levP cols i).map wsD')), x4, x5, x6, x7], [.val (regD cols), .val (.int i), .own false false (.lst ((spansP cols).map cD)), .own false false (.lst ((levP cols (i + 1)).map wsD')), .no, y5, y6, y7], ?_, .inl ?_, _, _, _, _, _, rfl, .inr ⟨_, rfl⟩, .inl rfl, g5, g6, g7⟩
      · rcases h1 with rfl | ⟨_, rfl⟩ <;> simp
      · have s4 : sto 4 (.o (.lst [])) [.val (regD cols), .val (.int i), .own false false (.lst ((spansP cols).map cD)), .own false false (.lst ((levP cols i).map wsD')), x4, x5, x6, x7] = some [.val (regD cols), .val (.int i), .own false false (.lst ((spansP cols).map cD)), .own false false (.lst ((levP cols i).map wsD')), .own false false (.lst []), x5, x6, x7] := by
          rcases h4 with rfl | ⟨_, rfl⟩ <;> simp
        simp only [l__law_plays_2, S_cons, S_asg, Sm_lst, S_lst, S_es0, R.bind_ok, List.length_nil, Nat.zero_le, if_true, S_stoS, s4]
        simp [e, unlk])
  have hni : ((rngI 0 (n : Int)).map D.int).length = n := by rw [List.length_map, rngI_len]; omega
  rw [Nat.zero_add, hni] at e1
  have hq2 : ev ⟨callK tb (k+1)⟩ q__law_plays_3 [.val (regD cols), x1, .own false false (.lst ((spansP cols).map cD)), .own false false (.lst ((levP cols n).map wsD')), x4, x5, x6, x7] = .ok (.o (.lst ((listP cols).map .str))) [.val (regD cols), x1, .own false false (.lst ((spansP cols).map cD)), .own false false (.lst ((levP cols n).map wsD')), x4, x5, x6, x7] := by
    have hle := lev_len (cols := cols) n
    have hpow : 2 ^ n ≤ 2 ^ 20 := Nat.pow_le_pow_right (by decide) (by omega)
    refine (lc_map ((levP cols n).map wsD') [3] (fun d => match d with | .tup [.str w, _] => .str w | _ => .non) (f1 := [.val (regD cols), x1, .own false false (.lst ((spansP cols).map cD)), .own false true (.lst ((levP cols n).map wsD')), x4, x5, x6, x7]) (by simp) (by rcases g5 with rfl | ⟨_, rfl⟩ <;> rcases g6 with rfl | ⟨_, rfl⟩ <;> simp [noOwn]) (by rw [List.length_map]; show _ ≤ 16777216; omega) ?_).trans ?_
    · intro d hd
      obtain ⟨p, _, rfl⟩ := List.mem_map.mp hd
      simp [lcTurn, wsD']
    · unfold listP
      rw [hN]
      simp [unlk, wsD', Function.comp_def]
  have hr1 : ∀ f, r1F (n : Int) f = .ok ((rngI 0 n).map .int, []) f := fun f => by rw [r1F_ok (by omega), rng_I]
  have hls := c_law_spans (k) cols g
  rw [callK_def (fd := f__law_plays) rfl rfl]
  simp [f__law_plays, b__law_plays, hls, hlast, hsum, hr1]
  simp [cD] at e1 hq2 ⊢
  simp [e1, hq2]

end K51

set_option Elab.async false
set_option linter.all false
set_option maxRecDepth 100000
set_option maxHeartbeats 4000000
set_option autoImplicit false
namespace K51
open VI
def aD (cols : Cols) (s : Int × Int) : D := .int (aP cols s)
theorem look_ahead (cols : Cols) (done : List (Int × Int)) (s : Int × Int) (h : opn cols s.1 s.2 = true → s ∈ done) (h' : ∀ t ∈ done, opn cols t.1 t.2 = true) : (look (mkD done (aD cols)) (kP s)).getD (.int 0) = .int (if opn cols s.1 s.2 = true then (aP cols s : Int) else 0) := by
  rw [look_mkD]
  by_cases ho : opn cols s.1 s.2 = true
  · rw [if_pos (h ho), if_pos ho]; rfl
  · rw [if_neg (fun z => ho (h' _ z)), if_neg ho]; rfl

end K51

set_option Elab.async false
set_option linter.all false
set_option maxRecDepth 100000
set_option maxHeartbeats 4000000
set_option autoImplicit false
namespace K51
open VI
theorem c_law_count (k : Nat) (cols : Cols) (g : Reg cols) : callK tb (k+2) "_law_count" [.val (regD cols)] = .ok (.v (.int (aP cols (endP cols)))) [.val (regD cols)] := by
  have hlen := spX_len60 g
  obtain ⟨f', e1, x, y, rfl, _⟩ := frGo_inv (t := .tp (.cons (.nm 2) (.cons (.nm 3) .nil))) (b := exCs ⟨callK tb (k+1)⟩ l__law_count_0) (fun i f => ∃ x y, f = [.val (regD cols), .own false false (.dT (mkD ((spansP cols).take i) (aD cols))), x, y] ∧ Vs x ∧ Vs y)
    ((spansP cols).map cD) 0 [.val (regD cols), .own false false (.dT []), .no, .no] ⟨_, _, rfl, .inl rfl, .inl rfl⟩ (by
      rintro i d f hdi ⟨x, y, rfl, hx, hy⟩
      rw [List.getElem?_map] at hdi
      obtain ⟨s, hs, rfl⟩ := Option.map_eq_some_iff.mp hdi
      rw [Nat.zero_add]
      have hnd : s ∉ (spansP cols).take i := nodup_take (spans_nodup cols) hs
      have ht : (spansP cols).take (i + 1) = (spansP cols).take i ++ [s] := by rw [List.take_add_one, hs]; rfl
      have hdone : ∀ t : Int × Int, opn cols t.1 t.2 = true → ltP t s → t ∈ (spansP cols).take i := fun t ho hl =>
        take_of_lt (spans_sorted cols) hs (mem_spans'.mpr ho) hl
      have hall : ∀ t ∈ (spansP cols).take i, opn cols t.1 t.2 = true := fun t hm => mem_spans'.mp (List.mem_of_mem_take hm)
      generalize hD : (spansP cols).take i = done at *
      have hdl : done.length < Lm := by rw [← hD, List.length_take]; show _ < 16777216; omega
      have l1 := look_ahead cols done (s.1 - 1, s.2) (fun h => hdone _ h (.inl (by simp only; omega))) hall
      have l2 := look_ahead cols done (s.1, s.2 - 1) (fun h => hdone _ h (.inr ⟨rfl, by simp only; omega⟩)) hall
      simp only [kP] at l1 l2
      have hn := aP_two g s
      have hput := put_mkD (aD cols) s (aD cols s) done hnd
      simp only [kP] at hput
      refine ⟨[.val (regD cols), .own false false (.dT (mkD done (aD cols))), .val (.int s.1), .val (.int s.2)], [.val (regD cols), .own false false (.dT (mkD (done ++ [s]) (aD cols))), .val (.int s.1), .val (.int s.2)], ?_, .inl ?_, _, _, by rw [ht], .inr ⟨_, rfl⟩, .inr ⟨_, rfl⟩⟩
      · rcases hx with rfl | ⟨_, rfl⟩ <;> rcases hy with rfl | ⟨_, rfl⟩ <;> simp [cD]
      · have he : cmpD .eq (.v (.tup [.int s.1, .int s.2])) (.v (.tup [.int 0, .int 0])) = some (decide (s = (0, 0))) := V_eqc s (0, 0)
        by_cases h : s = (0, 0)
        · rw [if_pos h] at hn
          have hnd1 : aD cols s = .int 1 := by unfold aD; rw [hn]
          rw [hnd1] at hput
          have he' : cmpD .eq (.v (.tup [.int s.1, .int s.2])) (.v (.tup [.int 0, .int 0])) = some true := by rw [he, decide_eq_true h]
          simp [l__law_count_0, he', hput, mkD_len, hdl, mkD_snoc, hnd1, kP]
        · rw [if_neg h] at hn
          have hnd1 : aD cols s = .int ((if opn cols (s.1 - 1) s.2 = true then (aP cols (s.1 - 1, s.2) : Int) else 0) + (if opn cols s.1 (s.2 - 1) = true then (aP cols (s.1, s.2 - 1) : Int) else 0)) := by unfold aD; rw [hn]
          rw [hnd1] at hput
          have he' : cmpD .eq (.v (.tup [.int s.1, .int s.2])) (.v (.tup [.int 0, .int 0])) = some false := by rw [he, decide_eq_false h]
          simp [l__law_count_0, he', l1, l2, hput, mkD_len, hdl, mkD_snoc, hnd1, kP])
  rw [Nat.zero_add, List.length_map, List.take_length] at e1
  obtain ⟨c, hl1, hl2, hl3⟩ := g.last
  have hlook : look (mkD (spansP cols) (aD cols)) (kP (endP cols)) = some (.int (aP cols (endP cols))) := by
    rw [look_mkD, if_pos (mem_spans'.mpr g.end_open)]; rfl
  rw [hl3] at hlook ⊢
  simp only [kP] at hlook
  rw [callK_def (fd := f__law_count) rfl rfl]
  simp [f__law_count, b__law_count, c_law_spans _ cols g, e1, V_ixr hl1, hlook]
theorem count_le (cols : Cols) (g : Reg cols) (h : (endP cols).1 + (endP cols).2 ≤ 8) : (aP cols (endP cols) : Int) ≤ 512 := by
  have h1 := aF_le cols (((endP cols).1 + (endP cols).2).toNat + 1) (endP cols)
  have h2 : 2 ^ (((endP cols).1 + (endP cols).2).toNat + 1) ≤ 2 ^ 9 := Nat.pow_le_pow_right (by decide) (by omega)
  unfold aP
  omega
theorem c_law_few (k : Nat) (ns : List Int) (row : List D) (hr : Row ns row) (most : Int) : ∃ row' cols m, Row ns row' ∧ Good 4 cols ∧ 0 < cols.length ∧ cols.length ≤ 5 ∧
    callK tb (k+3) "_law_few" [.own true false (.lst row), .val (.int most)] = .ok (.v (regD cols)) [.own true false (.lst row'), m] := by
  have main := whl_meas (t := evT ⟨callK tb (k+2)⟩ (.ex (.lit (.bl true)))) (b := exCs ⟨callK tb (k+2)⟩ l__law_few_0)
    (I := fun f => ∃ row most x, f = [.own true false (.lst row), .val (.int most), x] ∧ Row ns row ∧ Vs x)
    (μ := fun f => match f with | [_, .val (.int most), _] => (520 - most).toNat | _ => 0)
    (P := fun r => ∃ row cols m x, r = .ret (.v (regD cols)) [.own true false (.lst row), m, x] ∧ Row ns row ∧ Good 4 cols ∧ 0 < cols.length ∧ cols.length ≤ 5)
    (by
      rintro f ⟨row, most, x, rfl, hr, hx⟩
      refine .inr ⟨[.own true false (.lst row), .val (.int most), x], by simp, ?_⟩
      obtain ⟨row1, cols, hr1, hG, hp, hl, e1⟩ := c_law_region k ns row hr 4 4 (by omega) (by omega)
      have g : Reg cols := ⟨hG.mono (by omega), hp, by omega⟩
      have hc := c_law_count k cols g
      have s2 : sto 2 (.v (regD cols)) [.own true false (.lst row1), .val (.int most), x] = some [.own true false (.lst row1), .val (.int most), .val (regD cols)] := by
        rcases hx with rfl | ⟨_, rfl⟩ <;> simp
      by_cases h : (aP cols (endP cols) : Int) ≤ most
      · exact .inr (.inr ⟨_, _, by simp [-S_sto, l__law_few_0, e1, s2, hc, h]; exact ⟨rfl, rfl⟩, row1, cols, _, _, rfl, hr1, hG, hp, by omega⟩)
      · refine .inl ⟨[.own true false (.lst row1), .val (.int (most + 10)), .val (regD cols)], .inl ?_, ⟨_, _, _, rfl, hr1, .inr ⟨_, rfl⟩⟩, ?_⟩
        · have s1 : ∀ d, sto 1 (.v d) [.own true false (.lst row1), .val (.int most), .val (regD cols)] = some [.own true false (.lst row1), .val d, .val (regD cols)] := fun d => by simp
          simp [-S_sto, l__law_few_0, e1, s2, hc, h, s1]
        · have := count_le cols g (by
            obtain ⟨c, q1, q2, q3⟩ := g.last
            rw [q3]; have := (hG.all c (List.mem_of_getElem? q2)).2.2; simp only; omega)
          simp only; omega)
    [.own true false (.lst row), .val (.int most), .no] ⟨row, most, .no, rfl, hr, .inl rfl⟩
  obtain ⟨row', cols, m, x, e, hr', hG, hp, hl⟩ := main
  refine ⟨row', cols, m, hr', hG, hp, hl, ?_⟩
  rw [callK_def (fd := f__law_few) rfl rfl]

  simp [f__law_few, b__law_few, e]

end K51

set_option Elab.async false
set_option linter.all false
set_option maxRecDepth 100000
set_option maxHeartbeats 4000000
set_option autoImplicit false
namespace K51
open VI
def rgMk (l : List (Int × Int)) : D := .lst (l.map fun s => .int s.2)
theorem c_law_region_of (k : Nat) (cols : Cols) (g : Reg cols) : callK tb (k+1) "_law_region_of" [.own true false (.lst ((spansP cols).map cD))] = .ok (.v (regD cols)) [.own true false (.lst ((spansP cols).map cD))] := by
  have hlen := spans60 g
  obtain ⟨f', e1, x2, x3, rfl, h2, h3⟩ := frGo_inv (t := .tp (.cons (.nm 2) (.cons (.nm 3) .nil))) (b := exCs ⟨callK tb k⟩ l__law_region_of_0) (fun i f => ∃ x2 x3, f = [.own true true (.lst ((spansP cols).map cD)), .own false false (.dK (grD (Sum.inl : Int → K1) rgMk (fun s : Int × Int => s.1) ((spansP cols).take i))), x2, x3] ∧ Vs x2 ∧ Vs x3)
    ((spansP cols).map cD) 0 [.own true true (.lst ((spansP cols).map cD)), .own false false (.dK []), .no, .no] ⟨_, _, rfl, .inl rfl, .inl rfl⟩ (by
      rintro i d f hdi ⟨x2, x3, rfl, h2, h3⟩
      rw [List.getElem?_map] at hdi
      obtain ⟨s, hs, rfl⟩ := Option.map_eq_some_iff.mp hdi
      have hil := (List.getElem?_eq_some_iff.mp hs).1
      rw [Nat.zero_add]
      have ht : (spansP cols).take (i + 1) = (spansP cols).take i ++ [s] := by rw [List.take_add_one, hs]; rfl
      have hg := gr_look inl_inj rgMk (fun s : Int × Int => s.1) ((spansP cols).take i) s.1
      have hp := gr_put inl_inj rgMk (fun s : Int × Int => s.1) ((spansP cols).take i) s
      have hl := gr_len (Sum.inl : Int → K1) rgMk (fun s : Int × Int => s.1) ((spansP cols).take i)
      rw [List.length_take] at hl
      have hfl : (((spansP cols).take i).filter fun a => decide (a.1 = s.1)).length ≤ 3600 := by
        refine Nat.le_trans (List.length_filter_le _ _) ?_
        rw [List.length_take]; omega
      rw [ht, ← hp]
      generalize grD (Sum.inl : Int → K1) rgMk (fun s : Int × Int => s.1) ((spansP cols).take i) = kv at *
      generalize (((spansP cols).take i).filter fun a => decide (a.1 = s.1)) = G at *
      obtain ⟨x, y⟩ := s
      have hkv : kv.length < Lm := by show _ < 16777216; omega
      have hap : (G.map fun s => D.int s.2).length + 1 ≤ Lm := by rw [List.length_map]; show _ ≤ 16777216; omega
      have hmk : rgMk (G ++ [(x, y)]) = .lst ((G.map fun s => D.int s.2) ++ [.int y]) := by unfold rgMk; rw [List.map_append]; rfl
      have hg' : (look kv (Sum.inl x)).getD (.lst []) = .lst (G.map fun s => D.int s.2) := hg
      rw [hmk]
      generalize (G.map fun s => D.int s.2) = L at *
      refine ⟨[.own true true (.lst ((spansP cols).map cD)), .own false false (.dK kv), .val (.int x), .val (.int y)], [.own true true (.lst ((spansP cols).map cD)), .own false false (.dK (put kv (.inl x) (.lst (L ++ [.int y])))), .val (.int x), .val (.int y)], ?_, .inl ?_, _, _, rfl, .inr ⟨_, rfl⟩, .inr ⟨_, rfl⟩⟩
      · rcases h2 with rfl | ⟨_, rfl⟩ <;> rcases h3 with rfl | ⟨_, rfl⟩ <;> simp [cD]
      · simp [l__law_region_of_0, hg', hap, hkv])
  rw [Nat.zero_add, List.length_map, List.take_length] at e1
  have hso : bD "sorted" [.o (.dK (grD (Sum.inl : Int → K1) rgMk (fun s : Int × Int => s.1) (spansP cols)))] = some (.o (.lst (((List.range cols.length).map fun (n : Nat) => (n : Int)).map .int))) := by
    have := sorted_keysI (grV rgMk (fun s : Int × Int => s.1) (spansP cols)) (keysF (fun s : Int × Int => s.1) (spansP cols))
    rw [col_keys g] at this
    exact this
  have hq : ev ⟨callK tb k⟩ q__law_region_of_1 [.own true false (.lst ((spansP cols).map cD)), .own false false (.dK (grD (Sum.inl : Int → K1) rgMk (fun s : Int × Int => s.1) (spansP cols))), x2, x3] = .ok (.o (.lst (cols.map cD))) [.own true false (.lst ((spansP cols).map cD)), .own false false (.dK (grD (Sum.inl : Int → K1) rgMk (fun s : Int × Int => s.1) (spansP cols))), x2, x3] := by
    have hc : cols.map cD = (((List.range cols.length).map fun (n : Nat) => (n : Int)).map D.int).map fun d => match d with | .int i => (match cols[i.toNat]? with | some c => cD c | none => .non) | _ => .non := by
      rw [List.map_map, List.map_map]
      refine List.ext_getElem? fun i => ?_
      rw [List.getElem?_map, List.getElem?_map]
      by_cases h : i < cols.length
      · rw [List.getElem?_range h, List.getElem?_eq_getElem h]
        simp [h]
      · rw [List.getElem?_eq_none (by omega), List.getElem?_eq_none (by rw [List.length_range]; omega)]
        rfl
    rw [hc]
    refine (lc_map (((List.range cols.length).map fun (n : Nat) => (n : Int)).map D.int) [] _ (f1 := [.own true false (.lst ((spansP cols).map cD)), .own false false (.dK (grD (Sum.inl : Int → K1) rgMk (fun s : Int × Int => s.1) (spansP cols))), x2, x3]) (by simp [-List.map_map, hso]) (by rcases h2 with rfl | ⟨_, rfl⟩ <;> simp [noOwn]) (by rw [List.length_map, List.length_map, List.length_range]; have := g.len; show _ ≤ 16777216; omega) ?_).trans rfl
    intro d hd
    obtain ⟨j, hj, rfl⟩ := List.mem_map.mp hd
    obtain ⟨i, hi, rfl⟩ := List.mem_map.mp hj
    have hi := List.mem_range.mp hi
    have hci := List.getElem?_eq_getElem hi
    have hb := g.good.all _ (List.getElem_mem hi)
    obtain ⟨m1, m2⟩ := min_rng hb.2.1
    have hat := gr_at inl_inj rgMk (fun s : Int × Int => s.1) (spansP cols) (b := (i : Int)) (List.mem_map.mpr ⟨((i : Int), (cols[i]).1), mem_spans'.mpr (opn_iff.mpr ⟨by simp only; omega, cols[i], by simp only [Int.toNat_natCast]; exact hci, by omega, by omega⟩), rfl⟩)
    have hcf := col_filter hci
    have hv : rgMk ((spansP cols).filter fun a => decide (a.1 = (i : Int))) = .lst ((rngI (cols[i]).1 ((cols[i]).2 + 1)).map .int) := by
      unfold rgMk
      rw [← hcf, List.map_map]; rfl
    rw [hv] at hat
    rcases h2 with rfl | ⟨_, rfl⟩ <;> simp [lcTurn, hat, m1, m2, hci, cD]
  rw [callK_def (fd := f__law_region_of) rfl rfl]
  have hu : unlk [.own true true (.lst ((spansP cols).map cD)), .own false false (.dK (grD (Sum.inl : Int → K1) rgMk (fun s : Int × Int => s.1) (spansP cols))), x2, x3] [0] = [.own true false (.lst ((spansP cols).map cD)), .own false false (.dK (grD (Sum.inl : Int → K1) rgMk (fun s : Int × Int => s.1) (spansP cols))), x2, x3] := rfl
  simp [f__law_region_of, b__law_region_of, e1, hu, hq, regD]

end K51

set_option Elab.async false
set_option linter.all false
set_option maxRecDepth 100000
set_option maxHeartbeats 4000000
set_option autoImplicit false
namespace K51
open VI
theorem alike_comp (c : Ctx) (s1 s2 : Slot) (ds : List D) (hs1 : s1 = .val (.tup ds) ∨ s1 = .val (.lst ds) ∨ s1 = .own true false (.lst ds)) (hs2 : s2 = .val (.tup ds) ∨ s2 = .val (.lst ds) ∨ s2 = .own true false (.lst ds)) (hl : ds.length ≤ 1000000)
    (h : ∀ d ∈ ds, c.call "_law_alike" [.val d, .val d] = .ok (.v (.bl true)) [.val d, .val d]) : ev c q__law_alike_0 [s1, s2, .no] = .ok (.o (.lst [])) [s1, s2, .no] := by
  refine (lc_run ((rngI 0 ds.length).map .int) [] (fun _ => none) (f1 := [s1, s2, .no]) ?_ ?_ (by rw [List.length_map, rngI_len]; show _ ≤ 16777216; omega) ?_).trans (by simp)
  · rcases hs2 with rfl | rfl | rfl <;> simp <;> rw [r1F_ok (by omega), rng_I]
  · rcases hs1 with rfl | rfl | rfl <;> rcases hs2 with rfl | rfl | rfl <;> simp [noOwn]
  · intro d hd
    obtain ⟨j, hj, rfl⟩ := List.mem_map.mp hd
    rw [mem_rngI] at hj
    have hlt : j.toNat < ds.length := by omega
    have hat := atD_at (List.getElem?_eq_getElem hlt)
    rw [show ((j.toNat : Nat) : Int) = j by omega] at hat
    have hc := h ds[j.toNat] (List.getElem_mem hlt)
    rcases hs1 with rfl | rfl | rfl <;> rcases hs2 with rfl | rfl | rfl <;> simp [lcTurn, hat, hc]
theorem c_alike_val : ∀ (n : Nat) (d : D), dpt d ≤ n → wdD d ≤ 1000000 → ∀ k, callK tb (k+n+1) "_law_alike" [.val d, .val d] = .ok (.v (.bl true)) [.val d, .val d] := by
  intro n
  induction n with
  | zero =>
    intro d hd hw k
    rw [callK_def (fd := f__law_alike) rfl rfl]
    cases d with
    | tup ds => simp [dpt] at hd
    | lst ds => simp [dpt] at hd
    | non => simp [f__law_alike, b__law_alike]
    | bl b => simp [f__law_alike, b__law_alike]
    | int i => simp [f__law_alike, b__law_alike]
    | str s => simp [f__law_alike, b__law_alike]
  | succ n ih =>
    intro d hd hw k
    have hsub : ∀ ds : List D, dpts ds ≤ n → wdDs ds ≤ 1000000 → ∀ e ∈ ds, (⟨callK tb (k + (n + 1))⟩ : Ctx).call "_law_alike" [.val e, .val e] = .ok (.v (.bl true)) [.val e, .val e] := fun ds h1 h2 e he =>
      ih e (Nat.le_trans (dpts_mem he) h1) (Nat.le_trans (wdDs_mem he) h2) k
    rw [callK_def (fd := f__law_alike) rfl rfl]
    cases d with
    | non => simp [f__law_alike, b__law_alike]
    | bl b => simp [f__law_alike, b__law_alike]
    | int i => simp [f__law_alike, b__law_alike]
    | str s => simp [f__law_alike, b__law_alike]
    | tup ds =>
      rw [dpt] at hd
      rw [wdD] at hw
      have q := alike_comp ⟨callK tb (k + (n + 1))⟩ _ _ ds (.inl rfl) (.inl rfl) (by omega) (hsub ds (by omega) (by omega))
      simp [f__law_alike, b__law_alike, q]
    | lst ds =>
      rw [dpt] at hd
      rw [wdD] at hw
      have q := alike_comp ⟨callK tb (k + (n + 1))⟩ _ _ ds (.inr (.inl rfl)) (.inr (.inl rfl)) (by omega) (hsub ds (by omega) (by omega))
      simp [f__law_alike, b__law_alike, q]
theorem c_alike (n : Nat) (d : D) (s1 s2 : Slot) (h1 : SlD s1 d) (h2 : SlD s2 d) (hd : dpt d ≤ n) (hw : wdD d ≤ 1000000) (k : Nat) : callK tb (k+n+1) "_law_alike" [s1, s2] = .ok (.v (.bl true)) [s1, s2] := by
  rcases h1 with rfl | ⟨ds, rfl, rfl⟩ <;> rcases h2 with rfl | ⟨ds', rfl, e2⟩
  · exact c_alike_val n _ hd hw k
  · subst e2
    rw [dpt] at hd
    rw [wdD] at hw
    have hsub : ∀ e ∈ ds', (⟨callK tb (k + n)⟩ : Ctx).call "_law_alike" [.val e, .val e] = .ok (.v (.bl true)) [.val e, .val e] := fun e he => by
      have h3 := dpts_mem he
      have h4 := wdDs_mem he
      obtain ⟨m, rfl⟩ : ∃ m, n = m + 1 := ⟨n - 1, by omega⟩
      exact c_alike_val m e (by omega) (by omega) k
    have q := alike_comp ⟨callK tb (k + n)⟩ (.val (.lst ds')) (.own true false (.lst ds')) ds' (.inr (.inl rfl)) (.inr (.inr rfl)) (by omega) hsub
    rw [callK_def (fd := f__law_alike) rfl rfl]
    simp [f__law_alike, b__law_alike, q]
  · rw [dpt] at hd
    rw [wdD] at hw
    have hsub : ∀ e ∈ ds, (⟨callK tb (k + n)⟩ : Ctx).call "_law_alike" [.val e, .val e] = .ok (.v (.bl true)) [.val e, .val e] := fun e he => by
      have h3 := dpts_mem he
      have h4 := wdDs_mem he
      obtain ⟨m, rfl⟩ : ∃ m, n = m + 1 := ⟨n - 1, by omega⟩
      exact c_alike_val m e (by omega) (by omega) k
    have q := alike_comp ⟨callK tb (k + n)⟩ (.own true false (.lst ds)) (.val (.lst ds)) ds (.inr (.inr rfl)) (.inr (.inl rfl)) (by omega) hsub
    rw [callK_def (fd := f__law_alike) rfl rfl]
    simp [f__law_alike, b__law_alike, q]
  · cases e2
    rw [dpt] at hd
    rw [wdD] at hw
    have hsub : ∀ e ∈ ds, (⟨callK tb (k + n)⟩ : Ctx).call "_law_alike" [.val e, .val e] = .ok (.v (.bl true)) [.val e, .val e] := fun e he => by
      have h3 := dpts_mem he
      have h4 := wdDs_mem he
      obtain ⟨m, rfl⟩ : ∃ m, n = m + 1 := ⟨n - 1, by omega⟩
      exact c_alike_val m e (by omega) (by omega) k
    have q := alike_comp ⟨callK tb (k + n)⟩ (.own true false (.lst ds)) (.own true false (.lst ds)) ds (.inr (.inr rfl)) (.inr (.inr rfl)) (by omega) hsub
    rw [callK_def (fd := f__law_alike) rfl rfl]
    simp [f__law_alike, b__law_alike, q]
/-- flat values -/
theorem c_alike_b (k : Nat) (b b' : Bool) : callK tb (k+1) "_law_alike" [.val (.bl b), .val (.bl b')] = .ok (.v (.bl (b == b'))) [.val (.bl b), .val (.bl b')] := by
  rw [callK_def (fd := f__law_alike) rfl rfl]
  simp [f__law_alike, b__law_alike]

end K51

set_option Elab.async false
set_option linter.all false
set_option maxRecDepth 100000
set_option maxHeartbeats 4000000
set_option autoImplicit false
namespace K51
open VI
theorem dptC : ∀ l : List (Int × Int), dpts (l.map cD) ≤ 1
  | [] => by decide
  | x :: l => by rw [List.map_cons, dpts]; have := dptC l; have : dpt (cD x) = 1 := rfl; omega
theorem wdC : ∀ l : List (Int × Int), wdDs (l.map cD) ≤ 2
  | [] => by decide
  | x :: l => by rw [List.map_cons, wdDs]; have := wdC l; have : wdD (cD x) = 2 := rfl; omega
theorem alikeR (k : Nat) (cols : Cols) (g : Reg cols) : callK tb (k+5) "_law_alike" [.val (regD cols), .val (regD cols)] = .ok (.v (.bl true)) [.val (regD cols), .val (regD cols)] :=
  c_alike_val 4 (regD cols) (dpt_reg _) (by unfold regD; rw [wdD]; have := wdC cols; have := g.len; simp; omega) k
theorem eqDs_str : ∀ l : List (List Nat), eqDs (l.map D.str) (l.map D.str) = true := fun l => eqDs_refl _
theorem dpts_S (l : List (List Nat)) : dpts (l.map D.str) ≤ 1 := dpts_le (n := 0) fun d hd => by
  obtain ⟨a, _, rfl⟩ := List.mem_map.mp hd
  exact Nat.le_refl _
theorem V_neS (l : List (List Nat)) : cmpD .ne (.o (.lst (l.map .str))) (.o (.lst (l.map .str))) = some false := by
  have h := dpts_S l
  have e := eqDs_refl (l.map D.str)
  simp [cmpD, eqR, eqD, e]
  omega
def lF (ns : List Int) (row : List D) (cols fc : Cols) (x4 x5 x6 x7 x8 x9 : Slot) : Fr := [.val (.lst (ns.map .int)), .own false false (.lst row), .val (regD cols), .own false false (.lst ((spansP cols).map cD)), x4, x5, x6, x7, x8, x9, .no, .no, .no]
theorem e_fl {cols : Cols} (g : Reg cols) (ns : List Int) (row : List D) (fc : Cols) : ev ⟨callK tb 39⟩ q_law_0 (lF ns row cols fc .no .no .no .no .no .no) = .ok (.o (.lst (((spansP cols).map swS).map cD))) (lF ns row cols fc .no .no .no .no .no .no) := by
  have h60 := spans60 g
  have e : ((spansP cols).map swS).map cD = ((spansP cols).map cD).map fun d => match d with | .tup [a, b] => .tup [b, a] | _ => .non := by
    rw [List.map_map, List.map_map]; rfl
  rw [e]
  refine (lc_map ((spansP cols).map cD) [3] (fun d => match d with | .tup [a, b] => .tup [b, a] | _ => .non) (f1 := (lF ns row cols fc .no .no .no .no .no .no).set 3 (.own false true (.lst ((spansP cols).map cD)))) (by simp [lF]) (by simp [noOwn, lF]) (by rw [List.length_map]; show _ ≤ 16777216; omega) ?_).trans rfl
  intro d hd
  obtain ⟨s, _, rfl⟩ := List.mem_map.mp hd
  simp [lcTurn, lF, cD]
theorem e_bk {cols : Cols} (g : Reg cols) (ns : List Int) (row : List D) (fc : Cols) : ev ⟨callK tb 39⟩ q_law_1 (lF ns row cols fc .no .no .no .no (.val (.int (endP cols).1)) (.val (.int (endP cols).2))) = .ok (.o (.lst (((spansP cols).map (tnS cols)).map cD))) (lF ns row cols fc .no .no .no .no (.val (.int (endP cols).1)) (.val (.int (endP cols).2))) := by
  have h60 := spans60 g
  have e : ((spansP cols).map (tnS cols)).map cD = ((spansP cols).map cD).map fun d => match d with | .tup [.int a, .int b] => .tup [.int ((endP cols).1 - a), .int ((endP cols).2 - b)] | _ => .non := by
    rw [List.map_map, List.map_map]; rfl
  rw [e]
  refine (lc_map ((spansP cols).map cD) [3] (fun d => match d with | .tup [.int a, .int b] => .tup [.int ((endP cols).1 - a), .int ((endP cols).2 - b)] | _ => .non) (f1 := (lF ns row cols fc .no .no .no .no (.val (.int (endP cols).1)) (.val (.int (endP cols).2))).set 3 (.own false true (.lst ((spansP cols).map cD)))) (by simp [lF]) (by simp [noOwn, lF]) (by rw [List.length_map]; show _ ≤ 16777216; omega) ?_).trans rfl
  intro d hd
  obtain ⟨s, _, rfl⟩ := List.mem_map.mp hd
  simp [lcTurn, lF, cD]
/-- the words turned -/
def lT (ns : List Int) (row : List D) (cols fc : Cols) (ws : List (List Nat)) (x5l : Bool) (acc : List (List Nat)) (x7 : Slot) : Fr := lF ns row cols fc (.val (regD fc)) (.own false x5l (.lst (ws.map .str))) (.own false false (.lst (acc.map .str))) x7 (.val (.int (endP cols).1)) (.val (.int (endP cols).2))
theorem e_word (ns : List Int) (row : List D) (cols fc : Cols) (ws acc : List (List Nat)) (w : List Nat) (hw : ∀ c ∈ w, c = 76 ∨ c = 82) (hl : w.length ≤ 1000) :
    ev ⟨callK tb 39⟩ q_law_2 (lT ns row cols fc ws true acc (.val (.str w))) = .ok (.o (.lst ((w.map swC).map fun c => .str [c]))) (lT ns row cols fc ws true acc (.val (.str w))) := by
  have e : ((w.map swC).map fun c => D.str [c]) = (w.map fun c => D.str [c]).map fun d => match d with | .str [c] => .str [swC c] | _ => .non := by
    rw [List.map_map, List.map_map]; rfl
  rw [e]
  refine (lc_map (w.map fun c => D.str [c]) [] (fun d => match d with | .str [c] => .str [swC c] | _ => .non) (f1 := lT ns row cols fc ws true acc (.val (.str w))) (by simp [lT, lF]) (by simp [noOwn, lT, lF]) (by rw [List.length_map]; show _ ≤ 16777216; omega) ?_).trans rfl
  intro d hd
  obtain ⟨c, hc, rfl⟩ := List.mem_map.mp hd
  rcases hw c hc with rfl | rfl <;> simp [lcTurn, lT, lF, swC]
theorem loop (ns : List Int) (row : List D) (cols fc : Cols) (ws : List (List Nat)) (hws : ∀ w ∈ ws, (∀ c ∈ w, c = 76 ∨ c = 82) ∧ w.length ≤ 1000) (hl : ws.length ≤ 10000) (x7 : Slot) (h7 : Vs x7) :
    ∃ y7, Vs y7 ∧ frGo (.nm 7) (exCs ⟨callK tb 39⟩ l_law_3) (ws.map .str) (lT ns row cols fc ws true [] x7) = .nxt (lT ns row cols fc ws true (ws.map fun w => w.map swC) y7) := by
  obtain ⟨y, hy, e⟩ := frGo_app (t := .nm 7) (b := exCs ⟨callK tb 39⟩ l_law_3) 10000 (fun (acc : List (List Nat)) (x : Slot) => lT ns row cols fc ws true acc x) Vs (fun _ (w : List Nat) => .val (.str w)) (fun w => [w.map swC]) .str ws [] x7 h7 (by
      have : (ws.flatMap fun w => [w.map swC]).length = ws.length := by
        clear hl hws
        induction ws with
        | nil => rfl
        | cons a l ih => rw [List.flatMap_cons, List.length_append, ih]; simp; omega
      rw [this]; simpa using hl) (by
      rintro acc x w _ hx
      rcases hx with rfl | ⟨_, rfl⟩ <;> simp [lT, lF]) (by
      rintro acc x w hw hx hl
      obtain ⟨h1, h2⟩ := hws w hw
      have q := e_word ns row cols fc ws acc w h1 h2
      have hj : mD "join" (.v (.str [])) [.o (.lst ((w.map swC).map fun c => D.str [c]))] = some (.v (.str (w.map swC))) := by
        have := join_chars (w.map swC)
        rwa [if_pos (by rw [List.length_map]; show _ ≤ 16777216; omega)] at this
      have hal : acc.length < Lm := by simp only [List.length_singleton] at hl; show _ < 16777216; omega
      refine ⟨.val (.str w), .inr ⟨_, rfl⟩, .inl ?_⟩
      simp only [lT, lF] at q ⊢
      generalize ((w.map swC).map fun c => D.str [c]) = L at *
      simp [l_law_3, q, hj, hal])
  refine ⟨y, hy, ?_⟩
  rw [e, List.nil_append]
  congr 2
  clear hl hws e
  induction ws with
  | nil => rfl
  | cons a l ih => rw [List.flatMap_cons, ih]; rfl
theorem e_rev (ns : List Int) (row : List D) (cols fc : Cols) (ws acc : List (List Nat)) (x7 : Slot) (h7 : Vs x7) (hl : ws.length ≤ 10000) :
    ev ⟨callK tb 39⟩ q_law_4 (lT ns row cols fc ws false acc x7) = .ok (.o (.lst ((ws.map List.reverse).map .str))) (lT ns row cols fc ws false acc x7) := by
  have e : (ws.map List.reverse).map D.str = (ws.map D.str).map fun d => match d with | .str w => .str w.reverse | _ => .non := by
    rw [List.map_map, List.map_map]; rfl
  rw [e]
  refine (lc_map (ws.map .str) [5] (fun d => match d with | .str w => .str w.reverse | _ => .non) (f1 := lT ns row cols fc ws true acc x7) (by simp [lT, lF]) (by rcases h7 with rfl | ⟨_, rfl⟩ <;> simp [noOwn, lT, lF]) (by rw [List.length_map]; show _ ≤ 16777216; omega) ?_).trans rfl
  intro d hd
  obtain ⟨w, hw, rfl⟩ := List.mem_map.mp hd
  rcases h7 with rfl | ⟨_, rfl⟩ <;> simp [lcTurn, lT, lF]
theorem law_true (ns : List Int) (hn : ns.length ≤ 63) : ∃ outs, callK tb 40 "law" [.val (.lst (ns.map .int))] = .ok (.v (.bl true)) outs := by
  obtain ⟨row1, cols, hr1, hG, hp, hl, e1⟩ := c_law_region 37 ns _ (row0 ns 4751) 6 6 (by omega) (by omega)
  have g : Reg cols := ⟨hG.mono (by omega), hp, by omega⟩
  obtain ⟨row2, fc, m, hr2, fG, fp, fl, e2⟩ := c_law_few 36 ns row1 hr1 100
  have gf : Reg fc := ⟨fG.mono (by omega), fp, by omega⟩
  have hes := gf.end_sum
  obtain ⟨c, hc1, hc2, hc3⟩ := gf.last
  have hb := (fG.all c (List.mem_of_getElem? hc2))
  have hbig : (endP fc).1 + (endP fc).2 ≤ 8 := by rw [hc3]; simp only; omega
  have hcount : ∀ {cols : Cols}, Reg cols → (endP cols).1 + (endP cols).2 ≤ 8 → (listP cols).length ≤ 256 := fun {cols} g h => by
    have h2 := lev_len (cols := cols) ((endP cols).1 + (endP cols).2).toNat
    have h3 : 2 ^ ((endP cols).1 + (endP cols).2).toNat ≤ 2 ^ 8 := Nat.pow_le_pow_right (by decide) (by omega)
    unfold listP
    rw [List.length_map]
    omega
  have hll := hcount gf hbig
  have e3 := c_law_plays 37 fc gf (by omega)
  have e4 := c_law_spans 38 cols g
  have e5 := c_flipped 34 cols g
  have e6 := c_backward 34 cols g
  have e7 := c_law_region_of 38 (flX cols) (fl_reg g)
  have e8 := c_law_region_of 38 (bkX cols) (bk_reg g)
  have hpl : ∀ {cols : Cols}, Reg cols → (endP cols).1 + (endP cols).2 ≤ 8 → callK tb 39 "plays" [.val (regD cols)] = .ok (.o (.lst ((listP cols).map .str))) [.val (regD cols)] := fun {cols} g h => c_plays 34 cols g (by have := hcount g h; rw [← listP_len g]; omega)
  have e9 := hpl (fl_reg gf) (by rw [fl_end gf]; simp only; omega)
  have e10 := hpl (bk_reg gf) (by rw [bk_end gf]; omega)
  have e11 := c_flipped 34 fc gf
  have e12 := c_backward 34 fc gf
  have e13 := c_flipped 34 (flX cols) (fl_reg g)
  have e14 := c_backward 34 (bkX cols) (bk_reg g)
  have e15 := c_backward 34 (flX cols) (fl_reg g)
  have e16 := c_flipped 34 (bkX cols) (bk_reg g)
  rw [fl_fl g] at e13
  rw [bk_bk g] at e14
  rw [bk_fl g] at e15
  have a1 := alikeR 34 (flX cols) (fl_reg g)
  have a2 := alikeR 34 (bkX cols) (bk_reg g)
  have so1 := sorted_C ((spansP cols).map swS)
  rw [spans_fl g] at so1
  have so2 := sorted_C ((spansP cols).map (tnS cols))
  rw [spans_bk g] at so2
  have so3 := sorted_fl gf
  have so4 := sorted_bk gf
  have n1 := V_neS (listP (flX fc))
  have n2 := V_neS (listP (bkX fc))
  have n3 := (V_same (d := regD cols) (by have := dpt_reg cols; omega)).1
  have n4 := (V_same (d := regD (flX (bkX cols))) (by have := dpt_reg (flX (bkX cols)); omega)).1
  have hlast : (spansP cols).getLast? = some (endP cols) := by
    obtain ⟨c, hc1, hc2, hc3⟩ := g.last
    have := spX_last (n := 0) hc1 (hG.all c (List.mem_of_getElem? hc2)).2.1
    rw [hc3, show ((cols.length : Int) - 1, c.2) = (0 + (cols.length : Int) - 1, c.2) by rw [Int.zero_add]]
    exact this
  have hat : atD ((spansP cols).map cD) (-1) = some (.tup [.int (endP cols).1, .int (endP cols).2]) := atD_last (by rw [List.getLast?_map, hlast]; rfl)
  have q0 := e_fl g ns row1 fc
  have q1 := e_bk g ns row1 fc
  have hws : ∀ w ∈ listP fc, (∀ c ∈ w, c = 76 ∨ c = 82) ∧ w.length ≤ 1000 := fun w hw => by
    have hk := (mem_listP gf).mp hw
    exact ⟨hk.mem, by have := (gf.word_len hk).1; omega⟩
  obtain ⟨y7, h7, e17⟩ := loop ns row2 cols fc (listP fc) hws (by omega) .no (.inl rfl)
  have q4 := e_rev ns row2 cols fc (listP fc) ((listP fc).map fun w => w.map swC) y7 h7 (by omega)
  have hu : unlk (lT ns row2 cols fc (listP fc) true ((listP fc).map fun w => w.map swC) y7) [5] = lT ns row2 cols fc (listP fc) false ((listP fc).map fun w => w.map swC) y7 := rfl
  simp only [show (37 : Nat) + 2 = 39 from rfl, show (36 : Nat) + 3 = 39 from rfl, show (34 : Nat) + 5 = 39 from rfl, show (38 : Nat) + 1 = 39 from rfl] at e1 e2 e3 e4 e5 e6 e7 e8 e11 e12 e13 e14 e15 e16 a1 a2
  refine ⟨[.val (.lst (ns.map .int))], ?_⟩
  rw [show (40 : Nat) = 39 + 1 from rfl, callK_def (fd := f_law) rfl rfl]
  simp only [lT, lF, List.map_nil] at q0 q1 e17 q4 hu
  simp [-List.map_map, f_law, b_law, e1, e4, e5, q0, so1, e7, a1, hat, e6, q1, so2, e8, a2, e2, e3, e17, hu, e11, e9, so3, n1, e12, e10, q4, so4, n2, e13, n3, e14, e15, e16, n4]
end K51

open PySem PySem.W PyProof.Rows
set_option maxHeartbeats 0 in
theorem PySem.Challenge.cw_keylanes_k51_whole_turned_regions_holds : PySem.Challenge.rw_keylanes_k51_whole_turned_regions.Holds := by
  w_on; o_law; k_head; (case hw => w_witness2)
  k_fill
  refine L2.walk_of (l := PySem.Challenge.rw_keylanes_k51_whole_turned_regions) (n := 63) (k := 40) (x := "_law_script") (CX := fun _ => L2.CX0) (sp := fun w => VI.spL _) rfl (by decide) rfl ⟨rfl, by decide, by decide⟩ (fun w h Y => PySem.W.kIn_of Y) ?F (fun _ _ a ns hl _ hS => ⟨a, ns, rfl, hS, hl, fun _ => rfl⟩) (fun _ _ _ _ _ h => h)
  case F =>
    intro w mg fa h KX G hmg
    refine' K51.all_mk KX G hmg ?a0 ?l0 ?c0 ?k0 ?a1 ?l1 ?c1 ?k1 ?a2 ?l2 ?c2 ?k2 ?a3 ?l3 ?c3 ?k3 ?a4 ?l4 ?c4 ?k4 ?a5 ?l5 ?c5 ?k5 ?a6 ?l6 ?c6 ?k6 ?a7 ?l7 ?c7 ?k7 ?a8 ?l8 ?c8 ?k8 ?a9 ?l9 ?c9 ?k9 ?a10 ?l10 ?c10 ?k10 ?a11 ?l11 ?c11 ?k11 ?a12 ?l12 ?c12 ?k12 ?a13 ?l13 ?c13 ?k13 ?a14 ?l14 ?c14 ?k14 ?a15 ?l15 ?c15 ?k15 ?a16 ?l16 ?c16 ?k16 ?a17 ?l17 ?c17 ?k17 ?a18 ?l18 ?c18 ?k18 ?a19 ?l19 ?c19 ?k19 ?a20 ?l20 ?c20 ?k20 ?a21 ?l21 ?c21 ?k21 ?a22 ?l22 ?c22 ?k22 ?a23 ?l23 ?c23 ?k23 ?a24 ?l24 ?c24 ?k24 ?z0 ?z1 ?z2 ?z3 ?z4 ?z5 ?z6 ?z7 ?z8 ?z9 ?z10 ?z11 ?z12 ?y0 ?y1 K51.law_true
    (case a0 => k_is)
    (case l0 => k_is)
    (case c0 => k_is)
    (case k0 => k_is)
    (case a1 => k_is)
    (case l1 => k_is)
    (case c1 => k_is)
    (case k1 => k_is)
    (case a2 => k_is)
    (case l2 => k_is)
    (case c2 => k_is)
    (case k2 => k_is)
    (case a3 => k_is)
    (case l3 => k_is)
    (case c3 => k_is)
    (case k3 => k_is)
    (case a4 => k_is)
    (case l4 => k_is)
    (case c4 => k_is)
    (case k4 => k_is)
    (case a5 => k_is)
    (case l5 => k_is)
    (case c5 => k_is)
    (case k5 => k_is)
    (case a6 => k_is)
    (case l6 => k_is)
    (case c6 => k_is)
    (case k6 => k_is)
    (case a7 => k_is)
    (case l7 => k_is)
    (case c7 => k_is)
    (case k7 => k_is)
    (case a8 => k_is)
    (case l8 => k_is)
    (case c8 => k_is)
    (case k8 => k_is)
    (case a9 => k_is)
    (case l9 => k_is)
    (case c9 => k_is)
    (case k9 => k_is)
    (case a10 => k_is)
    (case l10 => k_is)
    (case c10 => k_is)
    (case k10 => k_is)
    (case a11 => k_is)
    (case l11 => k_is)
    (case c11 => k_is)
    (case k11 => k_is)
    (case a12 => k_is)
    (case l12 => k_is)
    (case c12 => k_is)
    (case k12 => k_is)
    (case a13 => k_is)
    (case l13 => k_is)
    (case c13 => k_is)
    (case k13 => k_is)
    (case a14 => k_is)
    (case l14 => k_is)
    (case c14 => k_is)
    (case k14 => k_is)
    (case a15 => k_is)
    (case l15 => k_is)
    (case c15 => k_is)
    (case k15 => k_is)
    (case a16 => k_is)
    (case l16 => k_is)
    (case c16 => k_is)
    (case k16 => k_is)
    (case a17 => k_is)
    (case l17 => k_is)
    (case c17 => k_is)
    (case k17 => k_is)
    (case a18 => k_is)
    (case l18 => k_is)
    (case c18 => k_is)
    (case k18 => k_is)
    (case a19 => k_is)
    (case l19 => k_is)
    (case c19 => k_is)
    (case k19 => k_is)
    (case a20 => k_is)
    (case l20 => k_is)
    (case c20 => k_is)
    (case k20 => k_is)
    (case a21 => k_is)
    (case l21 => k_is)
    (case c21 => k_is)
    (case k21 => k_is)
    (case a22 => k_is)
    (case l22 => k_is)
    (case c22 => k_is)
    (case k22 => k_is)
    (case a23 => k_is)
    (case l23 => k_is)
    (case c23 => k_is)
    (case k23 => k_is)
    (case a24 => k_is)
    (case l24 => k_is)
    (case c24 => k_is)
    (case k24 => k_is)
    (case z0 => k_is)
    (case z1 => k_is)
    (case z2 => k_is)
    (case z3 => k_is)
    (case z4 => k_is)
    (case z5 => k_is)
    (case z6 => k_is)
    (case z7 => k_is)
    (case z8 => k_is)
    (case z9 => k_is)
    (case z10 => k_is)
    (case z11 => k_is)
    (case z12 => k_is)
    (case y0 => k_is)
    (case y1 => k_is)
