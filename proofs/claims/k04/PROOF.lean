import PyProof.Rows.All
import Wide.All
import OpenK.AllK
import Wide.FinOn
import HandS.ForMost
import HandS.ForSpec
import HandS.CallSlots
import HandS.Flow
import HandS.TupAny
import HandS.IsInst
import HandS.Style
import HandS.Codes
import HandS.Deep
import HandS.RaiseMore
import HandS.More
import HandS.Dict
import HandS.Iter
import HandS.Zip
import HandS.Rev
import HandS.Comp
import HandS.NoneIn
import HandS.Small
import HandS.WordsExc
import PySem.Challenge.RW_keepersnotes_k04_whole_broken_sentences
set_option Elab.async false
set_option linter.all false
set_option maxRecDepth 100000
section
/-! Den, part A: data, owned trees, the algebra of what is owned and shared over the abstract heap. -/
namespace Den
open PySem L2

/-- plain data: what is shared and never changes -/
inductive D where
  | non | bl (b : Bool) | int (i : Int) | str (x : Str)
  | tup (ds : List D) | lst (ds : List D)
  | wls (ds : List D)
  | dic (kvs : List (D × D))
  | obj (c : Nat) (fs : List (Str × D))
  | xd (fs : List (Str × D))
  deriving Inhabited
/-- what a name holds: shared data, or an object of its own -/
inductive O where
  | sh (d : D)
  | lst (os : List O) | tup (os : List O)
  | dic (kvs : List (D × O))
  | obj (c : Nat) (fs : List (Str × O))
  deriving Inhabited

/-- what stands through a whole law: the program, its world, the written part, where its classes stand -/
structure Gb where
  prog : Program
  w : World
  K : PySem.W.Frag
  cls : Nat → Addr

def kD : Key → D
  | .inl i => .int i
  | .inr x => .str x

mutual
inductive Rep (Γ : Gb) (S : Hp) : V → D → Prop
  | non : Rep Γ S .non .non
  | bl (b : Bool) : Rep Γ S (.bl b) (.bl b)
  | int (i : Int) : Rep Γ S (.int i) (.int i)
  | str (x : Str) : Rep Γ S (.str x) (.str x)
  | tup {a : Addr} {xs : List V} {ds : List D} : SqT Γ.K S a xs → RepL Γ S xs ds → Rep Γ S (.ref a) (.tup ds)
  | lst {a : Addr} {xs : List V} {ds : List D} : S a = some (.lst xs) → RepL Γ S xs ds → Rep Γ S (.ref a) (.lst ds)
  | wls {a : Addr} {xs : List V} {ds : List D} : SqL Γ.K S a xs → RepL Γ S xs ds → Rep Γ S (.ref a) (.wls ds)
  | dic {a : Addr} {kvs : List (Key × V)} {dkvs : List (D × D)} : S a = some (.dK kvs) → dkvs.map Prod.fst = kvs.map (fun p => kD p.1) → RepL Γ S (kvs.map Prod.snd) (dkvs.map Prod.snd) → Rep Γ S (.ref a) (.dic dkvs)
  | obj {a dx : Addr} {c : Nat} {vs : List (Str × V)} {fs : List (Str × D)} : S a = some (.ins (Γ.cls c) dx vs) → fs.map Prod.fst = vs.map Prod.fst → RepL Γ S (vs.map Prod.snd) (fs.map Prod.snd) → Rep Γ S (.ref a) (.obj c fs)
  | xd {a : Addr} {vs : List (Str × V)} {fs : List (Str × D)} : S a = some (.xd vs) → fs.map Prod.fst = vs.map Prod.fst → RepL Γ S (vs.map Prod.snd) (fs.map Prod.snd) → Rep Γ S (.ref a) (.xd fs)
inductive RepL (Γ : Gb) (S : Hp) : List V → List D → Prop
  | nil : RepL Γ S [] []
  | cons {v : V} {vs : List V} {d : D} {ds : List D} : Rep Γ S v d → RepL Γ S vs ds → RepL Γ S (v :: vs) (d :: ds)
end

/-- not a code object's table -/
def NoT (o : HO) : Prop := ∀ ps, o ≠ .tbl ps
/-- all that S tells stands in H, and is no table -/
def Sub (S H : Hp) : Prop := ∀ a o, S a = some o → H a = some o ∧ NoT o

section
variable {Γ : Gb} {S S' H H' : Hp}
theorem rd_mono (h : ∀ a o, S a = some o → S' a = some o) {a : Addr} {u : HO} (r : Rd S a u) : Rd S' a u := by
  rcases r with r | ⟨o, r⟩
  · exact .inl (h _ _ r)
  · exact .inr ⟨o, h _ _ r⟩
theorem sqT_mono (h : ∀ a o, S a = some o → S' a = some o) {a : Addr} {xs : List V} (r : SqT Γ.K S a xs) : SqT Γ.K S' a xs := by
  rcases r with r | r
  · exact .inl (rd_mono h r)
  · exact .inr r
theorem sqL_mono (h : ∀ a o, S a = some o → S' a = some o) {a : Addr} {xs : List V} (r : SqL Γ.K S a xs) : SqL Γ.K S' a xs := by
  rcases r with r | r
  · exact .inl (rd_mono h r)
  · exact .inr r
mutual
theorem Rep.mono (h : ∀ a o, S a = some o → S' a = some o) : ∀ {v : V} {d : D}, Rep Γ S v d → Rep Γ S' v d
  | _, _, .non => .non
  | _, _, .bl b => .bl b
  | _, _, .int i => .int i
  | _, _, .str x => .str x
  | _, _, .tup hs hl => .tup (sqT_mono h hs) (RepL.mono h hl)
  | _, _, .lst hs hl => .lst (h _ _ hs) (RepL.mono h hl)
  | _, _, .wls hs hl => .wls (sqL_mono h hs) (RepL.mono h hl)
  | _, _, .dic ha hk hl => .dic (h _ _ ha) hk (RepL.mono h hl)
  | _, _, .obj ha hk hl => .obj (h _ _ ha) hk (RepL.mono h hl)
  | _, _, .xd ha hk hl => .xd (h _ _ ha) hk (RepL.mono h hl)
theorem RepL.mono (h : ∀ a o, S a = some o → S' a = some o) : ∀ {vs : List V} {ds : List D}, RepL Γ S vs ds → RepL Γ S' vs ds
  | _, _, .nil => .nil
  | _, _, .cons r t => .cons (Rep.mono h r) (RepL.mono h t)
end
end

mutual
inductive OR (Γ : Gb) (S H : Hp) : V → O → List Addr → Prop
  | sh {v : V} {d : D} : Rep Γ S v d → OR Γ S H v (.sh d) []
  | lst {a : Addr} {rs : List (V × O)} {os : List O} {F : List Addr} : H a = some (.lst (rs.map Prod.fst)) → ORL Γ S H rs F → os = rs.map Prod.snd → OR Γ S H (.ref a) (.lst os) (a :: F)
  | tup {a : Addr} {rs : List (V × O)} {os : List O} {F : List Addr} : H a = some (.tup (rs.map Prod.fst)) → ORL Γ S H rs F → os = rs.map Prod.snd → OR Γ S H (.ref a) (.tup os) (a :: F)
  | dic {a : Addr} {kvs : List (Key × V)} {dkvs : List (D × O)} {rs : List (V × O)} {F : List Addr} : H a = some (.dK kvs) → dkvs.map Prod.fst = kvs.map (fun p => kD p.1) → kvs.map Prod.snd = rs.map Prod.fst → dkvs.map Prod.snd = rs.map Prod.snd →
      ORL Γ S H rs F → OR Γ S H (.ref a) (.dic dkvs) (a :: F)
  | obj {a dx : Addr} {c : Nat} {vs : List (Str × V)} {fs : List (Str × O)} {rs : List (V × O)} {F : List Addr} : H a = some (.ins (Γ.cls c) dx vs) → fs.map Prod.fst = vs.map Prod.fst → vs.map Prod.snd = rs.map Prod.fst → fs.map Prod.snd = rs.map Prod.snd →
      ORL Γ S H rs F → OR Γ S H (.ref a) (.obj c fs) (a :: F)
inductive ORL (Γ : Gb) (S H : Hp) : List (V × O) → List Addr → Prop
  | nil : ORL Γ S H [] []
  | cons {v : V} {o : O} {rs : List (V × O)} {F G : List Addr} : OR Γ S H v o F → ORL Γ S H rs G → ORL Γ S H ((v, o) :: rs) (F ++ G)
end

section
variable {Γ : Gb} {S S' H H' : Hp}
mutual
theorem OR.mono (h : ∀ a o, S a = some o → S' a = some o) : ∀ {v : V} {o : O} {F : List Addr}, OR Γ S H v o F → (∀ a ∈ F, ∀ o, H a = some o → H' a = some o) → OR Γ S' H' v o F
  | _, _, _, .sh r, _ => .sh (r.mono h)
  | _, _, _, .lst ha hl e, k => .lst (k _ (by simp) _ ha) (ORL.mono h hl fun a m => k a (by simp [m])) e
  | _, _, _, .tup ha hl e, k => .tup (k _ (by simp) _ ha) (ORL.mono h hl fun a m => k a (by simp [m])) e
  | _, _, _, .dic ha e1 e2 e3 hl, k => .dic (k _ (by simp) _ ha) e1 e2 e3 (ORL.mono h hl fun a m => k a (by simp [m]))
  | _, _, _, .obj ha e1 e2 e3 hl, k => .obj (k _ (by simp) _ ha) e1 e2 e3 (ORL.mono h hl fun a m => k a (by simp [m]))
theorem ORL.mono (h : ∀ a o, S a = some o → S' a = some o) : ∀ {rs : List (V × O)} {F : List Addr}, ORL Γ S H rs F → (∀ a ∈ F, ∀ o, H a = some o → H' a = some o) → ORL Γ S' H' rs F
  | _, _, .nil, _ => .nil
  | _, _, .cons r t, k => .cons (OR.mono h r fun a m => k a (by simp [m])) (ORL.mono h t fun a m => k a (by simp [m]))
end
mutual
/-- what is owned stands in the heap -/
theorem OR.dom : ∀ {v : V} {o : O} {F : List Addr}, OR Γ S H v o F → ∀ a ∈ F, ∃ u, H a = some u ∧ NoT u
  | _, _, _, .sh _, a, m => by cases m
  | _, _, _, .lst ha hl _, a, m => by
    rcases List.mem_cons.mp m with rfl | m
    · exact ⟨_, ha, fun ps z => by cases z⟩
    · exact ORL.dom hl a m
  | _, _, _, .tup ha hl _, a, m => by
    rcases List.mem_cons.mp m with rfl | m
    · exact ⟨_, ha, fun ps z => by cases z⟩
    · exact ORL.dom hl a m
  | _, _, _, .dic ha _ _ _ hl, a, m => by
    rcases List.mem_cons.mp m with rfl | m
    · exact ⟨_, ha, fun ps z => by cases z⟩
    · exact ORL.dom hl a m
  | _, _, _, .obj ha _ _ _ hl, a, m => by
    rcases List.mem_cons.mp m with rfl | m
    · exact ⟨_, ha, fun ps z => by cases z⟩
    · exact ORL.dom hl a m
theorem ORL.dom : ∀ {rs : List (V × O)} {F : List Addr}, ORL Γ S H rs F → ∀ a ∈ F, ∃ u, H a = some u ∧ NoT u
  | _, _, .nil, a, m => by cases m
  | _, _, .cons r t, a, m => by
    rcases List.mem_append.mp m with m | m
    · exact OR.dom r a m
    · exact ORL.dom t a m
end
theorem ORL.append : ∀ {rs rs' : List (V × O)} {F G : List Addr}, ORL Γ S H rs F → ORL Γ S H rs' G → ORL Γ S H (rs ++ rs') (F ++ G)
  | _, _, _, _, .nil, s => s
  | _, _, _, _, .cons r t, s => by
    rw [List.append_assoc]
    exact .cons r (ORL.append t s)
theorem ORL.split : ∀ {rs rs' : List (V × O)} {F : List Addr}, ORL Γ S H (rs ++ rs') F → ∃ F1 F2, F = F1 ++ F2 ∧ ORL Γ S H rs F1 ∧ ORL Γ S H rs' F2
  | [], rs', F, h => ⟨[], F, rfl, .nil, h⟩
  | (v, o) :: rs, rs', F, h => by
    cases h with
    | cons r t =>
      obtain ⟨F1, F2, rfl, a, b⟩ := ORL.split t
      exact ⟨_, F2, (List.append_assoc _ _ _).symm, .cons r a, b⟩
theorem ORL.perm {rs rs' : List (V × O)} (p : rs.Perm rs') : ∀ {F : List Addr}, ORL Γ S H rs F → ∃ F', ORL Γ S H rs' F' ∧ F.Perm F' := by
  induction p with
  | nil => exact fun h => ⟨_, h, .refl _⟩
  | cons x _ ih =>
    intro F h
    cases h with
    | cons r t =>
      obtain ⟨F', h', q⟩ := ih t
      exact ⟨_, .cons r h', q.append_left _⟩
  | swap x y l =>
    intro F h
    cases h with
    | cons r t =>
      cases t with
      | cons r2 t2 =>
        refine ⟨_, .cons r2 (.cons r t2), ?_⟩
        rw [← List.append_assoc, ← List.append_assoc]
        exact List.Perm.append_right _ List.perm_append_comm
  | trans _ _ i1 i2 =>
    intro F h
    obtain ⟨F1, h1, p1⟩ := i1 h
    obtain ⟨F2, h2, p2⟩ := i2 h1
    exact ⟨F2, h2, p1.trans p2⟩
end

/-- where a def began: what was shared, the heap, what was owned -/
structure Ent where
  S : Hp
  H : Hp
  F : List Addr
structure Stp (c : Ent) (S H : Hp) (F : List Addr) : Prop where
  shr : ∀ a o, c.S a = some o → S a = some o
  frm : ∀ a o, c.H a = some o → NoT o → a ∉ c.F → H a = some o
  dom : ∀ a, H a = none → c.H a = none
  own : ∀ a ∈ F, a ∈ c.F ∨ c.H a = none
  sgr : ∀ a, S a ≠ none → c.S a ≠ none ∨ a ∈ c.F ∨ c.H a = none
/-- the resources R are held, from c on; besides the bare cells L -/
def RSL (Γ : Gb) (c : Ent) (R : List (V × O)) (L : List Addr) (H : Hp) : Prop :=
  ∃ S F, Stp c S H (F ++ L) ∧ ORL Γ S H R F ∧ (F ++ L).Nodup ∧ (∀ a ∈ F ++ L, S a = none) ∧ Sub S H ∧ ∀ a ∈ L, ∃ u, H a = some u ∧ NoT u
def RS (Γ : Gb) (c : Ent) (R : List (V × O)) (H : Hp) : Prop := RSL Γ c R [] H

theorem ORL.mem {Γ : Gb} {H : Hp} {S : Hp} : ∀ {R : List (V × O)} {F : List Addr}, ORL Γ S H R F → ∀ {p : V × O}, p ∈ R → ∃ G, OR Γ S H p.1 p.2 G ∧ ∀ a ∈ G, a ∈ F
  | _, _, .nil, p, m => by cases m
  | _, _, .cons r t, p, m => by
    rcases List.mem_cons.mp m with rfl | m
    · exact ⟨_, r, fun a z => by simp [z]⟩
    · obtain ⟨G, x, y⟩ := ORL.mem t m
      exact ⟨G, x, fun a z => by simp [y a z]⟩

theorem Stp.mem {c : Ent} {S H : Hp} {F G : List Addr} (h : Stp c S H F) (k : ∀ a ∈ G, a ∈ F) : Stp c S H G := ⟨h.shr, h.frm, h.dom, fun a m => h.own a (k a m), h.sgr⟩
theorem OR.ext {Γ : Gb} {S H H' : Hp} {v : V} {o : O} {F : List Addr} (r : OR Γ S H v o F) (k : ∀ a ∈ F, ∀ o, H a = some o → H' a = some o) : OR Γ S H' v o F := r.mono (fun _ _ e => e) k
theorem ORL.ext {Γ : Gb} {S H H' : Hp} {R : List (V × O)} {F : List Addr} (r : ORL Γ S H R F) (k : ∀ a ∈ F, ∀ o, H a = some o → H' a = some o) : ORL Γ S H' R F := r.mono (fun _ _ e => e) k

section
variable {Γ : Gb} {c : Ent} {R R' : List (V × O)} {L : List Addr} {H : Hp} {v : V} {o : O} {d : D}
theorem RSL.perm (h : RSL Γ c R L H) (p : R.Perm R') : RSL Γ c R' L H := by
  obtain ⟨S, F, st, r, nd, dj, sb, lc⟩ := h
  obtain ⟨F', r', q⟩ := r.perm p
  have q' : (F ++ L).Perm (F' ++ L) := q.append_right L
  exact ⟨S, F', st.mem fun a m => q'.mem_iff.mpr m, r', q'.nodup_iff.mp nd, fun a m => dj a (q'.mem_iff.mpr m), sb, lc⟩
theorem RS.perm (h : RS Γ c R H) (p : R.Perm R') : RS Γ c R' H := RSL.perm h p
theorem RS.dropL (h : RS Γ c (R ++ R') H) : RS Γ c R' H := by
  obtain ⟨S, F, st, r, nd, dj, sb, lc⟩ := h
  obtain ⟨F1, F2, rfl, _, r2⟩ := r.split
  have k : ∀ a, a ∈ F2 ++ [] → a ∈ (F1 ++ F2) ++ [] := fun a m => by simp at m ⊢; exact .inr m
  exact ⟨S, F2, st.mem k, r2, by simp at nd ⊢; exact (List.nodup_append.mp nd).2.1, fun a m => dj a (k a m), sb, lc⟩
theorem RS.drop (h : RS Γ c ((v, o) :: R) H) : RS Γ c R H := RS.dropL (R := [(v, o)]) h
theorem RS.dropR (h : RS Γ c (R ++ R') H) : RS Γ c R H := RS.dropL (h.perm List.perm_append_comm)
/-- plain data that stands in each shared heap -/
theorem RS.pure (h : RS Γ c R H) (r : ∀ S, Rep Γ S v d) : RS Γ c ((v, .sh d) :: R) H := by
  obtain ⟨S, F, st, q, nd, dj, sb, lc⟩ := h
  exact ⟨S, F, st, .cons (F := []) (.sh (r S)) q, nd, dj, sb, lc⟩
/-- what is held may be read -/
theorem RepL.orl {S H : Hp} : ∀ {xs : List V} {ds : List D}, RepL Γ S xs ds → ORL Γ S H (xs.zip (ds.map O.sh)) []
  | _, _, .nil => .nil
  | _, _, .cons r t => .cons (F := []) (G := []) (.sh r) (RepL.orl t)
theorem RS.readS (h : RS Γ c R H) : ∃ S, Sub S H ∧ (∀ p ∈ R, ∃ F, OR Γ S H p.1 p.2 F) ∧ (∀ w e, Rep Γ S w e → RS Γ c ((w, .sh e) :: R) H) ∧ ∀ xs ds, RepL Γ S xs ds → RS Γ c (xs.zip (ds.map O.sh) ++ R) H := by
  obtain ⟨S, F, st, q, nd, dj, sb, lc⟩ := h
  refine ⟨S, sb, fun p m => ?_, fun w e r => ⟨S, F, st, .cons (F := []) (.sh r) q, nd, dj, sb, lc⟩, fun xs ds r => ⟨S, F, st, r.orl.append q, nd, dj, sb, lc⟩⟩
  obtain ⟨G, x, _⟩ := q.mem m
  exact ⟨G, x⟩
/-- what is shared may be had again -/
theorem RS.dup (h : RS Γ c R H) (m : (v, O.sh d) ∈ R) : RS Γ c ((v, .sh d) :: R) H := by
  obtain ⟨S, sb, rd, ad, _⟩ := h.readS
  obtain ⟨F, x⟩ := rd _ m
  cases x with
  | sh r => exact ad _ _ r
theorem sub_free {S : Hp} (sb : Sub S H) {p : Addr} (hp : H p = none) : S p = none := by
  cases e : S p with
  | none => rfl
  | some o =>
    have z := (sb p o e).1
    rw [hp] at z
    cases z
/-- a new cell -/
theorem RS.new (h : RS Γ c R H) {p : Addr} (hp : H p = none) {u : HO} (hu : NoT u) : RSL Γ c R [p] (upd H p u) := by
  obtain ⟨S, F, st, q, nd, dj, sb, lc⟩ := h
  rw [List.append_nil] at st nd dj
  have nF : ∀ a ∈ F, a ≠ p := fun a m e => by
    obtain ⟨u, hu, _⟩ := q.dom a m
    rw [e, hp] at hu
    cases hu
  have nS : S p = none := sub_free sb hp
  have keep : ∀ a o, H a = some o → upd H p u a = some o := fun a o e => by
    rw [upd_ne (ne_of_none e hp)]
    exact e
  refine ⟨S, F, ⟨st.shr, fun a o e n m => keep a o (st.frm a o e n m), fun a e => ?_, fun a m => ?_, st.sgr⟩, q.ext fun a m o e => keep a o e, ?_, fun a m => ?_, fun a o e => ⟨keep a o (sb a o e).1, (sb a o e).2⟩, fun a m => ?_⟩
  · by_cases ha : a = p
    · rw [ha, upd_same] at e
      cases e
    · rw [upd_ne ha] at e
      exact st.dom a e
  · rcases List.mem_append.mp m with m | m
    · exact st.own a m
    · rw [List.mem_singleton.mp m]
      exact .inr (st.dom p hp)
  · exact List.nodup_append.mpr ⟨nd, by simp, fun a m b m' => by rw [List.mem_singleton.mp m']; exact nF a m⟩
  · rcases List.mem_append.mp m with m | m
    · exact dj a m
    · rw [List.mem_singleton.mp m]
      exact nS
  · rw [List.mem_singleton.mp m]
    exact ⟨u, upd_same, hu⟩
/-- an owned object is opened: its cell alone, what it holds besides -/
theorem RSL.put {a : Addr} (h : RSL Γ c R [a] H) {u : HO} (hu : NoT u) : RSL Γ c R [a] (upd H a u) := by
  obtain ⟨S, F, st, q, nd, dj, sb, lc⟩ := h
  have nS : S a = none := dj a (by simp)
  have nF : ∀ b ∈ F, b ≠ a := fun b m e => (List.nodup_append.mp nd).2.2 b m a (by simp) e
  have keep : ∀ b o, b ≠ a → H b = some o → upd H a u b = some o := fun b o n e => by
    rw [upd_ne n]
    exact e
  refine ⟨S, F, ⟨st.shr, fun b o e n m => keep b o (fun z => ?_) (st.frm b o e n m), fun b e => ?_, st.own, st.sgr⟩, q.ext fun b m o e => keep b o (nF b m) e, nd, dj, fun b o e => ⟨keep b o (fun z => ?_) (sb b o e).1, (sb b o e).2⟩, fun b m => ?_⟩
  · rcases st.own a (by simp) with w | w
    · exact m (z ▸ w)
    · rw [z, w] at e
      cases e
  · by_cases hb : b = a
    · rw [hb, upd_same] at e
      cases e
    · rw [upd_ne hb] at e
      exact st.dom b e
  · rw [z, nS] at e
    cases e
  · rw [List.mem_singleton.mp m]
    exact ⟨u, upd_same, hu⟩
theorem RSL.close {a : Addr} {rs : List (V × O)} (h : RSL Γ c (rs ++ R) [a] H) (k : ∀ (S : Hp) (F : List Addr), ORL Γ S H rs F → OR Γ S H (.ref a) o (a :: F)) : RS Γ c ((.ref a, o) :: R) H := by
  obtain ⟨S, F, st, q, nd, dj, sb, lc⟩ := h
  obtain ⟨F1, F2, rfl, r1, r2⟩ := q.split
  have p : ((F1 ++ F2) ++ [a]).Perm (((a :: F1) ++ F2) ++ []) := by
    rw [List.append_nil]
    exact List.perm_append_comm
  exact ⟨S, (a :: F1) ++ F2, st.mem fun b m => p.mem_iff.mpr m, .cons (k S F1 r1) r2, p.nodup_iff.mp nd, fun b m => dj b (p.mem_iff.mpr m), sb, fun b m => by cases m⟩
theorem RS.opens (h : RS Γ c ((v, o) :: R) H) {a : Addr} {P : List (V × O) → Prop} (k : ∀ (S : Hp) (F : List Addr), OR Γ S H v o F → ∃ rs F', F = a :: F' ∧ ORL Γ S H rs F' ∧ P rs ∧ ∃ u, H a = some u ∧ NoT u) : ∃ rs, P rs ∧ RSL Γ c (rs ++ R) [a] H := by
  obtain ⟨S, F, st, q, nd, dj, sb, lc⟩ := h
  cases q with
  | cons r t =>
    rename_i F1 F2
    obtain ⟨rs, F', rfl, r', pr, hu⟩ := k S F1 r
    have p : (((a :: F') ++ F2) ++ []).Perm ((F' ++ F2) ++ [a]) := by
      rw [List.append_nil]
      exact List.perm_append_comm (l₁ := [a])
    exact ⟨rs, pr, S, F' ++ F2, st.mem fun b m => p.mem_iff.mpr m, r'.append t, p.nodup_iff.mp nd, fun b m => dj b (p.mem_iff.mpr m), sb, fun b m => by rw [List.mem_singleton.mp m]; exact hu⟩
end

/-! ### lists, tuples, dicts: made, opened, closed -/
section
variable {Γ : Gb} {c : Ent} {R : List (V × O)} {H : Hp} {v : V} {o : O}
theorem noT_lst {xs : List V} : NoT (.lst xs) := fun _ z => by cases z
theorem noT_tup {xs : List V} : NoT (.tup xs) := fun _ z => by cases z
theorem noT_dK {kvs : List (Key × V)} : NoT (.dK kvs) := fun _ z => by cases z
theorem RSL.closeL {a : Addr} {rs : List (V × O)} (h : RSL Γ c (rs ++ R) [a] H) (ha : H a = some (.lst (rs.map Prod.fst))) : RS Γ c ((.ref a, .lst (rs.map Prod.snd)) :: R) H :=
  h.close fun _ _ q => .lst ha q rfl
theorem RSL.closeT {a : Addr} {rs : List (V × O)} (h : RSL Γ c (rs ++ R) [a] H) (ha : H a = some (.tup (rs.map Prod.fst))) : RS Γ c ((.ref a, .tup (rs.map Prod.snd)) :: R) H :=
  h.close fun _ _ q => .tup ha q rfl
theorem noT_ins {C dx : Addr} {fs : List (Str × V)} : NoT (.ins C dx fs) := fun _ z => by cases z
theorem RSL.closeO {a dx : Addr} {n : Nat} {rs : List (V × O)} {vs : List (Str × V)} {fs : List (Str × O)} (h : RSL Γ c (rs ++ R) [a] H) (ha : H a = some (.ins (Γ.cls n) dx vs)) (e1 : fs.map Prod.fst = vs.map Prod.fst) (e2 : vs.map Prod.snd = rs.map Prod.fst)
    (e3 : fs.map Prod.snd = rs.map Prod.snd) : RS Γ c ((.ref a, .obj n fs) :: R) H := h.close fun _ _ q => .obj ha e1 e2 e3 q
theorem RSL.closeD {a : Addr} {rs : List (V × O)} {kvs : List (Key × V)} {dkvs : List (D × O)} (h : RSL Γ c (rs ++ R) [a] H) (ha : H a = some (.dK kvs)) (e1 : dkvs.map Prod.fst = kvs.map (fun p => kD p.1)) (e2 : kvs.map Prod.snd = rs.map Prod.fst)
    (e3 : dkvs.map Prod.snd = rs.map Prod.snd) : RS Γ c ((.ref a, .dic dkvs) :: R) H := h.close fun _ _ q => .dic ha e1 e2 e3 q
theorem RS.newL {rs : List (V × O)} (h : RS Γ c (rs ++ R) H) {p : Addr} (hp : H p = none) : RS Γ c ((.ref p, .lst (rs.map Prod.snd)) :: R) (upd H p (.lst (rs.map Prod.fst))) :=
  (h.new hp noT_lst).closeL upd_same
theorem RS.newT {rs : List (V × O)} (h : RS Γ c (rs ++ R) H) {p : Addr} (hp : H p = none) : RS Γ c ((.ref p, .tup (rs.map Prod.snd)) :: R) (upd H p (.tup (rs.map Prod.fst))) :=
  (h.new hp noT_tup).closeT upd_same
theorem RS.newD {rs : List (V × O)} {kvs : List (Key × V)} {dkvs : List (D × O)} (h : RS Γ c (rs ++ R) H) {p : Addr} (hp : H p = none) (e1 : dkvs.map Prod.fst = kvs.map (fun p => kD p.1)) (e2 : kvs.map Prod.snd = rs.map Prod.fst)
    (e3 : dkvs.map Prod.snd = rs.map Prod.snd) : RS Γ c ((.ref p, .dic dkvs) :: R) (upd H p (.dK kvs)) := (h.new hp noT_dK).closeD upd_same e1 e2 e3
theorem RS.openL {os : List O} (h : RS Γ c ((v, .lst os) :: R) H) : ∃ a rs, v = .ref a ∧ os = rs.map Prod.snd ∧ H a = some (.lst (rs.map Prod.fst)) ∧ RSL Γ c (rs ++ R) [a] H := by
  obtain ⟨S, sb, rd, _⟩ := h.readS
  obtain ⟨F, x⟩ := rd _ List.mem_cons_self
  cases x with
  | @lst a _ _ _ ha hl e =>
    obtain ⟨rs, ⟨p1, p2⟩, q⟩ := h.opens (a := a) (P := fun rs => os = rs.map Prod.snd ∧ H a = some (.lst (rs.map Prod.fst))) fun S F x => by
      cases x with
      | lst ha hl e => exact ⟨_, _, rfl, hl, ⟨e, ha⟩, _, ha, noT_lst⟩
    exact ⟨a, rs, rfl, p1, p2, q⟩
theorem RS.openT {os : List O} (h : RS Γ c ((v, .tup os) :: R) H) : ∃ a rs, v = .ref a ∧ os = rs.map Prod.snd ∧ H a = some (.tup (rs.map Prod.fst)) ∧ RSL Γ c (rs ++ R) [a] H := by
  obtain ⟨S, sb, rd, _⟩ := h.readS
  obtain ⟨F, x⟩ := rd _ List.mem_cons_self
  cases x with
  | @tup a _ _ _ ha hl e =>
    obtain ⟨rs, ⟨p1, p2⟩, q⟩ := h.opens (a := a) (P := fun rs => os = rs.map Prod.snd ∧ H a = some (.tup (rs.map Prod.fst))) fun S F x => by
      cases x with
      | tup ha hl e => exact ⟨_, _, rfl, hl, ⟨e, ha⟩, _, ha, noT_tup⟩
    exact ⟨a, rs, rfl, p1, p2, q⟩
theorem RS.openD {dkvs : List (D × O)} (h : RS Γ c ((v, .dic dkvs) :: R) H) : ∃ a rs kvs, v = .ref a ∧ H a = some (.dK kvs) ∧ dkvs.map Prod.fst = kvs.map (fun p => kD p.1) ∧ kvs.map Prod.snd = rs.map Prod.fst ∧ dkvs.map Prod.snd = rs.map Prod.snd ∧ RSL Γ c (rs ++ R) [a] H := by
  obtain ⟨S, sb, rd, _⟩ := h.readS
  obtain ⟨F, x⟩ := rd _ List.mem_cons_self
  cases x with
  | @dic a _ _ _ _ ha e1 e2 e3 hl =>
    obtain ⟨rs, ⟨kvs, p1, p2, p3, p4⟩, q⟩ := h.opens (a := a) (P := fun rs => ∃ kvs, H a = some (.dK kvs) ∧ dkvs.map Prod.fst = kvs.map (fun p => kD p.1) ∧ kvs.map Prod.snd = rs.map Prod.fst ∧ dkvs.map Prod.snd = rs.map Prod.snd) fun S F x => by
      cases x with
      | dic ha e1 e2 e3 hl => exact ⟨_, _, rfl, hl, ⟨_, ha, e1, e2, e3⟩, _, ha, noT_dK⟩
    exact ⟨a, rs, kvs, rfl, p1, p2, p3, p4, q⟩
theorem RS.openO {n : Nat} {fs : List (Str × O)} (h : RS Γ c ((v, .obj n fs) :: R) H) : ∃ a dx rs vs, v = .ref a ∧ H a = some (.ins (Γ.cls n) dx vs) ∧ fs.map Prod.fst = vs.map Prod.fst ∧ vs.map Prod.snd = rs.map Prod.fst ∧ fs.map Prod.snd = rs.map Prod.snd ∧ RSL Γ c (rs ++ R) [a] H := by
  obtain ⟨S, sb, rd, _⟩ := h.readS
  obtain ⟨F, x⟩ := rd _ List.mem_cons_self
  cases x with
  | @obj a dx _ _ _ _ _ ha e1 e2 e3 hl =>
    obtain ⟨rs, ⟨dx, vs, p1, p2, p3, p4⟩, q⟩ := h.opens (a := a) (P := fun rs => ∃ dx vs, H a = some (.ins (Γ.cls n) dx vs) ∧ fs.map Prod.fst = vs.map Prod.fst ∧ vs.map Prod.snd = rs.map Prod.fst ∧ fs.map Prod.snd = rs.map Prod.snd) fun S F x => by
      cases x with
      | obj ha e1 e2 e3 hl => exact ⟨_, _, rfl, hl, ⟨_, _, ha, e1, e2, e3⟩, _, ha, noT_ins⟩
    exact ⟨a, dx, rs, vs, rfl, p1, p2, p3, p4, q⟩
/-- bare cells are let go -/
theorem RSL.letgo {a : Addr} (h : RSL Γ c R [a] H) : RS Γ c R H := by
  obtain ⟨S, F, st, q, nd, dj, sb, lc⟩ := h
  have k : ∀ b, b ∈ F ++ [] → b ∈ F ++ [a] := fun b m => by simp at m; simp [m]
  exact ⟨S, F, st.mem k, q, by simp; exact (List.nodup_append.mp nd).1, fun b m => dj b (k b m), sb, fun b m => by cases m⟩
end

/-! ### what was owned is shared from now on -/
mutual
def fz : O → D
  | .sh d => d
  | .lst os => .lst (fzL os)
  | .tup os => .tup (fzL os)
  | .dic kvs => .dic (fzKV kvs)
  | .obj c fs => .obj c (fzFs fs)
def fzL : List O → List D
  | [] => []
  | o :: os => fz o :: fzL os
def fzKV : List (D × O) → List (D × D)
  | [] => []
  | (k, o) :: r => (k, fz o) :: fzKV r
def fzFs : List (Str × O) → List (Str × D)
  | [] => []
  | (k, o) :: r => (k, fz o) :: fzFs r
end
theorem fzFs_map : ∀ kvs : List (Str × O), fzFs kvs = kvs.map fun p => (p.1, fz p.2)
  | [] => rfl
  | (k, o) :: r => by rw [fzFs, fzFs_map r, List.map_cons]
theorem fzL_map : ∀ os : List O, fzL os = os.map fz
  | [] => rfl
  | o :: os => by rw [fzL, fzL_map os, List.map_cons]
theorem fzKV_map : ∀ kvs : List (D × O), fzKV kvs = kvs.map fun p => (p.1, fz p.2)
  | [] => rfl
  | (k, o) :: r => by rw [fzKV, fzKV_map r, List.map_cons]
/-- S with the cells of G as they stand in H -/
def addS (S H : Hp) (G : List Addr) : Hp := fun a => if a ∈ G then H a else S a
section
variable {Γ : Gb} {S H : Hp}
theorem addS_in {G : List Addr} {a : Addr} (m : a ∈ G) : addS S H G a = H a := if_pos m
theorem addS_out {G : List Addr} {a : Addr} (m : a ∉ G) : addS S H G a = S a := if_neg m
mutual
theorem OR.fz {S' : Hp} (h : ∀ a o, S a = some o → S' a = some o) : ∀ {v : V} {o : O} {F : List Addr}, OR Γ S H v o F → (∀ a ∈ F, ∀ o, H a = some o → S' a = some o) → Rep Γ S' v (Den.fz o)
  | _, _, _, .sh r, _ => by rw [Den.fz]; exact r.mono h
  | _, _, _, .lst ha hl e, k => by
    rw [Den.fz, e]
    exact .lst (k _ (by simp) _ ha) (ORL.fz h hl fun a m => k a (by simp [m]))
  | _, _, _, .tup ha hl e, k => by
    rw [Den.fz, e]
    exact .tup (.of (k _ (by simp) _ ha)) (ORL.fz h hl fun a m => k a (by simp [m]))
  | _, _, _, .dic ha e1 e2 e3 hl, k => by
    rw [Den.fz, fzKV_map]
    refine .dic (k _ (by simp) _ ha) ?_ ?_
    · rw [List.map_map]
      exact e1
    · have q := ORL.fz h hl fun a m => k a (by simp [m])
      rw [e2, List.map_map]
      rw [fzL_map, ← e3, List.map_map] at q
      exact q
  | _, _, _, .obj ha e1 e2 e3 hl, k => by
    rw [Den.fz, fzFs_map]
    refine .obj (k _ (by simp) _ ha) ?_ ?_
    · rw [List.map_map]
      exact e1
    · have q := ORL.fz h hl fun a m => k a (by simp [m])
      rw [e2, List.map_map]
      rw [fzL_map, ← e3, List.map_map] at q
      exact q
theorem ORL.fz {S' : Hp} (h : ∀ a o, S a = some o → S' a = some o) : ∀ {rs : List (V × O)} {F : List Addr}, ORL Γ S H rs F → (∀ a ∈ F, ∀ o, H a = some o → S' a = some o) → RepL Γ S' (rs.map Prod.fst) (fzL (rs.map Prod.snd))
  | _, _, .nil, _ => by
    rw [List.map_nil, List.map_nil, fzL]
    exact .nil
  | _, _, .cons r t, k => by
    rw [List.map_cons, List.map_cons, fzL]
    exact .cons (OR.fz h r fun a m => k a (by simp [m])) (ORL.fz h t fun a m => k a (by simp [m]))
end
end
section
variable {Γ : Gb} {c : Ent} {R : List (V × O)} {H : Hp} {v : V} {o : O}
theorem RS.freeze (h : RS Γ c ((v, o) :: R) H) : RS Γ c ((v, .sh (fz o)) :: R) H := by
  obtain ⟨S, F, st, q, nd, dj, sb, lc⟩ := h
  rw [List.append_nil] at st nd dj
  cases q with
  | cons r t =>
    rename_i F1 F2
    have S1 : ∀ a o, S a = some o → addS S H F1 a = some o := fun a u e => by
      by_cases m : a ∈ F1
      · rw [addS_in m]
        exact (sb a u e).1
      · rw [addS_out m]
        exact e
    have nd2 := List.nodup_append.mp nd
    refine ⟨addS S H F1, F2, ⟨fun a u e => S1 a u (st.shr a u e), st.frm, st.dom, fun a m => st.own a (by simp at m; simp [m]), fun a e => ?_⟩, .cons (F := []) (.sh (r.fz S1 fun a m u e => ?_)) (t.mono S1 fun _ _ _ e => e), by simp; exact nd2.2.1, fun a m => ?_, fun a u e => ?_, lc⟩
    · by_cases m : a ∈ F1
      · exact (st.own a (by simp [m])).elim (fun z => .inr (.inl z)) fun z => .inr (.inr z)
      · rw [addS_out m] at e
        exact st.sgr a e
    · rw [addS_in m]
      exact e
    · have m2 : a ∈ F2 := by simpa using m
      rw [addS_out fun z => nd2.2.2 a z a m2 rfl]
      exact dj a (by simp [m2])
    · by_cases m : a ∈ F1
      · rw [addS_in m] at e
        obtain ⟨u', hu, n⟩ := r.dom a m
        rw [e] at hu
        cases hu
        exact ⟨e, n⟩
      · rw [addS_out m] at e
        exact sb a u e
end
/-! ### a call: the caller's own things stand by -/
section
variable {Γ : Gb} {c : Ent} {R1 R2 : List (V × O)} {H : Hp}
theorem RS.enter (h : RS Γ c (R1 ++ R2) H) : ∃ e : Ent, e.H = H ∧ RS Γ e R1 H ∧ ∀ R1' H', RS Γ e R1' H' → RS Γ c (R1' ++ R2) H' := by
  obtain ⟨S, F, st, q, nd, dj, sb, lc⟩ := h
  rw [List.append_nil] at st nd dj
  obtain ⟨F1, F2, rfl, r1, r2⟩ := q.split
  have nd2 := List.nodup_append.mp nd
  refine ⟨⟨S, H, F1⟩, rfl, ⟨S, F1, ⟨fun _ _ e => e, fun _ _ e _ _ => e, fun _ e => e, fun a m => .inl (by simpa using m), fun _ e => .inl e⟩, r1, by simp; exact nd2.1, fun a m => dj a (by simp at m; simp [m]), sb, fun a m => by cases m⟩, fun R1' H' h' => ?_⟩
  obtain ⟨S', F', st', q', nd', dj', sb', lc'⟩ := h'
  rw [List.append_nil] at st' nd' dj'
  have n12 : ∀ a ∈ F2, a ∉ F1 := fun a m z => nd2.2.2 a z a m rfl
  have keep2 : ∀ a ∈ F2, ∀ o, H a = some o → H' a = some o := fun a m o e => by
    obtain ⟨u, hu, n⟩ := r2.dom a m
    rw [e] at hu
    cases hu
    exact st'.frm a o e n (n12 a m)
  have not2 : ∀ a ∈ F', a ∉ F2 := fun a m z => by
    rcases st'.own a m with w | w
    · exact n12 a z w
    · obtain ⟨u, hu, _⟩ := r2.dom a z
      have w' : H a = none := w
      rw [w'] at hu
      cases hu
  have own' : ∀ a, a ∈ F1 ∨ H a = none → a ∈ c.F ∨ c.H a = none := fun a z => z.elim (fun z => st.own a (by simp [z])) fun z => .inr (st.dom a z)
  refine ⟨S', F' ++ F2, ⟨fun a o e => st'.shr a o (st.shr a o e), fun a o e n m => ?_, fun a e => st.dom a (st'.dom a e), fun a m => ?_, fun a e => ?_⟩, q'.append (r2.mono st'.shr keep2), ?_, fun a m => ?_, sb', fun a m => by cases m⟩
  · refine st'.frm a o (st.frm a o e n m) n fun z => ?_
    rcases st.own a (by simp; exact .inl z) with w | w
    · exact m w
    · rw [w] at e
      cases e
  · rcases List.mem_append.mp (by simpa using m) with m | m
    · exact own' a (st'.own a m)
    · exact st.own a (by simp [m])
  · rcases st'.sgr a e with z | z
    · exact st.sgr a z
    · exact .inr (own' a z)
  · rw [List.append_nil]
    exact List.nodup_append.mpr ⟨nd', nd2.2.1, fun a m b m' e => not2 a m (e ▸ m')⟩
  · rcases List.mem_append.mp (by simpa using m) with m | m
    · exact dj' a m
    · cases e : S' a with
      | none => rfl
      | some o =>
        have z : S' a ≠ none := by rw [e]; exact fun z => by cases z
        rcases st'.sgr a z with w | w | w
        · exact (w (dj a (by simp [m]))).elim
        · exact (n12 a m w).elim
        · obtain ⟨u, hu, _⟩ := r2.dom a m
          have w' : H a = none := w
          rw [w'] at hu
          cases hu
end
end Den
end
section
/-! Den, part B: stores, what an expression, a test, arguments, a statement do. -/
namespace Den
open PySem L2
abbrev Store := List (Option O)
inductive SlotsOk : L2.St → Store → Prop
  | nil : SlotsOk [] []
  | skip {x : Option V} {σ : L2.St} {ρ : Store} : SlotsOk σ ρ → SlotsOk (x :: σ) (none :: ρ)
  | keep {v : V} {o : O} {σ : L2.St} {ρ : Store} : SlotsOk σ ρ → SlotsOk (some v :: σ) (some o :: ρ)
def slotsR : L2.St → Store → List (V × O)
  | some v :: σ, some o :: ρ => (v, o) :: slotsR σ ρ
  | _ :: σ, _ :: ρ => slotsR σ ρ
  | _, _ => []
theorem slotsR_skip {x : Option V} {σ : L2.St} {ρ : Store} : slotsR (x :: σ) (none :: ρ) = slotsR σ ρ := by cases x <;> rfl
theorem SlotsOk.len {σ : L2.St} {ρ : Store} (h : SlotsOk σ ρ) : σ.length = ρ.length := by
  induction h with
  | nil => rfl
  | skip _ ih => simp [ih]
  | keep _ ih => simp [ih]
theorem slots_take {σ : L2.St} {ρ : Store} {o : O} (h : SlotsOk σ ρ) : ∀ {i : Nat}, ρ[i]? = some (some o) →
    ∃ v, σ[i]? = some (some v) ∧ SlotsOk σ (ρ.set i none) ∧ (slotsR σ ρ).Perm ((v, o) :: slotsR σ (ρ.set i none)) := by
  induction h with
  | nil => intro i e; simp at e
  | @skip x σ ρ h ih =>
    intro i e
    cases i with
    | zero => simp at e
    | succ i =>
      obtain ⟨v, a, b, c⟩ := ih (i := i) (by simpa using e)
      refine ⟨v, by simpa using a, by simpa using .skip b, ?_⟩
      rw [List.set_cons_succ, slotsR_skip, slotsR_skip]
      exact c
  | @keep w u σ ρ h ih =>
    intro i e
    cases i with
    | zero =>
      simp at e
      subst e
      refine ⟨w, rfl, .skip h, ?_⟩
      rw [List.set_cons_zero, slotsR_skip]
      exact .refl _
    | succ i =>
      obtain ⟨v, a, b, c⟩ := ih (i := i) (by simpa using e)
      refine ⟨v, by simpa using a, by simpa using .keep b, ?_⟩
      rw [List.set_cons_succ]
      show ((w, u) :: slotsR σ ρ).Perm ((v, o) :: (w, u) :: slotsR σ (ρ.set i none))
      exact (c.cons (w, u)).trans (List.Perm.swap _ _ _)
theorem slots_put {σ : L2.St} {ρ : Store} {v : V} {o : O} (h : SlotsOk σ ρ) : ∀ {i : Nat}, i < σ.length →
    SlotsOk (σ.set i (some v)) (ρ.set i (some o)) ∧ ∃ X, ((v, o) :: slotsR σ ρ).Perm (X ++ slotsR (σ.set i (some v)) (ρ.set i (some o))) := by
  induction h with
  | nil => intro i e; simp at e
  | @skip x σ ρ h ih =>
    intro i e
    cases i with
    | zero =>
      refine ⟨.keep h, [], ?_⟩
      rw [slotsR_skip]
      exact .refl _
    | succ i =>
      obtain ⟨a, X, c⟩ := ih (i := i) (by simpa using e)
      refine ⟨.skip a, X, ?_⟩
      rw [List.set_cons_succ, List.set_cons_succ, slotsR_skip, slotsR_skip]
      exact c
  | @keep w u σ ρ h ih =>
    intro i e
    cases i with
    | zero => exact ⟨.keep h, [(w, u)], List.Perm.swap _ _ _⟩
    | succ i =>
      obtain ⟨a, X, c⟩ := ih (i := i) (by simpa using e)
      refine ⟨.keep a, X, ?_⟩
      rw [List.set_cons_succ, List.set_cons_succ]
      show ((v, o) :: (w, u) :: slotsR σ ρ).Perm (X ++ ((w, u) :: slotsR (σ.set i (some v)) (ρ.set i (some o))))
      exact (List.Perm.swap _ _ _).trans ((c.cons (w, u)).trans List.perm_middle.symm)
theorem slots_none {σ : L2.St} {ρ : Store} (h : SlotsOk σ ρ) : ∀ {i : Nat}, SlotsOk σ (ρ.set i none) ∧ ∃ X, (slotsR σ ρ).Perm (X ++ slotsR σ (ρ.set i none)) := by
  induction h with
  | nil => intro i; exact ⟨.nil, [], .refl _⟩
  | @skip x σ ρ h ih =>
    intro i
    cases i with
    | zero => exact ⟨.skip h, [], .refl _⟩
    | succ i =>
      obtain ⟨a, X, c⟩ := ih (i := i)
      refine ⟨.skip a, X, ?_⟩
      rw [List.set_cons_succ, slotsR_skip, slotsR_skip]
      exact c
  | @keep w u σ ρ h ih =>
    intro i
    cases i with
    | zero =>
      refine ⟨.skip h, [(w, u)], ?_⟩
      rw [List.set_cons_zero, slotsR_skip]
      exact .refl _
    | succ i =>
      obtain ⟨a, X, c⟩ := ih (i := i)
      refine ⟨.keep a, X, ?_⟩
      rw [List.set_cons_succ]
      exact (c.cons (w, u)).trans List.perm_middle.symm
theorem slots_mem {σ : L2.St} {ρ : Store} {o : O} {v : V} (h : SlotsOk σ ρ) {i : Nat} (e : ρ[i]? = some (some o)) (s : σ[i]? = some (some v)) : (v, o) ∈ slotsR σ ρ := by
  obtain ⟨w, a, _, p⟩ := slots_take h e
  rw [s] at a
  cases a
  exact p.mem_iff.mpr List.mem_cons_self

/-- a def's frame: what it entered with, its slots then -/
structure Fr where
  c : Ent
  s0 : L2.St
/-- the state of a def's body: the slots hold what ρ says (those that P names are as at the entry), besides the things T -/
structure SR (Γ : Gb) (P : Nat → Bool) (f : Fr) (σ : L2.St) (ρ : Store) (T : List (V × O)) (H : Hp) : Prop where
  ok : SlotsOk σ ρ
  fix : ∀ j, P j = true → σ[j]? = f.s0[j]?
  rs : RS Γ f.c (slotsR σ ρ ++ T) H
section
variable {Γ : Gb} {P : Nat → Bool} {f : Fr} {σ : L2.St} {ρ : Store} {T T' : List (V × O)} {H : Hp} {v : V} {o : O} {i : Nat}
theorem SR.mapT (h : SR Γ P f σ ρ T H) {H' : Hp} (k : ∀ R, RS Γ f.c (T ++ R) H → RS Γ f.c (T' ++ R) H') : SR Γ P f σ ρ T' H' :=
  ⟨h.ok, h.fix, (k _ (h.rs.perm List.perm_append_comm)).perm List.perm_append_comm⟩
theorem SR.drop (h : SR Γ P f σ ρ ((v, o) :: T) H) : SR Γ P f σ ρ T H := h.mapT fun _ q => q.drop
theorem SR.dropL (h : SR Γ P f σ ρ (T' ++ T) H) : SR Γ P f σ ρ T H := h.mapT fun R q => by
  rw [List.append_assoc] at q
  exact q.dropL
theorem SR.permT (h : SR Γ P f σ ρ T H) (p : T.Perm T') : SR Γ P f σ ρ T' H := ⟨h.ok, h.fix, h.rs.perm (p.append_left _)⟩
theorem SR.fz (h : SR Γ P f σ ρ ((v, o) :: T) H) : SR Γ P f σ ρ ((v, .sh (Den.fz o)) :: T) H := h.mapT fun _ q => q.freeze
theorem SR.pure {d : D} (h : SR Γ P f σ ρ T H) (r : ∀ S, Rep Γ S v d) : SR Γ P f σ ρ ((v, .sh d) :: T) H := h.mapT fun _ q => q.pure r
/-- a slot's thing is taken out -/
theorem SR.take (h : SR Γ P f σ ρ T H) (e : ρ[i]? = some (some o)) : ∃ v, σ[i]? = some (some v) ∧ SR Γ P f σ (ρ.set i none) ((v, o) :: T) H := by
  obtain ⟨v, a, b, p⟩ := slots_take h.ok e
  exact ⟨v, a, b, h.fix, h.rs.perm ((p.append_right T).trans List.perm_middle.symm)⟩
/-- a thing is put into a slot -/
theorem SR.set (h : SR Γ P f σ ρ ((v, o) :: T) H) (hi : i < σ.length) (hp : P i = false) : SR Γ P f (σ.set i (some v)) (ρ.set i (some o)) T H := by
  obtain ⟨a, X, p⟩ := slots_put (v := v) (o := o) h.ok hi
  refine ⟨a, fun j hj => ?_, ?_⟩
  · rw [List.getElem?_set_ne (fun z => by rw [z, hj] at hp; cases hp)]
    exact h.fix j hj
  · have q : (slotsR σ ρ ++ (v, o) :: T).Perm (X ++ (slotsR (σ.set i (some v)) (ρ.set i (some o)) ++ T)) := List.perm_middle.trans ((p.append_right T).trans (by rw [List.append_assoc]))
    exact (h.rs.perm q).dropL
/-- a thing is put back into its slot -/
theorem SR.back (h : SR Γ P f σ ρ ((v, o) :: T) H) (hs : σ[i]? = some (some v)) : SR Γ P f σ (ρ.set i (some o)) T H := by
  have hi : i < σ.length := (List.getElem?_eq_some_iff.mp hs).1
  have e : σ.set i (some v) = σ := by
    have z := List.getElem?_eq_some_iff.mp hs
    rw [← z.2]
    exact List.set_getElem_self _
  obtain ⟨a, X, p⟩ := slots_put (v := v) (o := o) h.ok hi
  rw [e] at a p
  refine ⟨a, h.fix, ?_⟩
  have q : (slotsR σ ρ ++ (v, o) :: T).Perm (X ++ (slotsR σ (ρ.set i (some o)) ++ T)) := List.perm_middle.trans ((p.append_right T).trans (by rw [List.append_assoc]))
  exact (h.rs.perm q).dropL
theorem SR.clear (h : SR Γ P f σ ρ T H) : SR Γ P f σ (ρ.set i none) T H := by
  obtain ⟨a, X, p⟩ := slots_none (i := i) h.ok
  refine ⟨a, h.fix, ?_⟩
  have q : (slotsR σ ρ ++ T).Perm (X ++ (slotsR σ (ρ.set i none) ++ T)) := (p.append_right T).trans (by rw [List.append_assoc])
  exact (h.rs.perm q).dropL
theorem SR.lenS (h : SR Γ P f σ ρ T H) : σ.length = ρ.length := h.ok.len
end

/-! ### outcomes -/
inductive Xc where
  | own (n : Nat) | ty (s : String)
def Xc.val (Γ : Gb) : Xc → Value
  | .own n => .ref (Γ.cls n)
  | .ty s => .type s
structure Xn where
  cls : Xc
  fs : Option (List (Str × D))
inductive Res (α : Type) where
  | ok (a : α) (ρ : Store) | exc (x : Xn) (ρ : Store) | stuck
def Res.bind {α β : Type} : Res α → (α → Store → Res β) → Res β
  | .ok a ρ, g => g a ρ
  | .exc x ρ, _ => .exc x ρ
  | .stuck, _ => .stuck
abbrev aE := Store → Res O
abbrev aT := Store → Res Bool
def XR (Γ : Gb) (P : Nat → Bool) (f : Fr) (σ : L2.St) (ρ : Store) (T : List (V × O)) (x : Xn) (cls : Value) (d : Option Addr) (H : Hp) : Prop :=
  cls = x.cls.val Γ ∧ match x.fs with
    | none => d = none ∧ SR Γ P f σ ρ T H
    | some fs => ∃ dd, d = some dd ∧ SR Γ P f σ ρ ((.ref dd, .sh (.xd fs)) :: T) H
section
variable {Γ : Gb} {P : Nat → Bool} {f : Fr} {σ : L2.St} {ρ : Store} {T T' : List (V × O)} {H : Hp} {v : V} {o : O} {i : Nat} {x : Xn} {cls : Value} {d : Option Addr}
theorem XR.drop (h : XR Γ P f σ ρ ((v, o) :: T) x cls d H) : XR Γ P f σ ρ T x cls d H := by
  obtain ⟨e, h⟩ := h
  refine ⟨e, ?_⟩
  obtain ⟨c, fs⟩ := x
  cases fs with
  | none => exact ⟨h.1, h.2.drop⟩
  | some fs =>
    obtain ⟨dd, a, b⟩ := h
    exact ⟨dd, a, (b.permT (List.Perm.swap _ _ _)).drop⟩
theorem XR.dropL (h : XR Γ P f σ ρ (T' ++ T) x cls d H) : XR Γ P f σ ρ T x cls d H := by
  induction T' with
  | nil => exact h
  | cons p T' ih => exact ih (XR.drop (v := p.1) (o := p.2) h)
end
def Good {α : Type} (Γ : Gb) (P : Nat → Bool) (W : WX) (f : Fr) (σ : L2.St) (T : List (V × O)) (k : α → Store → Prop) : Res α → Prop
  | .ok a ρ => k a ρ
  | .exc x ρ => ∀ cls d H, XR Γ P f σ ρ T x cls d H → W cls d σ H
  | .stuck => False
section
variable {α β : Type} {Γ : Gb} {P : Nat → Bool} {W : WX} {f : Fr} {σ : L2.St} {T T' : List (V × O)} {k k' : α → Store → Prop} {r : Res α}
theorem Good.imp (h : Good Γ P W f σ T k r) (q : ∀ a ρ, k a ρ → k' a ρ) : Good Γ P W f σ T k' r := by
  cases r with
  | ok a ρ => exact q _ _ h
  | exc x ρ => exact h
  | stuck => exact h
theorem Good.bind {g : α → Store → Res β} {k : β → Store → Prop} (h : Good Γ P W f σ T k (r.bind g)) : Good Γ P W f σ T (fun a ρ => Good Γ P W f σ T k (g a ρ)) r := by
  cases r with
  | ok a ρ => exact h
  | exc x ρ => exact h
  | stuck => exact h
theorem Good.more (h : Good Γ P W f σ T k r) : Good Γ P W f σ (T' ++ T) k r := by
  cases r with
  | ok a ρ => exact h
  | exc x ρ => exact fun cls d H q => h cls d H q.dropL
  | stuck => exact h
end
/-! ### what a reading is worth -/
def Sx (Γ : Gb) (P : Nat → Bool) (W : WX) (te : TE) (g : aE) : Prop := ∀ f σ ρ T H Q, SR Γ P f σ ρ T H →
  Good Γ P W f σ T (fun o ρ' => ∀ v H', SR Γ P f σ ρ' ((v, o) :: T) H' → Q v H') (g ρ) → te σ H Q
def Sxt (Γ : Gb) (P : Nat → Bool) (W : WX) (tt : TT) (g : aT) : Prop := ∀ f σ ρ T H Q, SR Γ P f σ ρ T H →
  Good Γ P W f σ T (fun b ρ' => ∀ H', SR Γ P f σ ρ' T H' → Q b H') (g ρ) → tt σ H Q
inductive Od where
  | pl (i : Nat) | ex (g : aE)
inductive Rv where
  | o (o : O) | p (i : Nat)
def evA : List Od → Store → Res (List Rv)
  | [], ρ => .ok [] ρ
  | .pl i :: r, ρ => match ρ[i]? with
    | some (some _) => (evA r ρ).bind fun rs ρ' => .ok (.p i :: rs) ρ'
    | _ => .stuck
  | .ex g :: r, ρ => (g ρ).bind fun o ρ1 => (evA r ρ1).bind fun rs ρ2 => .ok (.o o :: rs) ρ2
inductive Mt (σ : L2.St) : List (V × O) → List V → List Rv → Prop
  | nil : Mt σ [] [] []
  | ex {v : V} {o : O} {T : List (V × O)} {vs : List V} {rs : List Rv} : Mt σ T vs rs → Mt σ (T ++ [(v, o)]) (v :: vs) (.o o :: rs)
  | pl {v : V} {i : Nat} {T : List (V × O)} {vs : List V} {rs : List Rv} : σ[i]? = some (some v) → Mt σ T vs rs → Mt σ T (v :: vs) (.p i :: rs)
def Sa (Γ : Gb) (P : Nat → Bool) (W : WX) (ta : TA) (ods : List Od) : Prop := ∀ f σ ρ T H R, SR Γ P f σ ρ T H →
  Good Γ P W f σ T (fun rs ρ' => ∀ vs T' H', Mt σ T' vs rs → SR Γ P f σ ρ' (T' ++ T) H' → R vs H') (evA ods ρ) → ta σ H R
section
variable {Γ : Gb} {P : Nat → Bool} {W : WX} {te : TE} {ta : TA} {g : aE} {ods : List Od} {i : Nat}
theorem sa_nil : Sa Γ P W tNil [] := fun f σ ρ T H R h k => k [] [] H .nil h
theorem sa_ex (h1 : Sx Γ P W te g) (h2 : Sa Γ P W ta ods) : Sa Γ P W (tCons te ta) (.ex g :: ods) := fun f σ ρ T H R h k => by
  have k1 : Good Γ P W f σ T _ (g ρ) := Good.bind k
  refine h1 f σ ρ T H _ h (k1.imp fun o ρ1 k2 v H1 s1 => ?_)
  have k3 := (Good.bind k2).more (T' := [(v, o)])
  refine h2 f σ ρ1 ((v, o) :: T) H1 _ s1 (k3.imp fun rs ρ2 k4 vs T' H2 m s2 => ?_)
  refine k4 (v :: vs) (T' ++ [(v, o)]) H2 (.ex m) ?_
  rw [List.append_assoc]
  exact s2
theorem sa_pl (h2 : Sa Γ P W ta ods) : Sa Γ P W (tCons (tVar i) ta) (.pl i :: ods) := fun f σ ρ T H R h k => by
  unfold evA at k
  split at k
  · rename_i o e
    obtain ⟨v, hv, _⟩ := h.take e
    refine ⟨v, hv, h2 f σ ρ T H _ h ((Good.bind k).imp fun rs ρ2 k4 vs T' H2 m s2 => ?_)⟩
    exact k4 (v :: vs) T' H2 (.pl hv m) s2
  · exact k.elim
end
def rsv (ρ : Store) : List Rv → Option (List O)
  | [] => some []
  | .o o :: r => (rsv ρ r).map (o :: ·)
  | .p i :: r => match ρ[i]? with
    | some (some o) => (rsv ρ r).map (o :: ·)
    | _ => none
theorem rsv_ok {Γ : Gb} {P : Nat → Bool} {f : Fr} {σ : L2.St} {ρ : Store} {H : Hp} {T' : List (V × O)} {vs : List V} {rs : List Rv} (m : Mt σ T' vs rs) : ∀ {T : List (V × O)} {os : List O}, SR Γ P f σ ρ (T' ++ T) H → rsv ρ rs = some os →
    ∃ ps : List (V × O), ps.map Prod.fst = vs ∧ ps.map Prod.snd = os ∧ ∀ p ∈ ps, p ∈ slotsR σ ρ ++ (T' ++ T) := by
  induction m with
  | nil =>
    intro T os h e
    cases e
    exact ⟨[], rfl, rfl, fun p m => by cases m⟩
  | @ex v o T1 vs rs m ih =>
    intro T os h e
    simp only [rsv, Option.map_eq_some_iff] at e
    obtain ⟨os', e, rfl⟩ := e
    rw [List.append_assoc] at h
    obtain ⟨ps, a, b, c⟩ := ih h e
    refine ⟨(v, o) :: ps, by simp [a], by simp [b], fun p hp => ?_⟩
    rcases List.mem_cons.mp hp with rfl | hp
    · simp
    · rw [List.append_assoc]
      exact c p hp
  | @pl v i T1 vs rs hv m ih =>
    intro T os h e
    unfold rsv at e
    split at e
    · rename_i o eo
      simp only [Option.map_eq_some_iff] at e
      obtain ⟨os', e, rfl⟩ := e
      obtain ⟨ps, a, b, c⟩ := ih h e
      refine ⟨(v, o) :: ps, by simp [a], by simp [b], fun p hp => ?_⟩
      rcases List.mem_cons.mp hp with rfl | hp
      · exact List.mem_append_left _ (slots_mem h.ok eo hv)
      · exact c p hp
    · cases e
/-- an operation upon values that are held: what it gives is held besides -/
def OpOk (Γ : Gb) (r : List V → Hp → VK → Prop) (g : List O → Option O) : Prop := ∀ c R H (ps : List (V × O)) o Q, RS Γ c R H → (∀ p ∈ ps, p ∈ R) → g (ps.map Prod.snd) = some o →
  (∀ v H', RS Γ c ((v, o) :: R) H' → Q v H') → r (ps.map Prod.fst) H Q
def aOp (ods : List Od) (g : List O → Option O) : aE := fun ρ => (evA ods ρ).bind fun rs ρ' => match rsv ρ' rs with
  | some os => match g os with
    | some o => .ok o ρ'
    | none => .stuck
  | none => .stuck
theorem sx_op {Γ : Gb} {P : Nat → Bool} {W : WX} {ta : TA} {ods : List Od} {r : List V → Hp → VK → Prop} {g : List O → Option O} (ha : Sa Γ P W ta ods) (hr : OpOk Γ r g) :
    Sx Γ P W (fun σ H Q => ta σ H fun vs H1 => r vs H1 Q) (aOp ods g) := fun f σ ρ T H Q h k => by
  refine ha f σ ρ T H _ h ((Good.bind k).imp fun rs ρ' k vs T' H' m s => ?_)
  split at k
  · rename_i os eo
    split at k
    · rename_i o eg
      obtain ⟨ps, rfl, rfl, mem⟩ := rsv_ok m s eo
      refine hr f.c _ H' ps o Q s.rs mem eg fun v H2 q => k v H2 ?_
      have z : SR Γ P f σ ρ' ((v, o) :: (T' ++ T)) H2 := ⟨s.ok, s.fix, q.perm List.perm_middle.symm⟩
      exact (z.permT (T' := T' ++ (v, o) :: T) List.perm_middle.symm).dropL
    · exact k.elim
  · exact k.elim
end Den
end
section
/-! Den, part C: what values are told by, operations upon values. -/
namespace Den
open PySem L2
section
variable {Γ : Gb} {S H : Hp}
theorem RepL.len : ∀ {xs : List V} {ds : List D}, RepL Γ S xs ds → xs.length = ds.length
  | _, _, .nil => rfl
  | _, _, .cons _ t => by simp [RepL.len t]
theorem RepL.append : ∀ {xs ys : List V} {ds es : List D}, RepL Γ S xs ds → RepL Γ S ys es → RepL Γ S (xs ++ ys) (ds ++ es)
  | _, _, _, _, .nil, s => s
  | _, _, _, _, .cons r t, s => .cons r (RepL.append t s)
theorem RepL.drop : ∀ {xs : List V} {ds : List D} (n : Nat), RepL Γ S xs ds → RepL Γ S (xs.drop n) (ds.drop n)
  | _, _, 0, r => r
  | _, _, _ + 1, .nil => .nil
  | _, _, n + 1, .cons _ t => RepL.drop n t
theorem RepL.take : ∀ {xs : List V} {ds : List D} (n : Nat), RepL Γ S xs ds → RepL Γ S (xs.take n) (ds.take n)
  | _, _, 0, _ => .nil
  | _, _, _ + 1, .nil => .nil
  | _, _, n + 1, .cons r t => .cons r (RepL.take n t)
theorem RepL.get : ∀ {xs : List V} {ds : List D} {i : Nat} {d : D}, RepL Γ S xs ds → ds[i]? = some d → ∃ v, xs[i]? = some v ∧ Rep Γ S v d
  | _, _, _, _, .nil, e => by simp at e
  | _, _, 0, _, .cons r _, e => by
    simp at e
    subst e
    exact ⟨_, rfl, r⟩
  | _, _, i + 1, _, .cons _ t, e => by
    obtain ⟨v, a, b⟩ := RepL.get t (i := i) (by simpa using e)
    exact ⟨v, by simpa using a, b⟩
theorem RepL.ints : ∀ {xs : List V} {ns : List Int}, RepL Γ S xs (ns.map D.int) → xs = ns.map V.int
  | xs, [], h => by cases h; rfl
  | xs, n :: ns, h => by
    cases h with
    | cons r t =>
      cases r
      rw [List.map_cons, RepL.ints t]
theorem RepL.strs : ∀ {xs : List V} {ns : List Str}, RepL Γ S xs (ns.map D.str) → xs = ns.map V.str
  | xs, [], h => by cases h; rfl
  | xs, n :: ns, h => by
    cases h with
    | cons r t =>
      cases r
      rw [List.map_cons, RepL.strs t]
theorem RepL.bools : ∀ {xs : List V} {ns : List Bool}, RepL Γ S xs (ns.map D.bl) → xs = ns.map V.bl
  | xs, [], h => by cases h; rfl
  | xs, n :: ns, h => by
    cases h with
    | cons r t =>
      cases r
      rw [List.map_cons, RepL.bools t]
theorem repL_ints : ∀ {ns : List Int}, RepL Γ S (ns.map V.int) (ns.map D.int)
  | [] => .nil
  | n :: ns => .cons (.int n) repL_ints
theorem repL_strs : ∀ {ns : List Str}, RepL Γ S (ns.map V.str) (ns.map D.str)
  | [] => .nil
  | n :: ns => .cons (.str n) repL_strs
end

/-- all are shared -/
def shs : List O → Option (List D)
  | [] => some []
  | .sh d :: r => (shs r).map (d :: ·)
  | _ :: _ => none
theorem shs_some : ∀ {os : List O} {ds : List D}, shs os = some ds → os = ds.map O.sh
  | [], _, e => by cases e; rfl
  | .sh d :: r, _, e => by
    simp only [shs, Option.map_eq_some_iff] at e
    obtain ⟨ds, e, rfl⟩ := e
    rw [shs_some e, List.map_cons]
theorem shs_map : ∀ ds : List D, shs (ds.map O.sh) = some ds
  | [] => rfl
  | d :: ds => by rw [List.map_cons, shs, shs_map ds, Option.map_some]
theorem fzL_sh : ∀ ds : List D, fzL (ds.map O.sh) = ds
  | [] => rfl
  | d :: ds => by rw [List.map_cons, fzL, fzL_sh ds, fz]
/-- a list's items, all shared -/
def lstD : O → Option (List D)
  | .sh (.lst ds) => some ds
  | .lst os => shs os
  | _ => none
def tupD : O → Option (List D)
  | .sh (.tup ds) => some ds
  | _ => none
section
variable {Γ : Gb} {S H : Hp} {v : V} {o : O} {F : List Addr} {ds : List D}
theorem ORL.repL : ∀ {rs : List (V × O)} {ds : List D} {F : List Addr}, ORL Γ S H rs F → rs.map Prod.snd = ds.map O.sh → RepL Γ S (rs.map Prod.fst) ds
  | [], ds, _, h, e => by
    cases ds with
    | nil => exact .nil
    | cons _ _ => cases e
  | (v, o) :: rs, ds, _, h, e => by
    cases ds with
    | nil => cases e
    | cons d ds =>
      cases h with
      | cons r t =>
        simp only [List.map_cons, List.cons.injEq] at e
        obtain ⟨e1, e2⟩ := e
        subst e1
        cases r with
        | sh r => exact .cons r (ORL.repL t e2)
theorem lst_at (r : OR Γ S H v o F) (sb : Sub S H) (e : lstD o = some ds) : ∃ a xs, v = .ref a ∧ H a = some (.lst xs) ∧ RepL Γ S xs ds := by
  unfold lstD at e
  split at e
  · cases e
    cases r with
    | sh r =>
      cases r with
      | lst ha hl => exact ⟨_, _, rfl, (sb _ _ ha).1, hl⟩
  · cases r with
    | lst ha hl e' =>
      have z := shs_some e
      rw [e'] at z
      exact ⟨_, _, rfl, ha, hl.repL z⟩
  · cases e
theorem tupD_sh (e : tupD o = some ds) : o = .sh (.tup ds) := by
  unfold tupD at e
  split at e
  · cases e
    rfl
  · cases e
theorem tup_at (r : OR Γ S H v o F) (sb : Sub S H) (e : tupD o = some ds) : ∃ a xs, v = .ref a ∧ SqT Γ.K H a xs ∧ RepL Γ S xs ds := by
  rw [tupD_sh e] at r
  cases r with
  | sh r =>
    cases r with
    | tup ha hl => exact ⟨_, _, rfl, sqT_mono (fun a o e => (sb a o e).1) ha, hl⟩
end
section
variable {Γ : Gb} {c : Ent} {R : List (V × O)} {H : Hp} {v : V} {o : O} {ds : List D}
theorem RS.sh (h : RS Γ c R H) {d : D} (m : (v, O.sh d) ∈ R) : ∃ S, Sub S H ∧ Rep Γ S v d := by
  obtain ⟨S, sb, rd, _⟩ := h.readS
  obtain ⟨F, x⟩ := rd _ m
  cases x with
  | sh r => exact ⟨S, sb, r⟩
theorem RS.int (h : RS Γ c R H) {i : Int} (m : (v, O.sh (.int i)) ∈ R) : v = .int i := by
  obtain ⟨S, sb, r⟩ := h.sh m
  cases r
  rfl
theorem RS.str (h : RS Γ c R H) {i : Str} (m : (v, O.sh (.str i)) ∈ R) : v = .str i := by
  obtain ⟨S, sb, r⟩ := h.sh m
  cases r
  rfl
theorem RS.bl (h : RS Γ c R H) {i : Bool} (m : (v, O.sh (.bl i)) ∈ R) : v = .bl i := by
  obtain ⟨S, sb, r⟩ := h.sh m
  cases r
  rfl
theorem RS.non (h : RS Γ c R H) (m : (v, O.sh .non) ∈ R) : v = .non := by
  obtain ⟨S, sb, r⟩ := h.sh m
  cases r
  rfl
/-- a list read: what it gives may be held, singly, as a new list, as a new tuple -/
structure Had (Γ : Gb) (c : Ent) (R : List (V × O)) (H : Hp) (xs : List V) (ds : List D) : Prop where
  ex : ∃ S, Sub S H ∧ RepL Γ S xs ds ∧ (∀ w e, Rep Γ S w e → RS Γ c ((w, .sh e) :: R) H) ∧ ∀ xs ds, RepL Γ S xs ds → RS Γ c (xs.zip (ds.map O.sh) ++ R) H
theorem Had.len {xs : List V} (h : Had Γ c R H xs ds) : xs.length = ds.length := by
  obtain ⟨S, _, r, _⟩ := h.ex
  exact r.len
theorem zip_fst : ∀ {xs : List V} {ds : List D}, xs.length = ds.length → (xs.zip (ds.map O.sh)).map Prod.fst = xs
  | [], [], _ => rfl
  | x :: xs, d :: ds, e => by
    rw [List.map_cons, List.zip_cons_cons, List.map_cons, zip_fst (by simpa using e)]
theorem zip_snd : ∀ {xs : List V} {ds : List D}, xs.length = ds.length → (xs.zip (ds.map O.sh)).map Prod.snd = ds.map O.sh
  | [], [], _ => rfl
  | x :: xs, d :: ds, e => by
    rw [List.map_cons, List.zip_cons_cons, List.map_cons, zip_snd (by simpa using e)]
theorem Had.newL {xs : List V} (h : Had Γ c R H xs ds) {p : Addr} (hp : H p = none) : RS Γ c ((.ref p, .lst (ds.map O.sh)) :: R) (upd H p (.lst xs)) := by
  obtain ⟨S, sb, r, _, ad⟩ := h.ex
  have q := (ad xs ds r).newL hp
  rw [zip_fst r.len, zip_snd r.len] at q
  exact q
theorem Had.newT {xs : List V} (h : Had Γ c R H xs ds) {p : Addr} (hp : H p = none) : RS Γ c ((.ref p, .sh (.tup ds)) :: R) (upd H p (.tup xs)) := by
  obtain ⟨S, sb, r, _, ad⟩ := h.ex
  have q := ((ad xs ds r).newT hp).freeze
  rw [zip_fst r.len, zip_snd r.len, fz, fzL_sh] at q
  exact q
theorem Had.get {xs : List V} (h : Had Γ c R H xs ds) {i : Nat} {d : D} (e : ds[i]? = some d) : ∃ w, xs[i]? = some w ∧ RS Γ c ((w, .sh d) :: R) H := by
  obtain ⟨S, sb, r, ad, _⟩ := h.ex
  obtain ⟨w, a, b⟩ := r.get e
  exact ⟨w, a, ad w d b⟩
theorem Had.drop {xs : List V} (h : Had Γ c R H xs ds) (n : Nat) : Had Γ c R H (xs.drop n) (ds.drop n) := by
  obtain ⟨S, sb, r, q⟩ := h.ex
  exact ⟨S, sb, r.drop n, q⟩
theorem Had.take {xs : List V} (h : Had Γ c R H xs ds) (n : Nat) : Had Γ c R H (xs.take n) (ds.take n) := by
  obtain ⟨S, sb, r, q⟩ := h.ex
  exact ⟨S, sb, r.take n, q⟩
theorem RS.lst (h : RS Γ c R H) (m : (v, o) ∈ R) (e : lstD o = some ds) : ∃ a xs, v = .ref a ∧ H a = some (.lst xs) ∧ Had Γ c R H xs ds := by
  obtain ⟨S, sb, rd, ad⟩ := h.readS
  obtain ⟨F, x⟩ := rd _ m
  obtain ⟨a, xs, p, q, r⟩ := lst_at x sb e
  exact ⟨a, xs, p, q, ⟨S, sb, r, ad⟩⟩
theorem RS.tup (h : RS Γ c R H) (m : (v, o) ∈ R) (e : tupD o = some ds) : ∃ a xs, v = .ref a ∧ SqT Γ.K H a xs ∧ Had Γ c R H xs ds := by
  obtain ⟨S, sb, rd, ad⟩ := h.readS
  obtain ⟨F, x⟩ := rd _ m
  obtain ⟨a, xs, p, q, r⟩ := tup_at x sb e
  exact ⟨a, xs, p, q, ⟨S, sb, r, ad⟩⟩
theorem RS.lst2 (h : RS Γ c R H) {v2 : V} {o2 : O} {es : List D} (m : (v, o) ∈ R) (e : lstD o = some ds) (m2 : (v2, o2) ∈ R) (e2 : lstD o2 = some es) :
    ∃ a xs b ys, v = .ref a ∧ H a = some (.lst xs) ∧ v2 = .ref b ∧ H b = some (.lst ys) ∧ xs.length = ds.length ∧ ys.length = es.length ∧ Had Γ c R H (xs ++ ys) (ds ++ es) := by
  obtain ⟨S, sb, rd, ad⟩ := h.readS
  obtain ⟨F, x⟩ := rd _ m
  obtain ⟨a, xs, p, q, r⟩ := lst_at x sb e
  obtain ⟨F2, x2⟩ := rd _ m2
  obtain ⟨b, ys, p2, q2, r2⟩ := lst_at x2 sb e2
  exact ⟨a, xs, b, ys, p, q, p2, q2, r.len, r2.len, ⟨S, sb, r.append r2, ad⟩⟩
theorem RS.tup2 (h : RS Γ c R H) {v2 : V} {o2 : O} {es : List D} (m : (v, o) ∈ R) (e : tupD o = some ds) (m2 : (v2, o2) ∈ R) (e2 : tupD o2 = some es) :
    ∃ a xs b ys, v = .ref a ∧ SqT Γ.K H a xs ∧ v2 = .ref b ∧ SqT Γ.K H b ys ∧ xs.length = ds.length ∧ ys.length = es.length ∧ Had Γ c R H (xs ++ ys) (ds ++ es) := by
  obtain ⟨S, sb, rd, ad⟩ := h.readS
  obtain ⟨F, x⟩ := rd _ m
  obtain ⟨a, xs, p, q, r⟩ := tup_at x sb e
  obtain ⟨F2, x2⟩ := rd _ m2
  obtain ⟨b, ys, p2, q2, r2⟩ := tup_at x2 sb e2
  exact ⟨a, xs, b, ys, p, q, p2, q2, r.len, r2.len, ⟨S, sb, r.append r2, ad⟩⟩
/-- an item of a list, of its own or shared, that is shared -/
theorem RS.item {os : List O} (h : RS Γ c R H) (m : (v, O.lst os) ∈ R) : ∃ a xs, v = .ref a ∧ H a = some (.lst xs) ∧ xs.length = os.length ∧ ∀ (i : Nat) (d : D), os[i]? = some (O.sh d) → ∃ w, xs[i]? = some w ∧ RS Γ c ((w, .sh d) :: R) H := by
  obtain ⟨S, sb, rd, ad, _⟩ := h.readS
  obtain ⟨F, x⟩ := rd _ m
  cases x with
  | @lst a rs _ F ha hl e =>
    refine ⟨a, _, rfl, ha, by rw [e, List.length_map, List.length_map], fun i d q => ?_⟩
    rw [e, List.getElem?_map, Option.map_eq_some_iff] at q
    obtain ⟨⟨u, o'⟩, hp, q⟩ := q
    obtain rfl : o' = O.sh d := q
    obtain ⟨G, x, _⟩ := hl.mem (List.mem_of_getElem? hp)
    exact ⟨u, by rw [List.getElem?_map, hp]; rfl, ad _ _ (by cases x with | sh r => exact r)⟩
end

/-! ### operations by one, two, three values -/
def Op1 (Γ : Gb) (r : V → Hp → VK → Prop) (g : O → Option O) : Prop := ∀ c R H x ox w Q, RS Γ c R H → (x, ox) ∈ R → g ox = some w → (∀ v H', RS Γ c ((v, w) :: R) H' → Q v H') → r x H Q
def Op2 (Γ : Gb) (r : R2) (g : O → O → Option O) : Prop := ∀ c R H x ox y oy w Q, RS Γ c R H → (x, ox) ∈ R → (y, oy) ∈ R → g ox oy = some w → (∀ v H', RS Γ c ((v, w) :: R) H' → Q v H') → r x y H Q
def l1 (g : O → Option O) : List O → Option O
  | [a] => g a
  | _ => none
def l2 (g : O → O → Option O) : List O → Option O
  | [a, b] => g a b
  | _ => none
def r1L (r : V → Hp → VK → Prop) : List V → Hp → VK → Prop
  | [x], H, Q => r x H Q
  | _, _, _ => False
def r2L (r : R2) : List V → Hp → VK → Prop
  | [x, y], H, Q => r x y H Q
  | _, _, _ => False
section
variable {Γ : Gb} {P : Nat → Bool} {W : WX} {ta tb : TE} {oa ob : Od}
theorem Op1.ok {r : V → Hp → VK → Prop} {g : O → Option O} (h : Op1 Γ r g) : OpOk Γ (r1L r) (l1 g) := by
  intro c R H ps o Q hR mem e k
  match ps, e with
  | [(x, ox)], e => exact h c R H x ox o Q hR (mem _ (by simp)) e k
theorem Op2.ok {r : R2} {g : O → O → Option O} (h : Op2 Γ r g) : OpOk Γ (r2L r) (l2 g) := by
  intro c R H ps o Q hR mem e k
  match ps, e with
  | [(x, ox), (y, oy)], e => exact h c R H x ox y oy o Q hR (mem _ (by simp)) (mem _ (by simp)) e k
theorem sx_op1 {r : V → Hp → VK → Prop} {g : O → Option O} (ha : Sa Γ P W (tCons ta tNil) [oa]) (h : Op1 Γ r g) : Sx Γ P W (fun σ H Q => ta σ H fun x H1 => r x H1 Q) (aOp [oa] (l1 g)) := sx_op ha h.ok
theorem sx_op2 {r : R2} {g : O → O → Option O} (ha : Sa Γ P W (tCons ta (tCons tb tNil)) [oa, ob]) (h : Op2 Γ r g) : Sx Γ P W (tOp r ta tb) (aOp [oa, ob] (l2 g)) := sx_op ha h.ok
end

/-! ### whole numbers -/
def gAdd : O → O → Option O
  | .sh (.int i), .sh (.int j) => some (.sh (.int (i + j)))
  | .sh (.str x), .sh (.str y) => if x.length + y.length ≤ 16000000 then some (.sh (.str (x ++ y))) else none
  | a, b => match tupD a, tupD b with
    | some ds, some es => if ds.length + es.length ≤ 16000000 then some (.sh (.tup (ds ++ es))) else none
    | _, _ => match lstD a, lstD b with
      | some ds, some es => if ds.length + es.length ≤ 16000000 then some (.lst ((ds ++ es).map O.sh)) else none
      | _, _ => none
theorem le_line {n : Nat} (h : n ≤ 16000000) : n ≤ sizeLine := by rw [sizeLine_eq]; omega
theorem lt_line {n : Nat} (h : n < 16000000) : n < sizeLine := by rw [sizeLine_eq]; omega
def rAddG (K : PySem.W.Frag) : R2 := fun x y H Q => rI0 (fun i j => .int (i + j)) x y H Q ∨ (∃ i j, x = .str i ∧ y = .str j ∧ i.length + j.length ≤ sizeLine ∧ Q (.str (i ++ j)) H) ∨ rCatA K x y H Q ∨ rCat x y H Q
theorem or_add {X : Cx} : OpR X (binaryOp .Add) (rAddG X.K) := op_add.or (op_add_str.or (op_catA.or op_cat))
section
variable {Γ : Gb}
theorem ok_add : Op2 Γ (rAddG Γ.K) gAdd := by
  intro c R H x ox y oy w Q h m1 m2 e k
  unfold gAdd at e
  split at e
  · cases e
    exact .inl ⟨_, _, h.int m1, h.int m2, k _ _ (h.pure fun _ => .int _)⟩
  · split at e
    · cases e
      rename_i hl
      exact .inr (.inl ⟨_, _, h.str m1, h.str m2, le_line hl, k _ _ (h.pure fun _ => .str _)⟩)
    · cases e
  · split at e
    · rename_i ds es e1 e2
      split at e
      · cases e
        rename_i hl
        obtain ⟨a, xs, b, ys, rfl, ha, rfl, hb, l1, l2, had⟩ := h.tup2 m1 e1 m2 e2
        refine .inr (.inr (.inl ⟨a, b, xs, ys, rfl, rfl, ha, hb, le_line (by omega), fun z => ?_, fun _ z => ?_, fun _ _ p hp => k _ _ (had.newT hp)⟩))
        · subst z
          have : ds = [] := List.eq_nil_of_length_eq_zero (by simpa using l1.symm)
          subst this
          rw [tupD_sh e2] at m2
          exact k _ _ (h.dup m2)
        · subst z
          have : es = [] := List.eq_nil_of_length_eq_zero (by simpa using l2.symm)
          subst this
          rw [tupD_sh e1] at m1
          rw [List.append_nil] at k
          exact k _ _ (h.dup m1)
      · cases e
    · split at e
      · rename_i ds es e1 e2
        split at e
        · cases e
          rename_i hl
          obtain ⟨a, xs, b, ys, rfl, ha, rfl, hb, l1, l2, had⟩ := h.lst2 m1 e1 m2 e2
          exact .inr (.inr (.inr ⟨a, b, xs, ys, rfl, rfl, ha, hb, le_line (by omega), fun p hp => k _ _ (had.newL hp)⟩))
        · cases e
      · cases e
end
end Den
end
section
/-! Den, part D: operations upon values. -/
namespace Den
open PySem L2
section
variable {Γ : Gb}
/-! ### whole numbers -/
def gSub : O → O → Option O
  | .sh (.int i), .sh (.int j) => some (.sh (.int (i - j)))
  | _, _ => none
theorem ok_sub : Op2 Γ (rI0 fun i j => .int (i - j)) gSub := by
  intro c R H x ox y oy w Q h m1 m2 e k
  unfold gSub at e
  split at e
  · cases e
    exact ⟨_, _, h.int m1, h.int m2, k _ _ (h.pure fun _ => .int _)⟩
  · cases e
def gFdiv : O → O → Option O
  | .sh (.int i), .sh (.int j) => if 0 < j ∧ j < 1073741824 then some (.sh (.int (i / j))) else none
  | _, _ => none
theorem ok_fdiv : Op2 Γ (rI CDiv fun i j => .int (i / j)) gFdiv := by
  intro c R H x ox y oy w Q h m1 m2 e k
  unfold gFdiv at e
  split at e
  · split at e
    · cases e
      rename_i hc
      exact ⟨_, _, h.int m1, h.int m2, hc, k _ _ (h.pure fun _ => .int _)⟩
    · cases e
  · cases e
def gMod : O → O → Option O
  | .sh (.int i), .sh (.int j) => if 0 < j then some (.sh (.int (i % j))) else none
  | _, _ => none
theorem ok_mod : Op2 Γ (rI (fun _ j => 0 < j) fun i j => .int (i % j)) gMod := by
  intro c R H x ox y oy w Q h m1 m2 e k
  unfold gMod at e
  split at e
  · split at e
    · cases e
      rename_i hc
      exact ⟨_, _, h.int m1, h.int m2, hc, k _ _ (h.pure fun _ => .int _)⟩
    · cases e
  · cases e
def gPow : O → O → Option O
  | .sh (.int i), .sh (.int j) => if 0 ≤ j ∧ j ≤ 1000000 ∧ i.natAbs < 18446744073709551616 then some (.sh (.int (i ^ j.toNat))) else none
  | _, _ => none
theorem ok_pow : Op2 Γ (rI CPow fun i j => .int (i ^ j.toNat)) gPow := by
  intro c R H x ox y oy w Q h m1 m2 e k
  unfold gPow at e
  split at e
  · split at e
    · cases e
      rename_i hc
      exact ⟨_, _, h.int m1, h.int m2, ⟨hc.1, hc.2.1, by have := hc.2.2; omega⟩, k _ _ (h.pure fun _ => .int _)⟩
    · cases e
  · cases e
theorem RepL.flat {S : Hp} {xs : List V} {ds : List D} (r : RepL Γ S xs ds) : ∀ n : Nat, RepL Γ S (List.replicate n xs).flatten (List.replicate n ds).flatten
  | 0 => .nil
  | n + 1 => by
    rw [List.replicate_succ, List.replicate_succ, List.flatten_cons, List.flatten_cons]
    exact r.append (RepL.flat r n)
def gMul : O → O → Option O
  | .sh (.int i), .sh (.int j) => if (-18446744073709551616 < i ∧ i < 18446744073709551616) ∨ (-18446744073709551616 < j ∧ j < 18446744073709551616) then some (.sh (.int (i * j))) else none
  | a, .sh (.int k) => match lstD a with
    | some ds => if 0 ≤ k ∧ k ≤ 1000000 ∧ ds.length * k.toNat ≤ 16000000 then some (.lst ((List.replicate k.toNat ds).flatten.map O.sh)) else none
    | none => none
  | _, _ => none
def rMulG : R2 := fun x y H Q => rI CMul (fun i j => .int (i * j)) x y H Q ∨ rRep x y H Q
theorem or_mul {X : Cx} : OpR X (binaryOp .Mult) rMulG := op_mul.or op_rep
theorem ok_mul : Op2 Γ rMulG gMul := by
  intro c R H x ox y oy w Q h m1 m2 e k
  unfold gMul at e
  split at e
  · split at e
    · cases e
      rename_i hc
      exact .inl ⟨_, _, h.int m1, h.int m2, by unfold CMul; omega, k _ _ (h.pure fun _ => .int _)⟩
    · cases e
  · split at e
    · rename_i ds e1
      split at e
      · cases e
        rename_i hc
        obtain ⟨a, xs, rfl, ha, had⟩ := h.lst m1 e1
        refine .inr ⟨a, _, xs, rfl, h.int m2, ha, by omega, by omega, le_line (by rw [had.len]; exact hc.2.2), fun p hp => k _ _ ?_⟩
        obtain ⟨S, sb, r, q⟩ := had.ex
        exact Had.newL ⟨S, sb, r.flat _, q⟩ hp
      · cases e
    · cases e
  · cases e
def gNeg : O → Option O
  | .sh (.int i) => some (.sh (.int (-i)))
  | _ => none
theorem ok_neg : Op1 Γ (rU fun i => .int (-i)) gNeg := by
  intro c R H x ox w Q h m1 e k
  unfold gNeg at e
  split at e
  · cases e
    exact ⟨_, h.int m1, k _ _ (h.pure fun _ => .int _)⟩
  · cases e

/-! ### equality -/
mutual
def toPy : D → Option PyData
  | .non => some .none
  | .bl b => some (.bool b)
  | .int i => some (.int i)
  | .str x => some (.str x)
  | .tup ds => (toPyL ds).map .tuple
  | .lst ds => (toPyL ds).map .list
  | .wls _ => none
  | .dic _ => none
  | .obj _ _ => none
  | .xd _ => none
def toPyL : List D → Option (List PyData)
  | [] => some []
  | d :: ds => (toPy d).bind fun p => (toPyL ds).map (p :: ·)
end
mutual
theorem Rep.dp {S : Hp} : ∀ {v : V} {d : D}, Rep Γ S v d → ∀ {p : PyData}, toPy d = some p → Dp Γ.K S v p
  | _, _, .non, p, e => by
    simp only [toPy, Option.some.injEq] at e
    subst e
    exact .non
  | _, _, .bl b, p, e => by
    simp only [toPy, Option.some.injEq] at e
    subst e
    exact .bl b
  | _, _, .int i, p, e => by
    simp only [toPy, Option.some.injEq] at e
    subst e
    exact .int i
  | _, _, .str x, p, e => by
    simp only [toPy, Option.some.injEq] at e
    subst e
    exact .str x
  | _, _, .tup hs hl, p, e => by
    simp only [toPy, Option.map_eq_some_iff] at e
    obtain ⟨q, e, rfl⟩ := e
    exact .tup hs (RepL.dp hl e)
  | _, _, .lst hs hl, p, e => by
    simp only [toPy, Option.map_eq_some_iff] at e
    obtain ⟨q, e, rfl⟩ := e
    exact .lst (.of hs) (RepL.dp hl e)
  | _, _, .wls _ _, p, e => by simp [toPy] at e
  | _, _, .dic _ _ _, p, e => by simp [toPy] at e
  | _, _, .obj _ _ _, p, e => by simp [toPy] at e
  | _, _, .xd _ _ _, p, e => by simp [toPy] at e
theorem RepL.dp {S : Hp} : ∀ {vs : List V} {ds : List D}, RepL Γ S vs ds → ∀ {ps : List PyData}, toPyL ds = some ps → DpAll Γ.K S vs ps
  | _, _, .nil, ps, e => by
    simp only [toPyL, Option.some.injEq] at e
    subst e
    exact .nil
  | _, _, .cons r t, ps, e => by
    simp only [toPyL, Option.bind_eq_some_iff, Option.map_eq_some_iff] at e
    obtain ⟨p, e1, q, e2, rfl⟩ := e
    exact .cons (Rep.dp r e1) (RepL.dp t e2)
end
/-- what is owned stands in H as data, too -/
theorem OR.rep {S H : Hp} {v : V} {o : O} {F : List Addr} (r : OR Γ S H v o F) (sb : Sub S H) : Rep Γ H v (Den.fz o) := r.fz (fun a o e => (sb a o e).1) fun _ _ _ e => e
theorem RS.rep {c : Ent} {R : List (V × O)} {H : Hp} {v : V} {o : O} (h : RS Γ c R H) (m : (v, o) ∈ R) : Rep Γ H v (Den.fz o) := by
  obtain ⟨S, sb, rd, _⟩ := h.readS
  obtain ⟨F, x⟩ := rd _ m
  exact x.rep sb
/-- == of two flat things that are of kinds that are told apart at once -/
def scalD : D → D → Option Bool
  | .non, .non => some true
  | .non, .int _ => some false | .int _, .non => some false
  | .non, .bl _ => some false | .bl _, .non => some false
  | .non, .str _ => some false | .str _, .non => some false
  | .int i, .int j => some (decide (i = j))
  | .bl i, .bl j => some (decide (i = j))
  | .str i, .str j => some (decide (i = j))
  | .int _, .str _ => some false | .str _, .int _ => some false
  | .bl _, .str _ => some false | .str _, .bl _ => some false
  | _, _ => none
theorem scal_of {S : Hp} {x y : V} {a b : D} (r1 : Rep Γ S x a) (r2 : Rep Γ S y b) {t : Bool} (e : scalD a b = some t) : scal x y = true ∧ decide (x = y) = t := by
  cases r1 <;> cases r2 <;> simp only [scalD, Option.some.injEq, reduceCtorEq] at e <;> subst e <;> simp [scal]
def gEqD (a b : D) : Option Bool := match scalD a b with
  | some t => some t
  | none => match toPy a, toPy b with
    | some p, some q => if SeqAt.shaped p = true ∧ SeqAt.shaped q = true then some (PyData.eqv p q) else none
    | _, _ => none
def gEq (x y : O) : Option O := (gEqD (fz x) (fz y)).map fun b => .sh (.bl b)
def gNe (x y : O) : Option O := (gEqD (fz x) (fz y)).map fun b => .sh (.bl (!b))
def rEqG (K : PySem.W.Frag) : R2 := fun x y H Q => rEq x y H Q ∨ rEqD K x y H Q
def rNeG (K : PySem.W.Frag) : R2 := fun x y H Q => rNe x y H Q ∨ rNeD K x y H Q
theorem or_eq {X : Cx} (hu : X.A.units + 64 < cLine) : OpR X (compareOp .Eq) (rEqG X.K) := op_eq.or (op_eqD hu)
theorem or_ne {X : Cx} (hu : X.A.units + 64 < cLine) : OpR X (compareOp .NotEq) (rNeG X.K) := op_ne.or (op_neD hu)
theorem ok_eq : Op2 Γ (rEqG Γ.K) gEq := by
  intro c R H x ox y oy w Q h m1 m2 e k
  simp only [gEq, Option.map_eq_some_iff] at e
  obtain ⟨t, e, rfl⟩ := e
  have r1 := h.rep m1
  have r2 := h.rep m2
  unfold gEqD at e
  split at e
  · cases e
    rename_i es
    obtain ⟨a, b⟩ := scal_of r1 r2 es
    exact .inl ⟨a, k _ _ (by rw [b]; exact h.pure fun _ => .bl _)⟩
  · split at e
    · rename_i p q e1 e2
      split at e
      · cases e
        rename_i hc
        exact .inr ⟨p, q, r1.dp e1, r2.dp e2, hc.1, hc.2, k _ _ (h.pure fun _ => .bl _)⟩
      · cases e
    · cases e
theorem ok_ne : Op2 Γ (rNeG Γ.K) gNe := by
  intro c R H x ox y oy w Q h m1 m2 e k
  simp only [gNe, Option.map_eq_some_iff] at e
  obtain ⟨t, e, rfl⟩ := e
  have r1 := h.rep m1
  have r2 := h.rep m2
  unfold gEqD at e
  split at e
  · cases e
    rename_i es
    obtain ⟨a, b⟩ := scal_of r1 r2 es
    exact .inl ⟨a, k _ _ (by rw [b]; exact h.pure fun _ => .bl _)⟩
  · split at e
    · rename_i p q e1 e2
      split at e
      · cases e
        rename_i hc
        exact .inr ⟨p, q, r1.dp e1, r2.dp e2, hc.1, hc.2, k _ _ (h.pure fun _ => .bl _)⟩
      · cases e
    · cases e

/-! ### order -/
def gLt : O → O → Option O
  | .sh (.int i), .sh (.int j) => some (.sh (.bl (decide (i < j))))
  | .sh (.str i), .sh (.str j) => some (.sh (.bl (decide (i.cps.toList < j.cps.toList))))
  | _, _ => none
def gGt : O → O → Option O
  | .sh (.int i), .sh (.int j) => some (.sh (.bl (decide (j < i))))
  | .sh (.str i), .sh (.str j) => some (.sh (.bl (decide (j.cps.toList < i.cps.toList))))
  | _, _ => none
def gLe : O → O → Option O
  | .sh (.int i), .sh (.int j) => some (.sh (.bl (decide (i ≤ j))))
  | .sh (.str i), .sh (.str j) => some (.sh (.bl (!decide (j.cps.toList < i.cps.toList))))
  | _, _ => none
def gGe : O → O → Option O
  | .sh (.int i), .sh (.int j) => some (.sh (.bl (decide (j ≤ i))))
  | .sh (.str i), .sh (.str j) => some (.sh (.bl (!decide (i.cps.toList < j.cps.toList))))
  | _, _ => none
def rCmpG (f : Int → Int → Bool) (g : Str → Str → Bool) : R2 := fun x y H Q => rI0 (fun i j => .bl (f i j)) x y H Q ∨ (∃ i j, x = .str i ∧ y = .str j ∧ Q (.bl (g i j)) H)
theorem or_lt {X : Cx} : OpR X (compareOp .Lt) (rCmpG (fun i j => decide (i < j)) fun i j => decide (i.cps.toList < j.cps.toList)) := op_lt.or op_lt_str
theorem or_gt {X : Cx} : OpR X (compareOp .Gt) (rCmpG (fun i j => decide (j < i)) fun i j => decide (j.cps.toList < i.cps.toList)) := op_gt.or op_gt_str
theorem or_le {X : Cx} : OpR X (compareOp .LtE) (rCmpG (fun i j => decide (i ≤ j)) fun i j => !decide (j.cps.toList < i.cps.toList)) := op_le.or op_le_str
theorem or_ge {X : Cx} : OpR X (compareOp .GtE) (rCmpG (fun i j => decide (j ≤ i)) fun i j => !decide (i.cps.toList < j.cps.toList)) := op_ge.or op_ge_str
theorem ok_lt : Op2 Γ (rCmpG (fun i j => decide (i < j)) fun i j => decide (i.cps.toList < j.cps.toList)) gLt := by
  intro c R H x ox y oy w Q h m1 m2 e k
  unfold gLt at e
  split at e <;> cases e
  · exact .inl ⟨_, _, h.int m1, h.int m2, k _ _ (h.pure fun _ => .bl _)⟩
  · exact .inr ⟨_, _, h.str m1, h.str m2, k _ _ (h.pure fun _ => .bl _)⟩
theorem ok_gt : Op2 Γ (rCmpG (fun i j => decide (j < i)) fun i j => decide (j.cps.toList < i.cps.toList)) gGt := by
  intro c R H x ox y oy w Q h m1 m2 e k
  unfold gGt at e
  split at e <;> cases e
  · exact .inl ⟨_, _, h.int m1, h.int m2, k _ _ (h.pure fun _ => .bl _)⟩
  · exact .inr ⟨_, _, h.str m1, h.str m2, k _ _ (h.pure fun _ => .bl _)⟩
theorem ok_le : Op2 Γ (rCmpG (fun i j => decide (i ≤ j)) fun i j => !decide (j.cps.toList < i.cps.toList)) gLe := by
  intro c R H x ox y oy w Q h m1 m2 e k
  unfold gLe at e
  split at e <;> cases e
  · exact .inl ⟨_, _, h.int m1, h.int m2, k _ _ (h.pure fun _ => .bl _)⟩
  · exact .inr ⟨_, _, h.str m1, h.str m2, k _ _ (h.pure fun _ => .bl _)⟩
theorem ok_ge : Op2 Γ (rCmpG (fun i j => decide (j ≤ i)) fun i j => !decide (i.cps.toList < j.cps.toList)) gGe := by
  intro c R H x ox y oy w Q h m1 m2 e k
  unfold gGe at e
  split at e <;> cases e
  · exact .inl ⟨_, _, h.int m1, h.int m2, k _ _ (h.pure fun _ => .bl _)⟩
  · exact .inr ⟨_, _, h.str m1, h.str m2, k _ _ (h.pure fun _ => .bl _)⟩

/-! ### is -/
def gIs (b : V) (d : D → Bool) : O → Option O := fun o => some (.sh (.bl (d (fz o))))
def isNon : D → Bool
  | .non => true
  | _ => false
def isBl (b : Bool) : D → Bool
  | .bl c => c == b
  | _ => false
def gIsN (o : O) : Option O := some (.sh (.bl (isNon (fz o))))
def gNotN (o : O) : Option O := some (.sh (.bl (!isNon (fz o))))
def gIsB (b : Bool) (o : O) : Option O := some (.sh (.bl (isBl b (fz o))))
def gNotB (b : Bool) (o : O) : Option O := some (.sh (.bl (!isBl b (fz o))))
theorem isNon_of {S : Hp} {x : V} {d : D} (r : Rep Γ S x d) : decide (x = .non) = isNon d := by cases r <;> simp [isNon]
theorem isBl_of {S : Hp} {x : V} {d : D} {b : Bool} (r : Rep Γ S x d) : decide (x = .bl b) = isBl b d := by cases r <;> first | (simp [isBl]; done) | (rename_i c; cases b <;> cases c <;> rfl)
theorem ok_isN : Op1 Γ (fun x H Q => Q (.bl (decide (x = .non))) H) gIsN := by
  intro c R H x ox w Q h m1 e k
  cases e
  exact k _ _ (by rw [isNon_of (h.rep m1)]; exact h.pure fun _ => .bl _)
theorem ok_notN : Op1 Γ (fun x H Q => Q (.bl (!decide (x = .non))) H) gNotN := by
  intro c R H x ox w Q h m1 e k
  cases e
  exact k _ _ (by rw [isNon_of (h.rep m1)]; exact h.pure fun _ => .bl _)
def rIsBG : R2 := fun x y H Q => ∃ b : Bool, y = .bl b ∧ Q (.bl (decide (x = .bl b))) H
def rNotBG : R2 := fun x y H Q => ∃ b : Bool, y = .bl b ∧ Q (.bl (!decide (x = .bl b))) H
theorem op_isBG {X : Cx} : OpR X (compareOp .Is) rIsBG := by
  intro pins s σ H x y v u Q I rx ry h
  obtain ⟨b, rfl, q⟩ := h
  cases (show u = Value.bool b from ry)
  have pl : plainIs v (.bool b) = true := by cases x <;> first | (cases rx; rfl) | (obtain ⟨t, rfl⟩ := rx; rfl) | skip
  by_cases e : v = .bool b
  · subst e
    have : x = .bl b := rx.inj ry
    subst this
    exact wpAny_is_self rfl ⟨.bl true, H, I, rfl, by simpa using q⟩
  · have : x ≠ .bl b := fun z => by subst z; exact e rx
    exact wpAny_is_other pl e ⟨.bl false, H, I, rfl, by simpa [this] using q⟩
theorem op_notBG {X : Cx} : OpR X (compareOp .IsNot) rNotBG := by
  intro pins s σ H x y v u Q I rx ry h
  obtain ⟨b, rfl, q⟩ := h
  cases (show u = Value.bool b from ry)
  have pl : plainIs v (.bool b) = true := by cases x <;> first | (cases rx; rfl) | (obtain ⟨t, rfl⟩ := rx; rfl) | skip
  by_cases e : v = .bool b
  · subst e
    have : x = .bl b := rx.inj ry
    subst this
    exact wpAny_isNot_self rfl ⟨.bl false, H, I, rfl, by simpa using q⟩
  · have : x ≠ .bl b := fun z => by subst z; exact e rx
    exact wpAny_isNot_other pl e ⟨.bl true, H, I, rfl, by simpa [this] using q⟩
theorem ok_isB {b : Bool} : Op1 Γ (fun x H Q => rIsBG x (.bl b) H Q) (gIsB b) := by
  intro c R H x ox w Q h m1 e k
  cases e
  exact ⟨b, rfl, k _ _ (by rw [isBl_of (h.rep m1)]; exact h.pure fun _ => .bl _)⟩
theorem ok_notB {b : Bool} : Op1 Γ (fun x H Q => rNotBG x (.bl b) H Q) (gNotB b) := by
  intro c R H x ox w Q h m1 e k
  cases e
  exact ⟨b, rfl, k _ _ (by rw [isBl_of (h.rep m1)]; exact h.pure fun _ => .bl _)⟩
end
end Den
end
section
/-! Den, part E: in, items, slices, built-ins. -/
namespace Den
open PySem L2
section
variable {Γ : Gb}
/-! ### in -/
def flatD : D → Bool
  | .non | .bl _ | .int _ | .str _ => true
  | _ => false
def dV : D → V
  | .bl b => .bl b
  | .int i => .int i
  | .str x => .str x
  | _ => .non
theorem flat_of {S : Hp} {v : V} {d : D} (r : Rep Γ S v d) (f : flatD d = true) : v = dV d ∧ flatV v = true := by
  cases r <;> first | (simp [flatD] at f; done) | exact ⟨rfl, rfl⟩
theorem flats_of {S : Hp} : ∀ {xs : List V} {ds : List D}, RepL Γ S xs ds → ds.all flatD = true → xs = ds.map dV ∧ xs.all flatV = true
  | _, _, .nil, _ => ⟨rfl, rfl⟩
  | _, _, .cons r t, f => by
    rw [List.all_cons, Bool.and_eq_true] at f
    obtain ⟨a, b⟩ := flat_of r f.1
    obtain ⟨c, d⟩ := flats_of t f.2
    exact ⟨by rw [List.map_cons, ← a, ← c], by rw [List.all_cons, b, d] <;> rfl⟩
/-- == of flat things -/
def eqF (a b : D) : Bool := eqV (dV a) (dV b)
def inF (d : D) (ds : List D) : Bool := ds.any fun e => eqF e d
theorem inF_of (d : D) (ds : List D) : inV (dV d) (ds.map dV) = inF d ds := by
  unfold inV inF
  rw [List.any_map]
  rfl
def seqD (o : O) : Option (List D) := match fz o with
  | .lst ds => some ds
  | .tup ds => some ds
  | _ => none
/-- a dict's key -/
def keyD : D → Option Key
  | .int i => some (.inl i)
  | .str x => some (.inr x)
  | _ => none
theorem keyD_kD {d : D} {k : Key} (e : keyD d = some k) : d = kD k := by
  cases d <;> simp [keyD] at e <;> subst e <;> rfl
def keyEq (d : D) (k : Key) : Bool := match d, k with
  | .int i, .inl j => decide (i = j)
  | .str x, .inr y => decide (x = y)
  | _, _ => false
theorem keyEq_kD (k j : Key) : keyEq (kD k) j = decide (k = j) := by
  cases k <;> cases j <;> simp [keyEq, kD]
/-- what stands at a key -/
def valD {α : Type} (kvs : List (D × α)) (k : Key) : Option α := (kvs.find? fun p => keyEq p.1 k).map (·.2)
theorem rep_key {S : Hp} {v : V} {k : Key} (r : Rep Γ S v (kD k)) : v = kV k := by
  cases k <;> (cases r; rfl)
theorem valD_rep {S : Hp} : ∀ {kvs : List (Key × V)} {dkvs : List (D × D)}, dkvs.map Prod.fst = kvs.map (fun p => kD p.1) → RepL Γ S (kvs.map Prod.snd) (dkvs.map Prod.snd) → ∀ k : Key,
    match valD dkvs k with
    | some d => ∃ v, valV kvs k = some v ∧ Rep Γ S v d
    | none => valV kvs k = none
  | [], [], _, _, k => by simp [valD, valV]
  | [], _ :: _, e, _, k => by cases e
  | _ :: _, [], e, _, k => by cases e
  | (k1, v1) :: kvs, (d1, e1) :: dkvs, e, r, k => by
    simp only [List.map_cons, List.cons.injEq] at e
    obtain ⟨a, b⟩ := e
    subst a
    cases r with
    | cons r1 r2 =>
      have ih := valD_rep b r2 k
      by_cases hk : k1 = k
      · have h1 : valD ((kD k1, e1) :: dkvs) k = some e1 := by simp [valD, List.find?_cons, keyEq_kD, hk]
        rw [h1]
        exact ⟨v1, valV_pos hk, r1⟩
      · have h1 : valD ((kD k1, e1) :: dkvs) k = valD dkvs k := by simp [valD, List.find?_cons, keyEq_kD, hk]
        rw [h1, valV_neg hk]
        exact ih
def dicD (o : O) : Option (List (D × D)) := match fz o with
  | .dic kvs => some kvs
  | _ => none
theorem RS.seq {c : Ent} {R : List (V × O)} {H : Hp} {v : V} {o : O} {ds : List D} (h : RS Γ c R H) (m : (v, o) ∈ R) (e : seqD o = some ds) : ∃ a xs, v = .ref a ∧ (SqL Γ.K H a xs ∨ SqT Γ.K H a xs) ∧ RepL Γ H xs ds := by
  have r := h.rep m
  unfold seqD at e
  split at e <;> cases e
  · rename_i q
    rw [q] at r
    cases r with
    | lst a b => exact ⟨_, _, rfl, .inl (.of a), b⟩
  · rename_i q
    rw [q] at r
    cases r with
    | tup a b => exact ⟨_, _, rfl, .inr a, b⟩
theorem RS.dic {c : Ent} {R : List (V × O)} {H : Hp} {v : V} {o : O} {kvs : List (D × D)} (h : RS Γ c R H) (m : (v, o) ∈ R) (e : dicD o = some kvs) : ∃ a ks, v = .ref a ∧ H a = some (.dK ks) ∧ kvs.map Prod.fst = ks.map (fun p => kD p.1) ∧ RepL Γ H (ks.map Prod.snd) (kvs.map Prod.snd) := by
  have r := h.rep m
  unfold dicD at e
  split at e <;> cases e
  rename_i q
  rw [q] at r
  cases r with
  | dic a b c => exact ⟨_, _, rfl, a, b, c⟩
/-- is x in y -/
def inG (x y : O) : Option Bool := match x, y with
  | .sh (.str a), .sh (.str z) => match a.cps.toList with
    | [c] => some (decide (c ∈ z.cps.toList))
    | _ => some (!(Builtin.Str.occurrences z a 0 z.length 1).isEmpty)
  | x, y => match dicD y with
    | some kvs => (keyD (fz x)).map fun k => (valD kvs k).isSome
    | none => match seqD y with
      | some ds => if flatD (fz x) = true ∧ ds.all flatD = true then some (inF (fz x) ds) else
        match fz y, toPy (fz x), toPyL ds with
        | .lst _, some p, some qs => if SeqAt.shaped p = true ∧ SeqAt.shaped (.list qs) = true then some (qs.any fun z => PyData.eqv z p) else none
        | _, _, _ => none
      | none => none
def gIn (x y : O) : Option O := (inG x y).map fun b => .sh (.bl b)
def gNotIn (x y : O) : Option O := (inG x y).map fun b => .sh (.bl (!b))
def rSignIn (neg : Bool) : R2 := fun x y H Q => ∃ (c : Nat) (z : Str), x = .str ⟨#[c]⟩ ∧ y = .str z ∧ Q (.bl (if neg then !decide (c ∈ z.cps.toList) else decide (c ∈ z.cps.toList))) H
def rStrIn (neg : Bool) : R2 := fun x y H Q => ∃ i j, x = .str i ∧ y = .str j ∧ Q (.bl (if neg then !(!(Builtin.Str.occurrences j i 0 j.length 1).isEmpty) else !(Builtin.Str.occurrences j i 0 j.length 1).isEmpty)) H
def rDicIn (neg : Bool) : R2 := fun y x H Q => ∃ a o, x = .ref a ∧ DGet H a y o ∧ Q (.bl (if neg then !o.isSome else o.isSome)) H
def rInG (K : PySem.W.Frag) (neg : Bool) : R2 := fun x y H Q => rSignIn neg x y H Q ∨ rStrIn neg x y H Q ∨ rIn K neg x y H Q ∨ rDicIn neg x y H Q ∨ (if neg then rNotInD K else rInD K) x y H Q
theorem op_dicIn {X : Cx} (hu : X.A.units + 1 < cLine) : OpR X (compareOp .In) (rDicIn false) := by
  intro pins s σ H y x v u Q I ry rx h
  obtain ⟨a, o, rfl, g, q⟩ := h
  obtain rfl : u = Value.ref a := rx
  exact d_in hu I g ry fun s3 I3 => ⟨.bl o.isSome, H, I3, rfl, q⟩
theorem op_dicNotIn {X : Cx} (hu : X.A.units + 1 < cLine) : OpR X (compareOp .NotIn) (rDicIn true) := by
  intro pins s σ H y x v u Q I ry rx h
  obtain ⟨a, o, rfl, g, q⟩ := h
  obtain rfl : u = Value.ref a := rx
  exact d_notIn hu I g ry fun s3 I3 => ⟨.bl (!o.isSome), H, I3, rfl, q⟩
theorem or_in {X : Cx} (hu : X.A.units + 65 < cLine) : OpR X (compareOp .In) (rInG X.K false) := op_in_sign.or (op_in_str.or (op_in_seq.or ((op_dicIn (by omega)).or (op_inD hu))))
theorem or_notIn {X : Cx} (hu : X.A.units + 65 < cLine) : OpR X (compareOp .NotIn) (rInG X.K true) := op_notIn_sign.or (op_notIn_str.or (op_notIn_seq.or ((op_dicNotIn (by omega)).or (op_notInD hu))))
theorem sign_of {a : Str} {c : Nat} (e : a.cps.toList = [c]) : a = ⟨#[c]⟩ := by
  obtain ⟨⟨l⟩⟩ := a
  have : l = [c] := e
  subst this
  rfl
theorem in_core {neg : Bool} {c : Ent} {R : List (V × O)} {H : Hp} {x : V} {ox : O} {y : V} {oy : O} {b : Bool} {Q : VK} (h : RS Γ c R H) (m1 : (x, ox) ∈ R) (m2 : (y, oy) ∈ R) (e : inG ox oy = some b)
    (k : Q (.bl (if neg then !b else b)) H) : rInG Γ.K neg x y H Q := by
  unfold inG at e
  split at e
  · rename_i a z
    have e1 := h.str m1
    have e2 := h.str m2
    subst e1 e2
    split at e
    · rename_i c hc
      cases e
      exact .inl ⟨c, z, by rw [sign_of hc], rfl, k⟩
    · cases e
      exact .inr (.inl ⟨a, z, rfl, rfl, k⟩)
  · split at e
    · rename_i kvs hd
      simp only [Option.map_eq_some_iff] at e
      obtain ⟨kk, ek, rfl⟩ := e
      obtain ⟨a, ks, rfl, ha, e1, r⟩ := h.dic m2 hd
      have r1 := h.rep m1
      rw [keyD_kD ek] at r1
      refine .inr (.inr (.inr (.inl ⟨a, valV ks kk, rfl, ?_, ?_⟩)))
      · rw [rep_key r1]
        exact .k ha
      · have z := valD_rep e1 r kk
        have : (valV ks kk).isSome = (valD kvs kk).isSome := by
          cases q : valD kvs kk with
          | none =>
            rw [q] at z
            have z : valV ks kk = none := z
            rw [z]
            rfl
          | some d =>
            rw [q] at z
            obtain ⟨v, hv, _⟩ := z
            rw [hv]
            rfl
        rw [this]
        exact k
    · split at e
      · rename_i ds hs
        obtain ⟨a, xs, rfl, hq, r⟩ := h.seq m2 hs
        have r1 := h.rep m1
        split at e
        · cases e
          rename_i hf
          obtain ⟨f1, f2⟩ := flat_of r1 hf.1
          obtain ⟨g1, g2⟩ := flats_of r hf.2
          subst f1 g1
          exact .inr (.inr (.inl ⟨a, _, rfl, hq, f2, g2, by rw [inF_of]; exact k⟩))
        · split at e
          · rename_i p qs ey ep eq
            split at e
            · cases e
              rename_i hc
              have r2 := h.rep m2
              unfold seqD at hs
              rw [ey] at hs r2
              cases hs
              have dy : Dp Γ.K H (.ref a) (.list qs) := r2.dp (by simp only [toPy, eq, Option.map_some])
              refine .inr (.inr (.inr (.inr ?_)))
              cases neg with
              | true => exact ⟨p, qs, r1.dp ep, dy, hc.1, hc.2, k⟩
              | false => exact ⟨p, qs, r1.dp ep, dy, hc.1, hc.2, k⟩
            · cases e
          · cases e
      · cases e
theorem ok_in : Op2 Γ (rInG Γ.K false) gIn := by
  intro c R H x ox y oy w Q h m1 m2 e k
  simp only [gIn, Option.map_eq_some_iff] at e
  obtain ⟨b, e, rfl⟩ := e
  exact in_core h m1 m2 e (k _ _ (h.pure fun _ => .bl _))
theorem ok_notIn : Op2 Γ (rInG Γ.K true) gNotIn := by
  intro c R H x ox y oy w Q h m1 m2 e k
  simp only [gNotIn, Option.map_eq_some_iff] at e
  obtain ⟨b, e, rfl⟩ := e
  exact in_core h m1 m2 e (k _ _ (h.pure fun _ => .bl _))

/-! ### items -/
def gIx : O → O → Option O
  | .lst os, .sh (.int i) => match atI os i with
    | some (.sh d) => some (.sh d)
    | _ => none
  | .sh (.lst ds), .sh (.int i) => (atI ds i).map O.sh
  | .sh (.tup ds), .sh (.int i) => (atI ds i).map O.sh
  | .sh (.str z), .sh (.int i) => if z.length ≤ 16000000 then (atI z.cps.toList i).map fun c => .sh (.str ⟨#[c]⟩) else none
  | .dic kvs, .sh k => match keyD k with
    | some k => match valD kvs k with
      | some (.sh d) => some (.sh d)
      | _ => none
    | none => none
  | .sh (.dic kvs), .sh k => match keyD k with
    | some k => (valD kvs k).map O.sh
    | none => none
  | _, _ => none
def rDicIx : R2 := fun x y H Q => ∃ a v, x = .ref a ∧ DGet H a y (some v) ∧ Q v H
def rIxG (K : PySem.W.Frag) : R2 := fun x y H Q => rIx K x y H Q ∨ rDicIx x y H Q
theorem ix_dic {X : Cx} (hu : X.A.units + 1 < cLine) : IxR X rDicIx := by
  intro value slice pins s σ H x y v u Q I rx ry h hs
  obtain ⟨a, w, rfl, g, q⟩ := h
  obtain rfl : v = Value.ref a := rx
  exact PyProof.Rows.tail_any (dict_typeIs I g) PySem.F.slot_dict_getitem.lookup (d_getItem hu I g ry fun w' s' I' r' => ⟨w, H, I', r', q⟩) hs
theorem or_ix {X : Cx} (hu : X.A.units + 1 < cLine) : IxR X (rIxG X.K) := ix_seq.or (ix_dic hu)
theorem atI_some {α : Type} {xs : List α} {i : Int} {x : α} (e : atI xs i = some x) : ∃ j, ixN xs.length i = some j ∧ xs[j]? = some x := by
  unfold atI at e
  cases q : ixN xs.length i with
  | none =>
    rw [q] at e
    cases e
  | some j =>
    rw [q] at e
    exact ⟨j, rfl, e⟩
theorem atI_of {α β : Type} {xs : List α} {ys : List β} {i : Int} {j : Nat} {y : β} (hl : xs.length = ys.length) (e : ixN xs.length i = some j) (h : ys[j]? = some y) : atI ys i = some y := by
  unfold atI
  rw [← hl, e]
  exact h
theorem valD_own {c : Ent} {R : List (V × O)} {H : Hp} {v : V} {kvs : List (D × O)} (h : RS Γ c R H) (m : (v, O.dic kvs) ∈ R) : ∃ a ks, v = .ref a ∧ H a = some (.dK ks) ∧ ∀ (k : Key) (d : D), valD kvs k = some (O.sh d) → ∃ w, valV ks k = some w ∧ RS Γ c ((w, .sh d) :: R) H := by
  obtain ⟨S, sb, rd, ad, _⟩ := h.readS
  obtain ⟨F, x⟩ := rd _ m
  cases x with
  | @dic a ks _ rs F ha e1 e2 e3 hl =>
    refine ⟨a, ks, rfl, ha, fun k d q => ?_⟩
    have key : ∀ (kvs : List (D × O)) (ks : List (Key × V)) (rs : List (V × O)) (F : List Addr), ORL Γ S H rs F → kvs.map Prod.fst = ks.map (fun p => kD p.1) → ks.map Prod.snd = rs.map Prod.fst → kvs.map Prod.snd = rs.map Prod.snd →
        valD kvs k = some (O.sh d) → ∃ w, valV ks k = some w ∧ Rep Γ S w d := by
      intro kvs
      induction kvs with
      | nil =>
        intro ks rs F _ _ _ _ q
        simp [valD] at q
      | cons p kvs ih =>
        intro ks rs F hl e1 e2 e3 q
        cases ks with
        | nil => cases e1
        | cons kv ks =>
          cases rs with
          | nil => cases e2
          | cons r rs =>
            obtain ⟨d1, o1⟩ := p
            obtain ⟨k1, v1⟩ := kv
            obtain ⟨v2, o2⟩ := r
            simp only [List.map_cons, List.cons.injEq] at e1 e2 e3
            obtain ⟨rfl, e1⟩ := e1
            obtain ⟨rfl, e2⟩ := e2
            obtain ⟨rfl, e3⟩ := e3
            cases hl with
            | cons r1 r2 =>
              by_cases hk : k1 = k
              · have h1 : valD ((kD k1, o1) :: kvs) k = some o1 := by simp [valD, List.find?_cons, keyEq_kD, hk]
                rw [h1] at q
                cases q
                exact ⟨v1, valV_pos hk, by cases r1 with | sh r => exact r⟩
              · have h1 : valD ((kD k1, o1) :: kvs) k = valD kvs k := by simp [valD, List.find?_cons, keyEq_kD, hk]
                rw [h1] at q
                obtain ⟨w, a, b⟩ := ih ks rs _ r2 e1 e2 e3 q
                exact ⟨w, by rw [valV_neg hk]; exact a, b⟩
    obtain ⟨w, p1, p2⟩ := key kvs ks rs F hl e1 e2 e3 q
    exact ⟨w, p1, ad _ _ p2⟩
theorem ok_ix : Op2 Γ (rIxG Γ.K) gIx := by
  intro c R H x ox y oy w Q h m1 m2 e k
  unfold gIx at e
  split at e
  · split at e
    · cases e
      rename_i d hd
      obtain ⟨j, h1, h2⟩ := atI_some hd
      obtain ⟨a, xs, rfl, ha, hl, hi⟩ := h.item m1
      obtain ⟨u, hu, q⟩ := hi j d h2
      exact .inl (.inl ⟨a, xs, _, u, rfl, h.int m2, .of ha, atI_of hl.symm h1 hu, k _ _ q⟩)
    · cases e
  · simp only [Option.map_eq_some_iff] at e
    obtain ⟨d, hd, rfl⟩ := e
    obtain ⟨j, h1, h2⟩ := atI_some hd
    obtain ⟨a, xs, rfl, ha, had⟩ := h.lst m1 rfl
    obtain ⟨u, hu, q⟩ := had.get h2
    exact .inl (.inl ⟨a, xs, _, u, rfl, h.int m2, .of ha, atI_of had.len.symm h1 hu, k _ _ q⟩)
  · simp only [Option.map_eq_some_iff] at e
    obtain ⟨d, hd, rfl⟩ := e
    obtain ⟨j, h1, h2⟩ := atI_some hd
    obtain ⟨a, xs, rfl, ha, had⟩ := h.tup m1 rfl
    obtain ⟨u, hu, q⟩ := had.get h2
    exact .inl (.inr (.inl ⟨a, xs, _, u, rfl, h.int m2, ha, atI_of had.len.symm h1 hu, k _ _ q⟩))
  · split at e
    · simp only [Option.map_eq_some_iff] at e
      obtain ⟨d, hd, rfl⟩ := e
      rename_i hl
      exact .inl (.inr (.inr ⟨_, _, d, h.str m1, h.int m2, le_line hl, hd, k _ _ (h.pure fun _ => .str _)⟩))
    · cases e
  · split at e
    · rename_i k1 hk
      split at e
      · cases e
        rename_i d hd
        obtain ⟨a, ks, rfl, ha, hv⟩ := valD_own h m1
        obtain ⟨u, hu, q⟩ := hv _ _ hd
        have r2 := h.rep m2
        rw [fz, keyD_kD hk] at r2
        exact .inr ⟨a, u, rfl, by rw [rep_key r2, ← hu]; exact .k ha, k _ _ q⟩
      · cases e
    · cases e
  · split at e
    · rename_i k1 hk
      simp only [Option.map_eq_some_iff] at e
      obtain ⟨d, hd, rfl⟩ := e
      obtain ⟨S, sb, rd, ad, _⟩ := h.readS
      obtain ⟨F, z⟩ := rd _ m1
      have r2 := h.rep m2
      rw [fz, keyD_kD hk] at r2
      cases z with
      | sh z =>
        cases z with
        | dic ha e1 r =>
          have z := valD_rep e1 r k1
          rw [hd] at z
          obtain ⟨u, hu, ru⟩ := z
          exact .inr ⟨_, u, rfl, by rw [rep_key r2, ← hu]; exact .k (sb _ _ ha).1, k _ _ (ad _ _ ru)⟩
    · cases e
  · cases e
end
end Den
end
section
/-! Den, part F: slices, built-ins, displays. -/
namespace Den
open PySem L2
section
variable {Γ : Gb} {P : Nat → Bool} {W : WX}
theorem CallR.or {X : Cx} {f : Value} {r r' : List V → Hp → VK → Prop} (h : CallR X f r) (h' : CallR X f r') : CallR X f (fun xs H Q => r xs H Q ∨ r' xs H Q) := by
  intro pins s σ H xs us Q I rs q
  rcases q with q | q
  · exact h pins s σ H xs us Q I rs q
  · exact h' pins s σ H xs us Q I rs q
/-! ### slices -/
def aP (g : Option aE) : Store → Res (Option Int) := fun ρ => match g with
  | none => .ok none ρ
  | some g => (g ρ).bind fun o ρ' => match o with
    | .sh (.int i) => .ok (some i) ρ'
    | _ => .stuck
def Sxo (Γ : Gb) (P : Nat → Bool) (W : WX) (to : TO) (p : Store → Res (Option Int)) : Prop := ∀ f σ ρ T H Q, SR Γ P f σ ρ T H →
  Good Γ P W f σ T (fun i ρ' => ∀ H', SR Γ P f σ ρ' T H' → Q i H') (p ρ) → to σ H Q
theorem sxo_none : Sxo Γ P W tNoPart (aP none) := fun f σ ρ T H Q h k => k H h
theorem sxo_some {te : TE} {g : aE} (h1 : Sx Γ P W te g) : Sxo Γ P W (tPart te) (aP (some g)) := fun f σ ρ T H Q h k => by
  refine h1 f σ ρ T H _ h ((Good.bind k).imp fun o ρ' k v H' s => ?_)
  split at k
  · rename_i i
    have : v = .int i := s.rs.int (by simp)
    exact ⟨i, this, k H' s.drop⟩
  · exact k.elim
def SlOk (Γ : Gb) (r : V → Option Int → Option Int → Hp → VK → Prop) (g : O → Option Int → Option Int → Option O) : Prop := ∀ c R H x ox i j w Q, RS Γ c R H → (x, ox) ∈ R → g ox i j = some w →
  (∀ v H', RS Γ c ((v, w) :: R) H' → Q v H') → r x i j H Q
def aSl (od : Od) (lo hi : Option aE) (g : O → Option Int → Option Int → Option O) : aE := fun ρ => (evA [od] ρ).bind fun rs ρ1 => (aP lo ρ1).bind fun i ρ2 => (aP hi ρ2).bind fun j ρ3 => match rsv ρ3 rs with
  | some [o] => match g o i j with
    | some w => .ok w ρ3
    | none => .stuck
  | _ => .stuck
theorem sx_sl {ta : TE} {tl th : TO} {od : Od} {lo hi : Option aE} {r : V → Option Int → Option Int → Hp → VK → Prop} {g : O → Option Int → Option Int → Option O} (ha : Sa Γ P W (tCons ta tNil) [od]) (hl : Sxo Γ P W tl (aP lo)) (hh : Sxo Γ P W th (aP hi)) (hr : SlOk Γ r g) :
    Sx Γ P W (tSl r ta tl th) (aSl od lo hi g) := fun f σ ρ T H Q h k => by
  refine ha f σ ρ T H (fun vs H1 => match vs with
    | [x] => tl σ H1 fun l H2 => th σ H2 fun u H3 => r x l u H3 Q
    | _ => True) h ((Good.bind k).imp fun rs ρ1 k vs T' H1 m s => ?_)
  match vs, rs, m with
  | [x], [q], m =>
    refine hl f σ ρ1 (T' ++ T) H1 _ s ((Good.bind k).more.imp fun i ρ2 k H2 s2 => ?_)
    refine hh f σ ρ2 (T' ++ T) H2 _ s2 ((Good.bind k).more.imp fun j ρ3 k H3 s3 => ?_)
    split at k
    · rename_i o eo
      split at k
      · rename_i w ew
        obtain ⟨ps, p1, p2, mem⟩ := rsv_ok m s3 eo
        match ps, p1, p2 with
        | [(x', o')], p1, p2 =>
          obtain rfl : x' = x := by simpa using p1
          obtain rfl : o' = o := by simpa using p2
          refine hr f.c _ H3 x' o' i j w Q s3.rs (mem _ (by simp)) ew fun v H4 q => k v H4 ?_
          have z : SR Γ P f σ ρ3 ((v, w) :: (T' ++ T)) H4 := ⟨s3.ok, s3.fix, q.perm List.perm_middle.symm⟩
          exact (z.permT (T' := T' ++ (v, w) :: T) List.perm_middle.symm).dropL
      · exact k.elim
    · exact k.elim
  | [], _, _ => trivial
  | _ :: _ :: _, _, _ => trivial
def cutD {α : Type} (ds : List α) (lo hi : Option Int) : List α := (ds.drop (HT.sIx ds.length 0 lo)).take (HT.sIx ds.length ds.length hi - HT.sIx ds.length 0 lo)
theorem RepL.cut {S : Hp} {xs : List V} {ds : List D} (r : RepL Γ S xs ds) (lo hi : Option Int) : RepL Γ S (cutV xs lo hi) (cutD ds lo hi) := by
  unfold cutV cutD
  rw [r.len]
  exact (r.drop _).take _
def gSl (o : O) (lo hi : Option Int) : Option O := match o with
  | .sh (.str z) => if z.length ≤ 16000000 then some (.sh (.str (cutS z lo hi))) else none
  | o => match tupD o with
    | some ds => some (.sh (.tup (cutD ds lo hi)))
    | none => match lstD o with
      | some ds => some (.lst ((cutD ds lo hi).map O.sh))
      | none => none
def rSlG (K : PySem.W.Frag) : V → Option Int → Option Int → Hp → VK → Prop := fun x lo hi H Q => rSlS x lo hi H Q ∨ rSlA K x lo hi H Q ∨ rSlL K x lo hi H Q
theorem or_sl {X : Cx} : SlR X (rSlG X.K) := sl_str.or (sl_tupA.or sl_list)
theorem ok_sl : SlOk Γ (rSlG Γ.K) gSl := by
  intro c R H x ox i j w Q h m e k
  unfold gSl at e
  split at e
  · split at e
    · cases e
      rename_i hl
      exact .inl ⟨_, h.str m, le_line hl, k _ _ (h.pure fun _ => .str _)⟩
    · cases e
  · split at e
    · cases e
      rename_i ds et
      obtain ⟨a, xs, rfl, ha, had⟩ := h.tup m et
      obtain ⟨S, sb, r, q⟩ := had.ex
      have hc : Had Γ c R H (cutV xs i j) (cutD ds i j) := ⟨S, sb, r.cut i j, q⟩
      refine .inr (.inl ⟨a, xs, rfl, ha, fun z => ?_, fun _ p hp => k _ _ (hc.newT hp)⟩)
      have : cutD ds i j = ds := by
        unfold cutD
        rw [r.len] at z
        rw [z.1, z.2, List.drop_zero, Nat.sub_zero, List.take_length]
      rw [this] at k
      rw [tupD_sh et] at m
      exact k _ _ (h.dup m)
    · split at e
      · cases e
        rename_i ds et
        obtain ⟨a, xs, rfl, ha, had⟩ := h.lst m et
        obtain ⟨S, sb, r, q⟩ := had.ex
        have hc : Had Γ c R H (cutV xs i j) (cutD ds i j) := ⟨S, sb, r.cut i j, q⟩
        exact .inr (.inr ⟨a, xs, rfl, .of ha, fun p hp => k _ _ (hc.newL hp)⟩)
      · cases e

/-! ### built-ins -/
/-- a call of a built-in with one argument -/
def C1 (r : List V → Hp → VK → Prop) : V → Hp → VK → Prop := fun x H Q => r [x] H Q
theorem sx_call1 {ta : TE} {od : Od} {r : List V → Hp → VK → Prop} {g : O → Option O} (ha : Sa Γ P W (tCons ta tNil) [od]) (h : Op1 Γ (C1 r) g) : Sx Γ P W (tCB r (tCons ta tNil)) (aOp [od] (l1 g)) := show Sx Γ P W (fun σ H Q => ta σ H fun x H1 => C1 r x H1 Q) _ from sx_op1 ha h
theorem sx_call2 {ta tb : TE} {od oe : Od} {r : List V → Hp → VK → Prop} {g : O → O → Option O} (ha : Sa Γ P W (tCons ta (tCons tb tNil)) [od, oe]) (h : Op2 Γ (fun x y H Q => r [x, y] H Q) g) : Sx Γ P W (tCB r (tCons ta (tCons tb tNil))) (aOp [od, oe] (l2 g)) := sx_op2 ha h
def gLen : O → Option O
  | .lst os => some (.sh (.int os.length))
  | .dic kvs => some (.sh (.int kvs.length))
  | .sh (.lst ds) => some (.sh (.int ds.length))
  | .sh (.tup ds) => some (.sh (.int ds.length))
  | .sh (.wls ds) => some (.sh (.int ds.length))
  | .sh (.dic ds) => some (.sh (.int ds.length))
  | .sh (.str z) => if z.length ≤ 16000000 then some (.sh (.int z.length)) else none
  | _ => none
def rLenG (K : PySem.W.Frag) : List V → Hp → VK → Prop := fun xs H Q => (∃ x n, xs = [x] ∧ LenV K x H n ∧ Q (.int n) H) ∨ (∃ a kvs, xs = [V.ref a] ∧ H a = some (.dK kvs) ∧ Q (.int kvs.length) H)
theorem or_len {X : Cx} : CallR X (.builtin "len") (rLenG X.K) := CallR.or call_len call_lenD
theorem ok_len : Op1 Γ (C1 (rLenG Γ.K)) gLen := by
  intro c R H x ox w Q h m e k
  have r := h.rep m
  unfold gLen at e
  split at e
  · cases e
    rw [fz] at r
    cases r with
    | lst ha hl =>
      refine .inl ⟨_, _, rfl, .inl ⟨_, .of ha, rfl⟩, ?_⟩
      rw [hl.len, fzL_map, List.length_map]
      exact k _ _ (h.pure fun _ => .int _)
  · cases e
    rw [fz] at r
    cases r with
    | dic ha e1 hl =>
      refine .inr ⟨_, _, rfl, ha, ?_⟩
      have q := congrArg List.length e1
      rw [List.length_map, List.length_map, fzKV_map, List.length_map] at q
      rw [← q]
      exact k _ _ (h.pure fun _ => .int _)
  · cases e
    rw [fz] at r
    cases r with
    | lst ha hl =>
      refine .inl ⟨_, _, rfl, .inl ⟨_, .of ha, rfl⟩, ?_⟩
      rw [hl.len]
      exact k _ _ (h.pure fun _ => .int _)
  · cases e
    rw [fz] at r
    cases r with
    | tup ha hl =>
      refine .inl ⟨_, _, rfl, .inr ⟨_, ha, rfl⟩, ?_⟩
      rw [hl.len]
      exact k _ _ (h.pure fun _ => .int _)
  · cases e
    rw [fz] at r
    cases r with
    | wls ha hl =>
      refine .inl ⟨_, _, rfl, .inl ⟨_, ha, rfl⟩, ?_⟩
      rw [hl.len]
      exact k _ _ (h.pure fun _ => .int _)
  · cases e
    rw [fz] at r
    cases r with
    | dic ha e1 hl =>
      refine .inr ⟨_, _, rfl, ha, ?_⟩
      have q := congrArg List.length e1
      rw [List.length_map, List.length_map] at q
      rw [← q]
      exact k _ _ (h.pure fun _ => .int _)
  · split at e
    · cases e
      rename_i hl
      obtain rfl := h.str m
      exact .inl ⟨_, _, rfl, ⟨le_line hl, rfl⟩, k _ _ (h.pure fun _ => .int _)⟩
    · cases e
  · cases e
/-- a written list: its items -/
theorem RS.wls {c : Ent} {R : List (V × O)} {H : Hp} {v : V} {ds : List D} (h : RS Γ c R H) (m : (v, O.sh (.wls ds)) ∈ R) : ∃ a xs, v = .ref a ∧ SqL Γ.K H a xs ∧ Had Γ c R H xs ds := by
  obtain ⟨S, sb, rd, ad⟩ := h.readS
  obtain ⟨F, x⟩ := rd _ m
  cases x with
  | sh r =>
    cases r with
    | wls ha hl => exact ⟨_, _, rfl, sqL_mono (fun a o e => (sb a o e).1) ha, ⟨S, sb, hl, ad⟩⟩
def gList : O → Option O
  | .sh (.wls ds) => some (.lst (ds.map O.sh))
  | o => match tupD o with
    | some ds => some (.lst (ds.map O.sh))
    | none => match lstD o with
      | some ds => some (.lst (ds.map O.sh))
      | none => match dicD o with
        | some kvs => some (.lst ((kvs.map Prod.fst).map O.sh))
        | none => none
def rListG (K : PySem.W.Frag) : List V → Hp → VK → Prop := fun xs H Q => (∃ p ys, xs = [.ref p] ∧ (SqL K H p ys ∨ SqT K H p ys) ∧ ∀ l, H l = none → Q (.ref l) (upd H l (.lst ys))) ∨
  (∃ (a : Addr) (kvs : List (Key × V)), xs = [.ref a] ∧ Rd H a (.dK kvs) ∧ ∀ p, H p = none → Q (.ref p) (upd H p (.lst (kvs.map fun kv => kV kv.1))))
theorem or_list {X : Cx} (hc : X.calm = true) : CallR X (.type "list") (rListG X.K) := CallR.or call_list_of (call_listD hc)
theorem repL_keys {S : Hp} : ∀ ks : List (Key × V), RepL Γ S (ks.map fun kv => kV kv.1) (ks.map fun kv => kD kv.1)
  | [] => .nil
  | (k, v) :: ks => .cons (by cases k <;> constructor) (repL_keys ks)
theorem ok_list : Op1 Γ (C1 (rListG Γ.K)) gList := by
  intro c R H x ox w Q h m e k
  unfold gList at e
  split at e
  · cases e
    obtain ⟨a, xs, rfl, ha, had⟩ := h.wls m
    exact .inl ⟨a, xs, rfl, .inl ha, fun p hp => k _ _ (had.newL hp)⟩
  · split at e
    · cases e
      rename_i et
      obtain ⟨a, xs, rfl, ha, had⟩ := h.tup m et
      exact .inl ⟨a, xs, rfl, .inr ha, fun p hp => k _ _ (had.newL hp)⟩
    · split at e
      · cases e
        rename_i et
        obtain ⟨a, xs, rfl, ha, had⟩ := h.lst m et
        exact .inl ⟨a, xs, rfl, .inl (.of ha), fun p hp => k _ _ (had.newL hp)⟩
      · split at e
        · cases e
          rename_i kvs ed
          obtain ⟨a, ks, rfl, ha, e1, _⟩ := h.dic m ed
          obtain ⟨S, sb, rd, q⟩ := h.readS
          have hc : Had Γ c R H (ks.map fun kv => kV kv.1) (kvs.map Prod.fst) := ⟨S, sb, by rw [e1]; exact repL_keys ks, q⟩
          exact .inr ⟨a, ks, rfl, .inl ha, fun p hp => k _ _ (hc.newL hp)⟩
        · cases e
def gTuple (o : O) : Option O := match tupD o with
  | some ds => some (.sh (.tup ds))
  | none => match lstD o with
    | some ds => some (.sh (.tup ds))
    | none => none
theorem ok_tuple : Op1 Γ (C1 fun xs H Q => ∃ p ys, xs = [.ref p] ∧ ((SqL Γ.K H p ys ∧ ∀ l, H l = none → Q (.ref l) (upd H l (.tup ys))) ∨ (SqT Γ.K H p ys ∧ Q (.ref p) H))) gTuple := by
  intro c R H x ox w Q h m e k
  unfold gTuple at e
  split at e
  · cases e
    rename_i et
    obtain ⟨a, xs, rfl, ha, had⟩ := h.tup m et
    rw [tupD_sh et] at m
    exact ⟨a, xs, rfl, .inr ⟨ha, k _ _ (h.dup m)⟩⟩
  · split at e
    · cases e
      rename_i et
      obtain ⟨a, xs, rfl, ha, had⟩ := h.lst m et
      exact ⟨a, xs, rfl, .inl ⟨.of ha, fun p hp => k _ _ (had.newT hp)⟩⟩
    · cases e
def gInt : O → Option O
  | .sh (.int i) => some (.sh (.int i))
  | .sh (.bl b) => some (.sh (.int (if b then 1 else 0)))
  | .sh (.str a) => if a.length ≤ 640 then (PySem.intText? a).map fun n => .sh (.int n) else none
  | _ => none
def rIntG : List V → Hp → VK → Prop := fun xs H Q => ((∃ i, xs = [.int i] ∧ Q (.int i) H) ∨ ∃ k, xs = [.bl k] ∧ Q (.int (if k then 1 else 0)) H) ∨ (∃ a n, xs = [.str a] ∧ PySem.intText? a = some n ∧ a.length ≤ 640 ∧ Q (.int n) H)
theorem or_int {X : Cx} : CallR X (.type "int") rIntG := CallR.or call_int1 call_int_str
theorem ok_int : Op1 Γ (C1 rIntG) gInt := by
  intro c R H x ox w Q h m e k
  unfold gInt at e
  split at e
  · cases e
    obtain rfl := h.int m
    exact .inl (.inl ⟨_, rfl, k _ _ (h.pure fun _ => .int _)⟩)
  · cases e
    obtain rfl := h.bl m
    exact .inl (.inr ⟨_, rfl, k _ _ (h.pure fun _ => .int _)⟩)
  · split at e
    · rename_i hl
      simp only [Option.map_eq_some_iff] at e
      obtain ⟨n, en, rfl⟩ := e
      obtain rfl := h.str m
      exact .inr ⟨_, n, rfl, en, hl, k _ _ (h.pure fun _ => .int _)⟩
    · cases e
  · cases e
def gStr : O → Option O
  | .sh (.int i) => if i.natAbs.log2 < 1920 then some (.sh (.str (toString i))) else none
  | .sh (.str a) => some (.sh (.str a))
  | _ => none
def rStrG : List V → Hp → VK → Prop := fun xs H Q => (∃ i, xs = [.int i] ∧ i.natAbs.log2 < 1920 ∧ Q (.str (toString i)) H) ∨ (∃ a, xs = [.str a] ∧ Q (.str a) H)
theorem or_str {X : Cx} : CallR X (.type "str") rStrG := CallR.or call_str_int SkE.call_str_str
theorem ok_str : Op1 Γ (C1 rStrG) gStr := by
  intro c R H x ox w Q h m e k
  unfold gStr at e
  split at e
  · split at e
    · cases e
      rename_i hl
      obtain rfl := h.int m
      exact .inl ⟨_, rfl, hl, k _ _ (h.pure fun _ => .str _)⟩
    · cases e
  · cases e
    obtain rfl := h.str m
    exact .inr ⟨_, rfl, k _ _ (h.pure fun _ => .str _)⟩
  · cases e
def gMin2 : O → O → Option O
  | .sh (.int i), .sh (.int j) => some (.sh (.int (if j < i then j else i)))
  | _, _ => none
def gMax2 : O → O → Option O
  | .sh (.int i), .sh (.int j) => some (.sh (.int (if j > i then j else i)))
  | _, _ => none
theorem ok_min2 : Op2 Γ (fun x y H Q => (fun xs H (Q : VK) => ∃ i j : Int, xs = [V.int i, .int j] ∧ Q (.int (if j < i then j else i)) H) [x, y] H Q) gMin2 := by
  intro c R H x ox y oy w Q h m1 m2 e k
  unfold gMin2 at e
  split at e
  · cases e
    obtain rfl := h.int m1
    obtain rfl := h.int m2
    exact ⟨_, _, rfl, k _ _ (h.pure fun _ => .int _)⟩
  · cases e
theorem ok_max2 : Op2 Γ (fun x y H Q => (fun xs H (Q : VK) => ∃ i j : Int, xs = [V.int i, .int j] ∧ Q (.int (if j > i then j else i)) H) [x, y] H Q) gMax2 := by
  intro c R H x ox y oy w Q h m1 m2 e k
  unfold gMax2 at e
  split at e
  · cases e
    obtain rfl := h.int m1
    obtain rfl := h.int m2
    exact ⟨_, _, rfl, k _ _ (h.pure fun _ => .int _)⟩
  · cases e
def intsD : List D → Option (List Int)
  | [] => some []
  | .int i :: r => (intsD r).map (i :: ·)
  | _ :: _ => none
theorem intsD_some : ∀ {ds : List D} {ns : List Int}, intsD ds = some ns → ds = ns.map D.int
  | [], _, e => by cases e; rfl
  | .int i :: r, _, e => by
    simp only [intsD, Option.map_eq_some_iff] at e
    obtain ⟨ns, e, rfl⟩ := e
    rw [intsD_some e, List.map_cons]
theorem intsD_map : ∀ ns : List Int, intsD (ns.map D.int) = some ns
  | [] => rfl
  | n :: ns => by rw [List.map_cons, intsD, intsD_map ns, Option.map_some]
def boolsD : List D → Option (List Bool)
  | [] => some []
  | .bl i :: r => (boolsD r).map (i :: ·)
  | _ :: _ => none
theorem boolsD_some : ∀ {ds : List D} {ns : List Bool}, boolsD ds = some ns → ds = ns.map D.bl
  | [], _, e => by cases e; rfl
  | .bl i :: r, _, e => by
    simp only [boolsD, Option.map_eq_some_iff] at e
    obtain ⟨ns, e, rfl⟩ := e
    rw [boolsD_some e, List.map_cons]
theorem boolsD_map : ∀ ns : List Bool, boolsD (ns.map D.bl) = some ns
  | [] => rfl
  | n :: ns => by rw [List.map_cons, boolsD, boolsD_map ns, Option.map_some]
def strsD : List D → Option (List Str)
  | [] => some []
  | .str i :: r => (strsD r).map (i :: ·)
  | _ :: _ => none
theorem strsD_some : ∀ {ds : List D} {ns : List Str}, strsD ds = some ns → ds = ns.map D.str
  | [], _, e => by cases e; rfl
  | .str i :: r, _, e => by
    simp only [strsD, Option.map_eq_some_iff] at e
    obtain ⟨ns, e, rfl⟩ := e
    rw [strsD_some e, List.map_cons]
theorem strsD_map : ∀ ns : List Str, strsD (ns.map D.str) = some ns
  | [] => rfl
  | n :: ns => by rw [List.map_cons, strsD, strsD_map ns, Option.map_some]
def onInts (f : List Int → Option Int) (o : O) : Option O := match lstD o with
  | some ds => match intsD ds with
    | some ns => (f ns).map fun m => .sh (.int m)
    | none => none
  | none => none
def onBools (f : List Bool → Bool) (o : O) : Option O := match lstD o with
  | some ds => match boolsD ds with
    | some ns => some (.sh (.bl (f ns)))
    | none => none
  | none => none
def gMinL := onInts List.min?
def gMaxL := onInts List.max?
def gSum := onInts fun ns => some ns.sum
def gAny := onBools fun bs => bs.any id
def gAll := onBools fun bs => bs.all id
theorem RS.ints {c : Ent} {R : List (V × O)} {H : Hp} {v : V} {o : O} {ds : List D} {ns : List Int} (h : RS Γ c R H) (m : (v, o) ∈ R) (e : lstD o = some ds) (e2 : intsD ds = some ns) : ∃ a, v = .ref a ∧ SqL Γ.K H a (ns.map V.int) := by
  obtain ⟨a, xs, rfl, ha, had⟩ := h.lst m e
  obtain ⟨S, sb, r, _⟩ := had.ex
  rw [intsD_some e2] at r
  rw [r.ints] at ha
  exact ⟨a, rfl, .of ha⟩
theorem RS.bools {c : Ent} {R : List (V × O)} {H : Hp} {v : V} {o : O} {ds : List D} {ns : List Bool} (h : RS Γ c R H) (m : (v, o) ∈ R) (e : lstD o = some ds) (e2 : boolsD ds = some ns) : ∃ a, v = .ref a ∧ SqL Γ.K H a (ns.map V.bl) := by
  obtain ⟨a, xs, rfl, ha, had⟩ := h.lst m e
  obtain ⟨S, sb, r, _⟩ := had.ex
  rw [boolsD_some e2] at r
  rw [r.bools] at ha
  exact ⟨a, rfl, .of ha⟩
theorem RS.strs {c : Ent} {R : List (V × O)} {H : Hp} {v : V} {o : O} {ds : List D} {ns : List Str} (h : RS Γ c R H) (m : (v, o) ∈ R) (e : lstD o = some ds) (e2 : strsD ds = some ns) : ∃ a, v = .ref a ∧ H a = some (.lst (ns.map V.str)) := by
  obtain ⟨a, xs, rfl, ha, had⟩ := h.lst m e
  obtain ⟨S, sb, r, _⟩ := had.ex
  rw [strsD_some e2] at r
  rw [r.strs] at ha
  exact ⟨a, rfl, ha⟩
theorem ok_minL : Op1 Γ (C1 (rMin Γ.K)) gMinL := by
  intro c R H x ox w Q h m e k
  unfold gMinL onInts at e
  split at e
  · rename_i ds e1
    split at e
    · rename_i ns e2
      simp only [Option.map_eq_some_iff] at e
      obtain ⟨z, ez, rfl⟩ := e
      obtain ⟨a, rfl, ha⟩ := h.ints m e1 e2
      have hz := List.min?_eq_some_iff.mp ez
      refine ⟨a, ns, rfl, ha, List.length_pos_of_mem hz.1, fun y hy hle => ?_⟩
      have : y = z := Int.le_antisymm (hle z hz.1) (hz.2 y hy)
      rw [this]
      exact k _ _ (h.pure fun _ => .int _)
    · cases e
  · cases e
theorem ok_maxL : Op1 Γ (C1 (rMax Γ.K)) gMaxL := by
  intro c R H x ox w Q h m e k
  unfold gMaxL onInts at e
  split at e
  · rename_i ds e1
    split at e
    · rename_i ns e2
      simp only [Option.map_eq_some_iff] at e
      obtain ⟨z, ez, rfl⟩ := e
      obtain ⟨a, rfl, ha⟩ := h.ints m e1 e2
      have hz := List.max?_eq_some_iff.mp ez
      refine ⟨a, ns, rfl, ha, List.length_pos_of_mem hz.1, fun y hy hle => ?_⟩
      have : y = z := Int.le_antisymm (hz.2 y hy) (hle z hz.1)
      rw [this]
      exact k _ _ (h.pure fun _ => .int _)
    · cases e
  · cases e
theorem ok_sum : Op1 Γ (C1 (rSum Γ.K)) gSum := by
  intro c R H x ox w Q h m e k
  unfold gSum onInts at e
  split at e
  · rename_i ds e1
    split at e
    · rename_i ns e2
      cases e
      obtain ⟨a, rfl, ha⟩ := h.ints m e1 e2
      exact ⟨a, ns, rfl, ha, k _ _ (h.pure fun _ => .int _)⟩
    · cases e
  · cases e
theorem ok_any : Op1 Γ (C1 (rAny Γ.K)) gAny := by
  intro c R H x ox w Q h m e k
  unfold gAny onBools at e
  split at e
  · rename_i ds e1
    split at e
    · rename_i ns e2
      cases e
      obtain ⟨a, rfl, ha⟩ := h.bools m e1 e2
      exact ⟨a, ns, rfl, ha, k _ _ (h.pure fun _ => .bl _)⟩
    · cases e
  · cases e
theorem ok_all : Op1 Γ (C1 (rAll Γ.K)) gAll := by
  intro c R H x ox w Q h m e k
  unfold gAll onBools at e
  split at e
  · rename_i ds e1
    split at e
    · rename_i ns e2
      cases e
      obtain ⟨a, rfl, ha⟩ := h.bools m e1 e2
      exact ⟨a, ns, rfl, ha, k _ _ (h.pure fun _ => .bl _)⟩
    · cases e
  · cases e
end
end Den
end
section
/-! Den, part G: sorting of texts, isinstance. -/
namespace Den
open PySem L2 PySem.Spec PyProof.Rows
section
variable {Γ : Gb} {P : Nat → Bool} {W : WX}
/-! ### sorted of texts -/
def leStr (a b : Str) : Bool := !ltCps b.cps.toList a.cps.toList
def sortStr (xs : List Str) : List Str := xs.mergeSort leStr
theorem ltCps_lt (a b : List Nat) : ltCps a b = decide (a < b) := PyProof.Rows.ltCps_eq a b
theorem leStr_iff {a b : Str} : leStr a b = true ↔ ¬ b.cps.toList < a.cps.toList := by
  unfold leStr
  rw [ltCps_lt, Bool.not_eq_true', decide_eq_false_iff_not]
theorem leStr_trans {a b c : Str} (h1 : leStr a b = true) (h2 : leStr b c = true) : leStr a c = true := by
  rw [leStr_iff] at *
  have h1 : a.cps.toList ≤ b.cps.toList := h1
  have h2 : b.cps.toList ≤ c.cps.toList := h2
  exact List.le_trans h1 h2
theorem leStr_total (a b : Str) : (leStr a b || leStr b a) = true := by
  rw [Bool.or_eq_true, leStr_iff, leStr_iff]
  rcases List.le_total a.cps.toList b.cps.toList with h | h
  · exact .inl h
  · exact .inr h
theorem str_ext {a b : Str} (h : a.cps.toList = b.cps.toList) : a = b := by
  obtain ⟨⟨x⟩⟩ := a
  obtain ⟨⟨y⟩⟩ := b
  have : x = y := h
  rw [this]
theorem leStr_antisymm {a b : Str} (h1 : leStr a b = true) (h2 : leStr b a = true) : a = b := by
  rw [leStr_iff] at *
  have h1 : a.cps.toList ≤ b.cps.toList := h1
  have h2 : b.cps.toList ≤ a.cps.toList := h2
  exact str_ext (List.le_antisymm h1 h2)
theorem sortStr_perm (xs : List Str) : (sortStr xs).Perm xs := List.mergeSort_perm xs leStr
theorem sortStr_sorted (xs : List Str) : (sortStr xs).Pairwise (fun a b => leStr a b = true) := List.pairwise_mergeSort (le := leStr) (fun a b c h1 h2 => leStr_trans h1 h2) (fun a b => leStr_total a b) xs
theorem rising_all : ∀ {l : List Str} {p : Str}, risingS p l = true → (p :: l).Pairwise (fun a b => leStr a b = true)
  | [], p, _ => by simp
  | x :: r, p, h => by
    simp only [risingS, Bool.and_eq_true] at h
    have ih := rising_all h.2
    refine List.pairwise_cons.mpr ⟨fun b hb => ?_, ih⟩
    rcases List.mem_cons.mp hb with rfl | hb
    · exact h.1
    · exact leStr_trans h.1 ((List.pairwise_cons.mp ih).1 b hb)
theorem sorted_all {l : List Str} (h : sortedS l = true) : l.Pairwise (fun a b => leStr a b = true) := by
  cases l with
  | nil => simp
  | cons x r => exact rising_all h
theorem sortStr_eq {xs ys : List Str} (p : ys.Perm xs) (h : sortedS ys = true) : ys = sortStr xs :=
  List.Perm.eq_of_pairwise (le := fun a b => leStr a b = true) (fun a b _ _ h1 h2 => leStr_antisymm h1 h2) (sorted_all h) (sortStr_sorted xs) (p.trans (sortStr_perm xs).symm)
def gSortedS (o : O) : Option O := match lstD o with
  | some ds => match strsD ds with
    | some ss => if ss.length < 64 then some (.lst (((sortStr ss).map D.str).map O.sh)) else none
    | none => none
  | none => none
theorem ok_sortedS : Op1 Γ (C1 (rSortedS Γ.K)) gSortedS := by
  intro c R H x ox w Q h m e k
  unfold gSortedS at e
  split at e
  · rename_i ds e1
    split at e
    · rename_i ss e2
      split at e
      · cases e
        rename_i hl
        obtain ⟨a, rfl, ha⟩ := h.strs m e1 e2
        refine ⟨a, ss, rfl, .of ha, hl, fun ys p hp hs hn => ?_⟩
        rw [sortStr_eq hp hs]
        obtain ⟨S, sb, rd, q⟩ := h.readS
        have hc : Had Γ c R H ((sortStr ss).map V.str) ((sortStr ss).map D.str) := ⟨S, sb, repL_strs, q⟩
        exact k _ _ (hc.newL hn)
      · cases e
    · cases e
  · cases e
/-! ### isinstance of built-in classes -/
def tyN : D → Option String
  | .non => some "NoneType"
  | .bl _ => some "bool"
  | .int _ => some "int"
  | .str _ => some "str"
  | .tup _ => some "tuple"
  | .lst _ => some "list"
  | .wls _ => some "list"
  | .dic _ => some "dict"
  | _ => none
def isTy (t n : String) : Bool := t == n || (t == "bool" && n == "int")
def okTy (n : String) : Bool := n == "int" || n == "bool" || n == "str" || n == "tuple" || n == "list" || n == "dict"
theorem kit_all (t n : String) (ht : t = "NoneType" ∨ t = "bool" ∨ t = "int" ∨ t = "str" ∨ t = "tuple" ∨ t = "list" ∨ t = "dict") (hn : n = "int" ∨ n = "bool" ∨ n = "str" ∨ n = "tuple" ∨ n = "list" ∨ n = "dict") : kitB t n = some (isTy t n) := by
  rcases ht with rfl | rfl | rfl | rfl | rfl | rfl | rfl <;> rcases hn with rfl | rfl | rfl | rfl | rfl | rfl <;> decide +kernel
theorem tyN_ok {d : D} {t : String} (e : tyN d = some t) : t = "NoneType" ∨ t = "bool" ∨ t = "int" ∨ t = "str" ∨ t = "tuple" ∨ t = "list" ∨ t = "dict" := by
  cases d <;> simp [tyN] at e <;> subst e <;> simp
theorem ty_of {H : Hp} {v : V} {d : D} {t : String} (r : Rep Γ H v d) (e : tyN d = some t) : TyX Γ.K H v (.type t) := by
  cases r with
  | non => cases e; exact .base .non
  | bl b => cases e; exact .base (.bl b)
  | int i => cases e; exact .base (.int i)
  | str x => cases e; exact .base (.str x)
  | tup hs _ =>
    cases e
    rcases hs with (hs | ⟨o, hs⟩) | ⟨o, its, n, hk, hc, _⟩
    · exact .base (.tup hs)
    · exact .fTuple hs
    · exact .kTuple hk hc
  | lst hs _ => cases e; exact .base (.lst hs)
  | wls hs _ =>
    cases e
    rcases hs with (hs | ⟨o, hs⟩) | ⟨o, its, n, hk, hc, _⟩
    · exact .base (.lst hs)
    · exact .base (.frz hs)
    · exact .kList hk hc
  | dic hs _ _ => cases e; exact .base (.dK hs)
  | obj _ _ _ => cases e
  | xd _ _ _ => cases e
def gIsi (n : String) (o : O) : Option O := (tyN (fz o)).map fun t => .sh (.bl (isTy t n))
theorem ok_isi {n : String} (hn : n = "int" ∨ n = "bool" ∨ n = "str" ∨ n = "tuple" ∨ n = "list" ∨ n = "dict") : Op1 Γ (fun x H Q => rIsi Γ.K [x, .ty n] H Q) (gIsi n) := by
  intro c R H x ox w Q h m e k
  simp only [gIsi, Option.map_eq_some_iff] at e
  obtain ⟨t, et, rfl⟩ := e
  exact ⟨x, .ty n, .type t, .type n, _, rfl, .ty n, ty_of (h.rep m) et, kit_ty (kit_all t n (tyN_ok et) hn), k _ _ (h.pure fun _ => .bl _)⟩
def gIsi2 (n1 n2 : String) (o : O) : Option O := (tyN (fz o)).map fun t => .sh (.bl (isTy t n1 || isTy t n2))
theorem ok_isi2 {n1 n2 : String} (h1 : n1 = "int" ∨ n1 = "bool" ∨ n1 = "str" ∨ n1 = "tuple" ∨ n1 = "list" ∨ n1 = "dict") (h2 : n2 = "int" ∨ n2 = "bool" ∨ n2 = "str" ∨ n2 = "tuple" ∨ n2 = "list" ∨ n2 = "dict") :
    Op1 Γ (fun x H Q => ([V.ty n1, V.ty n2] : List V).length ≤ sizeLine ∧ ∀ p, H p = none → rIsiT Γ.K [x, .ref p] (upd H p (.tup [.ty n1, .ty n2])) Q) (gIsi2 n1 n2) := by
  intro c R H x ox w Q h m e k
  simp only [gIsi2, Option.map_eq_some_iff] at e
  obtain ⟨t, et, rfl⟩ := e
  refine ⟨by show 2 ≤ sizeLine; decide, fun p hp => ?_⟩
  have h' : RS Γ c R (upd H p (.tup [.ty n1, .ty n2])) := (h.new hp noT_tup).letgo
  refine ⟨x, p, [.ty n1, .ty n2], .type t, [.type n1, .type n2], _, rfl, upd_same, .cons (.ty n1) (.cons (.ty n2) .nil), ty_of (h'.rep m) et, ?_, k _ _ (h'.pure fun _ => .bl _)⟩
  have k1 := kit_ty (K := Γ.K) (kit_all t n1 (tyN_ok et) h1)
  have k2 := kit_ty (K := Γ.K) (kit_all t n2 (tyN_ok et) h2)
  refine kitAny_cons k1 (fun z => kitAny_cons k2 (fun z2 => ?_) fun z2 => by rw [z2, Bool.or_true]) fun z => by rw [z, Bool.true_or]
  rw [z, z2]
  rfl
end
end Den
end
section
/-! Den, part H: expressions as they stand in a text, with what they do. -/
namespace Den
open PySem L2 PySem.Spec PyProof.Rows
/-! ### names, constants -/
def aVar (i : Nat) : aE := fun ρ => match ρ[i]? with
  | some (some (.sh d)) => .ok (.sh d) ρ
  | some (some o) => .ok (.sh (fz o)) (ρ.set i (some (.sh (fz o))))
  | _ => .stuck
/-- a name's own thing is moved out of it -/
def aMove (i : Nat) : aE := fun ρ => match ρ[i]? with
  | some (some (.sh d)) => .ok (.sh d) ρ
  | some (some o) => .ok o (ρ.set i none)
  | _ => .stuck
def aC (d : D) : aE := fun ρ => .ok (.sh d) ρ
def aFz (g : aE) : aE := fun ρ => (g ρ).bind fun o ρ' => .ok (.sh (fz o)) ρ'
def aB (g : aE) : aT := fun ρ => (g ρ).bind fun o ρ' => match o with
  | .sh (.bl b) => .ok b ρ'
  | _ => .stuck
def truD : D → Option Bool
  | .non => some false
  | .bl b => some b
  | .int i => some (i != 0)
  | .str y => if y.length ≤ 16000000 then some ((y.length : Int) != 0) else none
  | .lst ds => some (!ds.isEmpty)
  | .tup ds => some (!ds.isEmpty)
  | .dic kvs => some (!kvs.isEmpty)
  | _ => none
def aTru (od : Od) : aT := fun ρ => (evA [od] ρ).bind fun rs ρ' => match rsv ρ' rs with
  | some [o] => match truD (fz o) with
    | some b => .ok b ρ'
    | none => .stuck
  | _ => .stuck
def aAnd (p q : aT) : aT := fun ρ => (p ρ).bind fun b ρ' => if b = true then q ρ' else .ok false ρ'
def aOr (p q : aT) : aT := fun ρ => (p ρ).bind fun b ρ' => if b = true then .ok true ρ' else q ρ'
def aNot (p : aT) : aT := fun ρ => (p ρ).bind fun b ρ' => .ok (!b) ρ'
def aIfE (p : aT) (g h : aE) : aE := fun ρ => (p ρ).bind fun b ρ' => if b = true then g ρ' else h ρ'
/-- a test's answer as a value -/
def aTV (p : aT) : aE := fun ρ => (p ρ).bind fun b ρ' => .ok (.sh (.bl b)) ρ'
/-- and, or as values, the first one True or False -/
def aAndV (p : aT) (g : aE) : aE := fun ρ => (p ρ).bind fun b ρ' => if b = true then g ρ' else .ok (.sh (.bl false)) ρ'
def aOrV (p : aT) (g : aE) : aE := fun ρ => (p ρ).bind fun b ρ' => if b = true then .ok (.sh (.bl true)) ρ' else g ρ'
section
variable {Γ : Gb} {P : Nat → Bool} {W : WX} {te ta tb : TE} {tt tu : TT} {g h : aE} {p q : aT} {i : Nat} {od : Od}
theorem SR.dupSlot {f : Fr} {σ : L2.St} {ρ : Store} {T : List (V × O)} {H : Hp} {d : D} (s : SR Γ P f σ ρ T H) (e : ρ[i]? = some (some (.sh d))) : ∃ v, σ[i]? = some (some v) ∧ SR Γ P f σ ρ ((v, .sh d) :: T) H := by
  obtain ⟨v, hv, _⟩ := s.take e
  refine ⟨v, hv, s.ok, s.fix, ?_⟩
  exact (s.rs.dup (v := v) (d := d) (List.mem_append_left _ (slots_mem s.ok e hv))).perm List.perm_middle.symm
theorem SR.dup0 {f : Fr} {σ : L2.St} {ρ : Store} {T : List (V × O)} {H : Hp} {v : V} {d : D} (s : SR Γ P f σ ρ ((v, .sh d) :: T) H) : SR Γ P f σ ρ ((v, .sh d) :: (v, .sh d) :: T) H :=
  s.mapT (T' := (v, .sh d) :: (v, .sh d) :: T) fun R q => q.dup (by simp)
theorem sx_var : Sx Γ P W (tVar i) (aVar i) := fun f σ ρ T H Q s k => by
  unfold aVar at k
  split at k
  · rename_i d e
    obtain ⟨v, hv, s'⟩ := s.dupSlot e
    exact ⟨v, hv, k v H s'⟩
  · rename_i o _ e
    obtain ⟨v, hv, s'⟩ := s.take e
    refine ⟨v, hv, k v H ?_⟩
    have z := (s'.fz.dup0).back hv
    rw [List.set_set] at z
    exact z
  · exact k.elim
theorem sx_move : Sx Γ P W (tVar i) (aMove i) := fun f σ ρ T H Q s k => by
  unfold aMove at k
  split at k
  · rename_i d e
    obtain ⟨v, hv, s'⟩ := s.dupSlot e
    exact ⟨v, hv, k v H s'⟩
  · rename_i o _ e
    obtain ⟨v, hv, s'⟩ := s.take e
    exact ⟨v, hv, k v H s'⟩
  · exact k.elim
theorem sx_c {v : V} {d : D} (r : ∀ S, Rep Γ S v d) : Sx Γ P W (tC v) (aC d) := fun f σ ρ T H Q s k => k v H (s.pure r)
theorem sx_fz (h1 : Sx Γ P W te g) : Sx Γ P W te (aFz g) := fun f σ ρ T H Q s k =>
  h1 f σ ρ T H Q s ((Good.bind k).imp fun o ρ' k v H' s' => k v H' s'.fz)
theorem sxt_b (h1 : Sx Γ P W te g) : Sxt Γ P W (tTest te) (aB g) := fun f σ ρ T H Q s k => by
  refine h1 f σ ρ T H _ s ((Good.bind k).imp fun o ρ' k v H' s' => ?_)
  split at k
  · rename_i b
    have : v = .bl b := s'.rs.bl (by simp)
    exact ⟨b, this, k H' s'.drop⟩
  · exact k.elim
theorem tru_of {S H : Hp} (sb : Sub S H) {v : V} {d : D} {b : Bool} (r : Rep Γ H v d) (e : truD d = some b) : TruV Γ.K v H b := by
  cases r with
  | non => cases e; rfl
  | bl b => cases e; rfl
  | int i => cases e; rfl
  | str x =>
    simp only [truD] at e
    split at e
    · cases e
      rename_i hl
      exact ⟨le_line hl, rfl⟩
    · cases e
  | tup hs hl =>
    cases e
    refine .inr (.inl ⟨_, hs, ?_⟩)
    cases hl <;> rfl
  | lst hs hl =>
    cases e
    refine .inl ⟨_, .of hs, ?_⟩
    cases hl <;> rfl
  | wls hs hl => cases e
  | dic hs e1 hl =>
    cases e
    refine .inr (.inr ⟨_, hs, ?_⟩)
    rename_i kvs dkvs
    cases kvs <;> cases dkvs <;> first | rfl | (simp at e1)
  | obj _ _ _ => cases e
  | xd _ _ _ => cases e
theorem sxt_tru (ha : Sa Γ P W (tCons ta tNil) [od]) : Sxt Γ P W (fun σ H Q => ta σ H fun x H' => ∃ k, TruV Γ.K x H' k ∧ Q k H') (aTru od) := fun f σ ρ T H Q s k => by
  refine ha f σ ρ T H (fun vs H' => match vs with
    | [x] => ∃ k, TruV Γ.K x H' k ∧ Q k H'
    | _ => True) s ((Good.bind k).imp fun rs ρ1 k vs T' H1 m s1 => ?_)
  match vs, rs, m with
  | [x], [q], m =>
    split at k
    · rename_i o eo
      split at k
      · rename_i b eb
        obtain ⟨ps, p1, p2, mem⟩ := rsv_ok m s1 eo
        match ps, p1, p2 with
        | [(x', o')], p1, p2 =>
          obtain rfl : x' = x := by simpa using p1
          obtain rfl : o' = o := by simpa using p2
          obtain ⟨S, sb, _⟩ := s1.rs.readS
          exact ⟨b, tru_of sb (s1.rs.rep (mem _ (by simp))) eb, k H1 s1.dropL⟩
      · exact k.elim
    · exact k.elim
  | [], _, _ => trivial
  | _ :: _ :: _, _, _ => trivial
theorem sxt_and (h1 : Sxt Γ P W tt p) (h2 : Sxt Γ P W tu q) : Sxt Γ P W (tAnd tt tu) (aAnd p q) := fun f σ ρ T H Q s k => by
  refine h1 f σ ρ T H _ s ((Good.bind k).imp fun b ρ' k H' s' => ?_)
  cases b with
  | true => exact iteT (h2 f σ ρ' T H' Q s' k)
  | false => exact iteF (k H' s')
theorem sxt_or (h1 : Sxt Γ P W tt p) (h2 : Sxt Γ P W tu q) : Sxt Γ P W (tOr tt tu) (aOr p q) := fun f σ ρ T H Q s k => by
  refine h1 f σ ρ T H _ s ((Good.bind k).imp fun b ρ' k H' s' => ?_)
  cases b with
  | true => exact iteT (k H' s')
  | false => exact iteF (h2 f σ ρ' T H' Q s' k)
theorem sxt_not (h1 : Sxt Γ P W tt p) : Sxt Γ P W (tNot tt) (aNot p) := fun f σ ρ T H Q s k =>
  h1 f σ ρ T H _ s ((Good.bind k).imp fun b ρ' k H' s' => k H' s')
theorem sx_if (h1 : Sxt Γ P W tt p) (h2 : Sx Γ P W ta g) (h3 : Sx Γ P W tb h) : Sx Γ P W (tIf tt ta tb) (aIfE p g h) := fun f σ ρ T H Q s k => by
  refine h1 f σ ρ T H _ s ((Good.bind k).imp fun b ρ' k H' s' => ?_)
  cases b with
  | true => exact iteT (h2 f σ ρ' T H' Q s' k)
  | false => exact iteF (h3 f σ ρ' T H' Q s' k)
theorem sx_andV (h1 : Sx Γ P W ta g) (h2 : Sx Γ P W tb h) : Sx Γ P W (tAndV ta tb) (aAndV (aB g) h) := fun f σ ρ T H Q s k => by
  refine h1 f σ ρ T H _ s ((Good.bind (Good.bind k)).imp fun o ρ' k v H' s' => ?_)
  split at k
  · rename_i b
    have : v = .bl b := s'.rs.bl (by simp)
    refine ⟨b, this, ?_⟩
    cases b with
    | true => exact iteT (h2 f σ ρ' T H' Q s'.drop k)
    | false => exact iteF (k _ H' (s'.drop.pure fun _ => .bl _))
  · exact k.elim
theorem sx_orV (h1 : Sx Γ P W ta g) (h2 : Sx Γ P W tb h) : Sx Γ P W (tOrV ta tb) (aOrV (aB g) h) := fun f σ ρ T H Q s k => by
  refine h1 f σ ρ T H _ s ((Good.bind (Good.bind k)).imp fun o ρ' k v H' s' => ?_)
  split at k
  · rename_i b
    have : v = .bl b := s'.rs.bl (by simp)
    refine ⟨b, this, ?_⟩
    cases b with
    | true => exact iteT (k _ H' (s'.drop.pure fun _ => .bl _))
    | false => exact iteF (h2 f σ ρ' T H' Q s'.drop k)
  · exact k.elim
theorem sx_notV (h1 : Sx Γ P W ta g) : Sx Γ P W (tNotV ta) (aTV (aNot (aB g))) := fun f σ ρ T H Q s k => by
  refine h1 f σ ρ T H _ s ((Good.bind (Good.bind (Good.bind k))).imp fun o ρ' k v H' s' => ?_)
  split at k
  · rename_i b
    have : v = .bl b := s'.rs.bl (by simp)
    exact ⟨b, this, k _ H' (s'.drop.pure fun _ => .bl _)⟩
  · exact k.elim
end
/-! ### displays -/
def gTup (os : List O) : Option O := match shs os with
  | some ds => if ds.length ≤ 16000000 then some (.sh (.tup ds)) else none
  | none => none
def gLst (os : List O) : Option O := if os.length ≤ 16000000 then some (.lst os) else none
section
variable {Γ : Gb} {P : Nat → Bool} {W : WX}
theorem RS.hadAll {c : Ent} {R : List (V × O)} {H : Hp} (h : RS Γ c R H) {ps : List (V × O)} (mem : ∀ p ∈ ps, p ∈ R) {ds : List D} (e : shs (ps.map Prod.snd) = some ds) : Had Γ c R H (ps.map Prod.fst) ds := by
  obtain ⟨S, sb, rd, ad⟩ := h.readS
  refine ⟨S, sb, ?_, ad⟩
  have z := shs_some e
  clear e
  induction ps generalizing ds with
  | nil =>
    cases ds with
    | nil => exact .nil
    | cons _ _ => cases z
  | cons p ps ih =>
    obtain ⟨v, o⟩ := p
    cases ds with
    | nil => cases z
    | cons d ds =>
      simp only [List.map_cons, List.cons.injEq] at z
      obtain ⟨rfl, z⟩ := z
      obtain ⟨F, x⟩ := rd _ (mem (v, .sh d) (by simp))
      exact .cons (by cases x with | sh r => exact r) (ih (fun p hp => mem p (by simp [hp])) z)
theorem ok_tupD : OpOk Γ (fun xs H Q => xs.length ≤ sizeLine ∧ ∀ p, H p = none → Q (.ref p) (upd H p (.tup xs))) gTup := by
  intro c R H ps o Q h mem e k
  unfold gTup at e
  split at e
  · rename_i ds es
    split at e
    · cases e
      rename_i hl
      have had := h.hadAll mem es
      exact ⟨le_line (by rw [had.len]; exact hl), fun p hp => k _ _ (had.newT hp)⟩
    · cases e
  · cases e
def gLstS (os : List O) : Option O := match shs os with
  | some ds => if ds.length ≤ 16000000 then some (.lst (ds.map O.sh)) else none
  | none => none
theorem ok_lstD : OpOk Γ (fun xs H Q => xs.length ≤ sizeLine ∧ ∀ p, H p = none → Q (.ref p) (upd H p (.lst xs))) gLstS := by
  intro c R H ps o Q h mem e k
  unfold gLstS at e
  split at e
  · rename_i ds es
    split at e
    · cases e
      rename_i hl
      have had := h.hadAll mem es
      exact ⟨le_line (by rw [had.len]; exact hl), fun p hp => k _ _ (had.newL hp)⟩
    · cases e
  · cases e
end

/-! ### as they stand in a text -/
structure AE (X : Cx) (Γ : Gb) (P : Nat → Bool) (W : WX) (e : Expr) (te : TE) (g : aE) : Prop where
  pe : PE X e te
  sx : Sx Γ P W te g
structure AT (X : Cx) (Γ : Gb) (P : Nat → Bool) (W : WX) (e : Expr) (tt : TT) (g : aT) : Prop where
  pt : PT X e tt
  sx : Sxt Γ P W tt g
structure AO (X : Cx) (Γ : Gb) (P : Nat → Bool) (W : WX) (e : Expr) (te : TE) (od : Od) : Prop where
  pe : PE X e te
  sa : ∀ {ta : TA} {ods : List Od}, Sa Γ P W ta ods → Sa Γ P W (tCons te ta) (od :: ods)
structure AA (X : Cx) (Γ : Gb) (P : Nat → Bool) (W : WX) (es : List Expr) (ta : TA) (ods : List Od) : Prop where
  pa : PA X es ta
  sa : Sa Γ P W ta ods
section
variable {X : Cx} {Γ : Gb} {P : Nat → Bool} {W : WX} {te ta tb : TE} {tas : TA} {tt tu : TT} {g h : aE} {p q : aT} {od oa ob : Od} {ods : List Od} {e a b : Expr} {es : List Expr} {pos : Pos} {k : Nat}
theorem ae_var (i : Nat) {x : Str} (hN : X.N[i]? = some x := by rfl) (hv : Vis X.env.scope x := by first | exact Or.inl rfl | exact Or.inr (Or.inl rfl) | exact Or.inr (Or.inr rfl)) (hd : (x == ("__debug__" : Str)) = false := by decide)
    (hcd : (x == ("__classdict__" : Str)) = false := by decide) : AE X Γ P W (.Name x pos) (tVar i) (aVar i) := ⟨pe_var hN hv hd hcd, sx_var⟩
theorem ae_move (i : Nat) {x : Str} (hN : X.N[i]? = some x := by rfl) (hv : Vis X.env.scope x := by first | exact Or.inl rfl | exact Or.inr (Or.inl rfl) | exact Or.inr (Or.inr rfl)) (hd : (x == ("__debug__" : Str)) = false := by decide)
    (hcd : (x == ("__classdict__" : Str)) = false := by decide) : AE X Γ P W (.Name x pos) (tVar i) (aMove i) := ⟨pe_var hN hv hd hcd, sx_move⟩
theorem ao_pl (i : Nat) {x : Str} (hN : X.N[i]? = some x := by rfl) (hv : Vis X.env.scope x := by first | exact Or.inl rfl | exact Or.inr (Or.inl rfl) | exact Or.inr (Or.inr rfl)) (hd : (x == ("__debug__" : Str)) = false := by decide)
    (hcd : (x == ("__classdict__" : Str)) = false := by decide) : AO X Γ P W (.Name x pos) (tVar i) (.pl i) := ⟨pe_var hN hv hd hcd, sa_pl⟩
theorem ao_ex (h : AE X Γ P W e te g) : AO X Γ P W e te (.ex g) := ⟨h.pe, sa_ex h.sx⟩
theorem ao_fz (h : AE X Γ P W e te g) : AO X Γ P W e te (.ex (aFz g)) := ⟨h.pe, sa_ex (sx_fz h.sx)⟩
theorem ae_fz (h : AE X Γ P W e te g) : AE X Γ P W e te (aFz g) := ⟨h.pe, sx_fz h.sx⟩
theorem aa_nil : AA X Γ P W [] tNil [] := ⟨pa_nil, sa_nil⟩
theorem aa_cons (h1 : AO X Γ P W e te od) (h2 : AA X Γ P W es tas ods) (hs : starEach (e :: es) X.env = (false, eval e X.env) :: starEach es X.env := by rfl) : AA X Γ P W (e :: es) (tCons te tas) (od :: ods) :=
  ⟨pa_cons h1.pe h2.pa hs, h1.sa h2.sa⟩
theorem ae_int {i : Int} {j : Nat} : AE X Γ P W (.Constant (.int i) j pos) (tC (.int i)) (aC (.int i)) := ⟨pe_int, sx_c fun _ => .int _⟩
theorem ae_bl {b : Bool} {j : Nat} : AE X Γ P W (.Constant (.bool b) j pos) (tC (.bl b)) (aC (.bl b)) := ⟨pe_bl, sx_c fun _ => .bl _⟩
theorem ae_str {x : Str} {j : Nat} : AE X Γ P W (.Constant (.str x) j pos) (tC (.str x)) (aC (.str x)) := ⟨pe_str, sx_c fun _ => .str _⟩
theorem ae_non {j : Nat} : AE X Γ P W (.Constant .none j pos) (tC .non) (aC .non) := ⟨pe_non, sx_c fun _ => .non⟩
theorem ae_glob {x : Str} {v : V} {u : Value} {d : D} (hm : X.mg x = some u) (r : RelV v u) (rp : ∀ S, Rep Γ S v d) (hg : Gl X x := by rfl) (hd : (x == ("__debug__" : Str)) = false := by decide) : AE X Γ P W (.Name x pos) (tC v) (aC d) :=
  ⟨pe_glob hg hm r hd, sx_c rp⟩
theorem ae_bin {op : Operator} {r : R2} {f : O → O → Option O} (ok : Op2 Γ r f) (ho : OpR X (binaryOp op) r) (ha : AO X Γ P W a ta oa) (hb : AO X Γ P W b tb ob) : AE X Γ P W (.BinOp a op b pos) (tOp r ta tb) (aOp [oa, ob] (l2 f)) :=
  ⟨pe_op ho ha.pe hb.pe, sx_op2 (ha.sa (hb.sa sa_nil)) ok⟩
theorem sx_un {r : V → Hp → VK → Prop} {f : O → Option O} (ha : Sa Γ P W (tCons ta tNil) [oa]) (ok : Op1 Γ r f) : Sx Γ P W (tUn r ta) (aOp [oa] (l1 f)) := show Sx Γ P W (fun σ H Q => ta σ H fun x H1 => r x H1 Q) _ from sx_op1 ha ok
theorem sx_isN (ha : Sa Γ P W (tCons ta tNil) [oa]) : Sx Γ P W (tIsN ta) (aOp [oa] (l1 gIsN)) := show Sx Γ P W (fun σ H Q => ta σ H fun x H1 => (fun x H (Q : VK) => Q (.bl (decide (x = .non))) H) x H1 Q) _ from sx_op1 ha ok_isN
theorem sx_notN (ha : Sa Γ P W (tCons ta tNil) [oa]) : Sx Γ P W (tNotN ta) (aOp [oa] (l1 gNotN)) := show Sx Γ P W (fun σ H Q => ta σ H fun x H1 => (fun x H (Q : VK) => Q (.bl (!decide (x = .non))) H) x H1 Q) _ from sx_op1 ha ok_notN
theorem ae_un {op : UnaryOp} {r : V → Hp → VK → Prop} {f : O → Option O} (ok : Op1 Γ r f) (ho : UnR X (unaryOp op) r) (ha : AO X Γ P W a ta oa) : AE X Γ P W (.UnaryOp op a pos) (tUn r ta) (aOp [oa] (l1 f)) :=
  ⟨pe_un ho ha.pe, sx_un (ha.sa sa_nil) ok⟩
theorem ae_cmp {op : CmpOp} {r : R2} {f : O → O → Option O} (ok : Op2 Γ r f) (ho : OpR X (compareOp op) r) (ha : AO X Γ P W a ta oa) (hb : AO X Γ P W b tb ob) (hm : behindInMarks op b = false := by first | exact nomark _ | rfl) :
    AE X Γ P W (.Compare a [op] [b] pos) (tOp r ta tb) (aOp [oa, ob] (l2 f)) := ⟨pe_cmpR ho ha.pe hb.pe hm, sx_op2 (ha.sa (hb.sa sa_nil)) ok⟩
theorem at_cmp {op : CmpOp} {r : R2} {f : O → O → Option O} (ok : Op2 Γ r f) (ho : OpR X (compareOp op) r) (ha : AO X Γ P W a ta oa) (hb : AO X Γ P W b tb ob) (hm : behindInMarks op b = false := by first | exact nomark _ | rfl) :
    AT X Γ P W (.Compare a [op] [b] pos) (tTest (tOp r ta tb)) (aB (aOp [oa, ob] (l2 f))) := ⟨pt_cmpR ho ha.pe hb.pe hm, sxt_b (sx_op2 (ha.sa (hb.sa sa_nil)) ok)⟩
theorem ae_isN {j : Nat} {pos' : Pos} (ha : AO X Γ P W a ta oa) : AE X Γ P W (.Compare a [.Is] [.Constant .none j pos'] pos) (tIsN ta) (aOp [oa] (l1 gIsN)) := ⟨pe_cmp (pc_isN ha.pe), sx_isN (ha.sa sa_nil)⟩
theorem ae_notN {j : Nat} {pos' : Pos} (ha : AO X Γ P W a ta oa) : AE X Γ P W (.Compare a [.IsNot] [.Constant .none j pos'] pos) (tNotN ta) (aOp [oa] (l1 gNotN)) := ⟨pe_cmp (pc_notN ha.pe), sx_notN (ha.sa sa_nil)⟩
theorem at_isN {j : Nat} {pos' : Pos} (ha : AO X Γ P W a ta oa) : AT X Γ P W (.Compare a [.Is] [.Constant .none j pos'] pos) (tB (tIsN ta)) (aB (aOp [oa] (l1 gIsN))) := ⟨pt_cmp (pc_isN ha.pe), sxt_b (sx_isN (ha.sa sa_nil))⟩
theorem at_notN {j : Nat} {pos' : Pos} (ha : AO X Γ P W a ta oa) : AT X Γ P W (.Compare a [.IsNot] [.Constant .none j pos'] pos) (tB (tNotN ta)) (aB (aOp [oa] (l1 gNotN))) := ⟨pt_cmp (pc_notN ha.pe), sxt_b (sx_notN (ha.sa sa_nil))⟩
theorem sx_tOpC {r : R2} {v : V} {f : O → Option O} (ok : Op1 Γ (fun x H Q => r x v H Q) f) (ha : Sa Γ P W (tCons ta tNil) [oa]) : Sx Γ P W (tOp r ta (tC v)) (aOp [oa] (l1 f)) :=
  show Sx Γ P W (fun σ H Q => ta σ H fun x H1 => (fun x H Q => r x v H Q) x H1 Q) _ from sx_op1 ha ok
theorem ae_isB {c : Bool} {j : Nat} {pos' : Pos} (ha : AO X Γ P W a ta oa) : AE X Γ P W (.Compare a [.Is] [.Constant (.bool c) j pos'] pos) (tOp rIsBG ta (tC (.bl c))) (aOp [oa] (l1 (gIsB c))) := ⟨pe_cmpR op_isBG ha.pe pe_bl (nomark _), sx_tOpC ok_isB (ha.sa sa_nil)⟩
theorem ae_notB {c : Bool} {j : Nat} {pos' : Pos} (ha : AO X Γ P W a ta oa) : AE X Γ P W (.Compare a [.IsNot] [.Constant (.bool c) j pos'] pos) (tOp rNotBG ta (tC (.bl c))) (aOp [oa] (l1 (gNotB c))) := ⟨pe_cmpR op_notBG ha.pe pe_bl (nomark _), sx_tOpC ok_notB (ha.sa sa_nil)⟩
theorem at_isB {c : Bool} {j : Nat} {pos' : Pos} (ha : AO X Γ P W a ta oa) : AT X Γ P W (.Compare a [.Is] [.Constant (.bool c) j pos'] pos) (tTest (tOp rIsBG ta (tC (.bl c)))) (aB (aOp [oa] (l1 (gIsB c)))) := ⟨pt_cmpR op_isBG ha.pe pe_bl (nomark _), sxt_b (sx_tOpC ok_isB (ha.sa sa_nil))⟩
theorem at_notB {c : Bool} {j : Nat} {pos' : Pos} (ha : AO X Γ P W a ta oa) : AT X Γ P W (.Compare a [.IsNot] [.Constant (.bool c) j pos'] pos) (tTest (tOp rNotBG ta (tC (.bl c)))) (aB (aOp [oa] (l1 (gNotB c)))) := ⟨pt_cmpR op_notBG ha.pe pe_bl (nomark _), sxt_b (sx_tOpC ok_notB (ha.sa sa_nil))⟩
theorem ae_ix (hr : Room k X.A) (hK : X.K = Γ.K) (ha : AO X Γ P W a ta oa) (hb : AO X Γ P W b tb ob) (hs : PlainIx b := by exact fun _ _ => rfl) : AE X Γ P W (.Subscript a b pos) (tOp (rIxG Γ.K) ta tb) (aOp [oa, ob] (l2 gIx)) :=
  ⟨pe_ix (hK ▸ or_ix (by have := hr.un; omega)) ha.pe hb.pe hs, sx_op2 (ha.sa (hb.sa sa_nil)) ok_ix⟩
/-- a part of a slice -/
structure AP (X : Cx) (Γ : Gb) (P : Nat → Bool) (W : WX) (e : Option Expr) (to : TO) (p : Option aE) : Prop where
  po : PO X e to
  sx : Sxo Γ P W to (aP p)
theorem ap_none : AP X Γ P W none tNoPart none := ⟨po_none, sxo_none⟩
theorem ap_some (h : AE X Γ P W e te g) : AP X Γ P W (some e) (tPart te) (some g) := ⟨po_some h.pe, sxo_some h.sx⟩
theorem ae_sl {lo hi : Option Expr} {tl th : TO} {pl ph : Option aE} {p2 : Pos} (hK : X.K = Γ.K) (ha : AO X Γ P W a ta oa) (hl : AP X Γ P W lo tl pl) (hh : AP X Γ P W hi th ph) : AE X Γ P W (.Subscript a (.Slice lo hi none p2) pos) (tSl (rSlG Γ.K) ta tl th) (aSl oa pl ph gSl) :=
  ⟨pe_slice (hK ▸ or_sl) ha.pe hl.po hh.po, sx_sl (ha.sa sa_nil) hl.sx hh.sx ok_sl⟩
theorem ae_tup {x1 : Nat} (ha : AA X Γ P W es tas ods) : AE X Γ P W (.Tuple es x1 pos) (tTup tas) (aOp ods gTup) := ⟨pe_tup ha.pa, sx_op ha.sa ok_tupD⟩
theorem ae_lst (ha : AA X Γ P W es tas ods) : AE X Γ P W (.List es pos) (tLst tas) (aOp ods gLstS) := ⟨pe_lst ha.pa, sx_op ha.sa ok_lstD⟩
theorem ae_ifE {c : Expr} (hc : AT X Γ P W c tt p) (ha : AE X Γ P W a ta g) (hb : AE X Γ P W b tb h) : AE X Γ P W (.IfExp c a b pos) (tIf tt ta tb) (aIfE p g h) := ⟨pe_ifExp hc.pt ha.pe hb.pe, sx_if hc.sx ha.sx hb.sx⟩
theorem ae_and2 {rest : List Expr} (ha : AE X Γ P W a ta g) (hb : AE X Γ P W (.BoolOp .And (b :: rest) pos) tb h) : AE X Γ P W (.BoolOp .And (a :: b :: rest) pos) (tAndV ta tb) (aAndV (aB g) h) := ⟨pe_and ha.pe hb.pe, sx_andV ha.sx hb.sx⟩
theorem ae_or2 {rest : List Expr} (ha : AE X Γ P W a ta g) (hb : AE X Γ P W (.BoolOp .Or (b :: rest) pos) tb h) : AE X Γ P W (.BoolOp .Or (a :: b :: rest) pos) (tOrV ta tb) (aOrV (aB g) h) := ⟨pe_or ha.pe hb.pe, sx_orV ha.sx hb.sx⟩
theorem ae_one {op : BoolOp} (ha : AE X Γ P W a ta g) : AE X Γ P W (.BoolOp op [a] pos) ta g := ⟨pe_one ha.pe, ha.sx⟩
theorem ae_not (ha : AE X Γ P W a ta g) : AE X Γ P W (.UnaryOp .Not a pos) (tNotV ta) (aTV (aNot (aB g))) := ⟨pe_not ha.pe, sx_notV ha.sx⟩
theorem at_val (ha : AE X Γ P W e te g) (he : ∀ whole, isTrue e X.env whole = (do let v ← whole; standAt e.pos; holding [v] (truthy v)) := by intro _; rfl) : AT X Γ P W e (tB te) (aB g) := ⟨pt_val ha.pe he, sxt_b ha.sx⟩
theorem at_tru (hK : X.K = Γ.K) (ha : AO X Γ P W e te od) (he : ∀ whole, isTrue e X.env whole = (do let v ← whole; standAt e.pos; holding [v] (truthy v)) := by intro _; rfl) : AT X Γ P W e (fun σ H Q => te σ H fun x H' => ∃ k, TruV Γ.K x H' k ∧ Q k H') (aTru od) :=
  ⟨hK ▸ pt_truth ha.pe he, sxt_tru (ha.sa sa_nil)⟩
theorem at_not (ha : AT X Γ P W e tt p) : AT X Γ P W (.UnaryOp .Not e pos) (tNot tt) (aNot p) := ⟨pt_not ha.pt, sxt_not ha.sx⟩
/-- a chain of and, or as a test -/
structure AW (X : Cx) (Γ : Gb) (P : Nat → Bool) (W : WX) (e : Expr) (tt : TT) (g : aT) : Prop where
  pw : PW X e tt
  sx : Sxt Γ P W tt g
theorem aw_and1 (ha : AT X Γ P W a tt p) : AW X Γ P W (.BoolOp .And [a] pos) tt p := ⟨pw_and1 ha.pt, ha.sx⟩
theorem aw_or1 (ha : AT X Γ P W a tt p) : AW X Γ P W (.BoolOp .Or [a] pos) tt p := ⟨pw_or1 ha.pt, ha.sx⟩
theorem aw_and {rest : List Expr} (ha : AT X Γ P W a tt p) (hb : AW X Γ P W (.BoolOp .And (b :: rest) pos) tu q) : AW X Γ P W (.BoolOp .And (a :: b :: rest) pos) (tAnd tt tu) (aAnd p q) := ⟨pw_and ha.pt hb.pw, sxt_and ha.sx hb.sx⟩
theorem aw_or {rest : List Expr} (ha : AT X Γ P W a tt p) (hb : AW X Γ P W (.BoolOp .Or (b :: rest) pos) tu q) : AW X Γ P W (.BoolOp .Or (a :: b :: rest) pos) (tOr tt tu) (aOr p q) := ⟨pw_or ha.pt hb.pw, sxt_or ha.sx hb.sx⟩
theorem at_w (h : AW X Γ P W e tt p) : AT X Γ P W e tt p := ⟨h.pw.pt, h.sx⟩
/-! calls of built-ins -/
theorem ae_b1 {id : String} {x : Str} {r : List V → Hp → VK → Prop} {f : O → Option O} {pn : Pos} (ok : Op1 Γ (C1 r) f) (hr : CallR X (.builtin id) r) (hm : X.mg x = none) (hv : bootBuiltins x = some (.builtin id)) (ha : AO X Γ P W a ta oa) (hg : Gl X x := by rfl)
    (hn : x ≠ "__name__" := by decide) (hdb : (x == ("__debug__" : Str)) = false := by decide) (he : starEach (a :: []) X.env = (false, eval a X.env) :: starEach [] X.env := by rfl) (hpl : (backTo pos (starEach [] X.env)).any (·.1) = false := by rfl) :
    AE X Γ P W (.Call (.Name x pn) [a] [] pos) (tCB r (tCons ta tNil)) (aOp [oa] (l1 f)) := ⟨pe_callB hr hg hm hv (pa_cons ha.pe pa_nil he) hn hdb he hpl, sx_call1 (ha.sa sa_nil) ok⟩
theorem ae_t1 {id : String} {x : Str} {r : List V → Hp → VK → Prop} {f : O → Option O} {pn : Pos} (ok : Op1 Γ (C1 r) f) (hr : CallR X (.type id) r) (hm : X.mg x = none) (hv : bootBuiltins x = some (.type id)) (ha : AO X Γ P W a ta oa) (hg : Gl X x := by rfl)
    (hn : x ≠ "__name__" := by decide) (hdb : (x == ("__debug__" : Str)) = false := by decide) (he : starEach (a :: []) X.env = (false, eval a X.env) :: starEach [] X.env := by rfl) (hpl : (backTo pos (starEach [] X.env)).any (·.1) = false := by rfl) :
    AE X Γ P W (.Call (.Name x pn) [a] [] pos) (tCB r (tCons ta tNil)) (aOp [oa] (l1 f)) := ⟨pe_callTy hr hg hm hv (pa_cons ha.pe pa_nil he) hn hdb he hpl, sx_call1 (ha.sa sa_nil) ok⟩
theorem ae_b2 {id : String} {x : Str} {r : List V → Hp → VK → Prop} {f : O → O → Option O} {pn : Pos} (ok : Op2 Γ (fun x y H Q => r [x, y] H Q) f) (hr : CallR X (.builtin id) r) (hm : X.mg x = none) (hv : bootBuiltins x = some (.builtin id)) (ha : AO X Γ P W a ta oa) (hb : AO X Γ P W b tb ob) (hg : Gl X x := by rfl)
    (hn : x ≠ "__name__" := by decide) (hdb : (x == ("__debug__" : Str)) = false := by decide) (he : starEach (a :: [b]) X.env = (false, eval a X.env) :: starEach [b] X.env := by rfl) (he2 : starEach (b :: []) X.env = (false, eval b X.env) :: starEach [] X.env := by rfl) (hpl : (backTo pos (starEach [b] X.env)).any (·.1) = false := by rfl) :
    AE X Γ P W (.Call (.Name x pn) [a, b] [] pos) (tCB r (tCons ta (tCons tb tNil))) (aOp [oa, ob] (l2 f)) := ⟨pe_callB hr hg hm hv (pa_cons ha.pe (pa_cons hb.pe pa_nil he2) he) hn hdb he hpl, sx_call2 (ha.sa (hb.sa sa_nil)) ok⟩
end
end Den
end
section
/-! Den, part I: what a for walks. -/
namespace Den
open PySem L2 PySem.Spec PyProof.Rows RZ
/-- an iterator that hands out the items ds, while the things Rj are held -/
structure IterOk (Γ : Gb) (J : It) (ds : List D) (Rj : List (V × O)) : Prop where
  go : ∀ c R i H, RS Γ c (Rj ++ R) H → i < ds.length → J.go i H
  stop : ∀ c R H, RS Γ c (Rj ++ R) H → J.stop ds.length H
  yld : ∀ c R i d x H H', RS Γ c (Rj ++ R) H → ds[i]? = some d → J.yld i H x H' → RS Γ c ((x, .sh d) :: (Rj ++ R)) H'
abbrev aI := Store → Res (List D)
def Sxi (Γ : Gb) (P : Nat → Bool) (W : WX) (wi : TI) (src : aI) : Prop := ∀ f σ ρ T H (R : It → Hp → Prop), SR Γ P f σ ρ T H →
  Good Γ P W f σ T (fun ds ρ' => ∀ J Rj H', IterOk Γ J ds Rj → SR Γ P f σ ρ' (Rj ++ T) H' → R J H') (src ρ) → wi σ H R
structure AI (X : Cx) (Γ : Gb) (P : Nat → Bool) (W : WX) (tg e : Expr) (wi : TI) (src : aI) : Prop where
  pi : PI X tg e wi
  sx : Sxi Γ P W wi src
/-- the items of a list, a tuple, a text -/
def itemsD : O → Option (List D)
  | .sh (.lst ds) => some ds
  | .sh (.wls ds) => some ds
  | .sh (.tup ds) => some ds
  | .sh (.str z) => some (z.cps.toList.map fun c => .str ⟨#[c]⟩)
  | _ => none
def aItems (g : aE) : aI := fun ρ => (g ρ).bind fun o ρ' => match itemsD o with
  | some ds => .ok ds ρ'
  | none => .stuck
def iAny (K : PySem.W.Frag) (tl : TE) : TI := fun σ H R => tl σ H fun x H1 => (∃ a, x = .ref a ∧ (∃ xs, SqL K H1 a xs) ∧ R (Itl K a) H1) ∨ (∃ a, x = .ref a ∧ (∃ xs, SqT K H1 a xs) ∧ R (Itt K a) H1) ∨ (∃ z, x = .str z ∧ R (Its z) H1)
theorem pi_any {X : Cx} {tg l : Expr} {tl : TE} (hl : PE X l tl) : PI X tg l (iAny X.K tl) := by
  refine ⟨fun pins s σ H R I h => ?_⟩
  refine thn (hl.run pins s σ H _ I h) fun v s1 ⟨x, H1, I1, r1, q1⟩ => ?_
  rcases q1 with ⟨a, e, ⟨xs, hq⟩, q⟩ | ⟨a, e, ⟨xs, hq⟩, q⟩ | ⟨x, e, q⟩
  · subst e
    cases r1
    obtain ⟨its, rv, p, hz⟩ := I1.list hq
    refine wpAny_pyIter_list p.isList ?_
    refine ⟨s1.heap.objs.size, [s1.heap.objs.size], _, _, H1, rfl, I1.kept (t' := s1.toks) fun b o e => Heap.get?_push_of_some _ e, turn_list a _, ⟨_, Heap.get?_push_size _ rfl, rfl, rfl⟩, fun b hb => ?_, q⟩
    have e : b = s1.heap.objs.size := by simpa using hb
    subst e
    exact I1.fpOk (Nat.le_refl _) (I1.hok.fresh (Nat.le_refl _))
  · subst e
    cases r1
    obtain ⟨its, rv, p, hz⟩ := I1.tuple hq
    refine wpAny_pyIter_tuple (show s1.heap.IsTuple a its.toArray from p) ?_
    refine ⟨s1.heap.objs.size, [s1.heap.objs.size], _, _, H1, rfl, I1.kept (t' := s1.toks) fun b o e => Heap.get?_push_of_some _ e, turn_tuple a _, ⟨_, Heap.get?_push_size _ rfl, rfl, rfl⟩, fun b hb => ?_, q⟩
    have e : b = s1.heap.objs.size := by simpa using hb
    subst e
    exact I1.fpOk (Nat.le_refl _) (I1.hok.fresh (Nat.le_refl _))
  · subst e
    obtain ⟨t, rfl⟩ := r1
    cases ha : x.cps.all (· < 128)
    · exact wpAny_pyIter_wide ha (pi_one (tk := s1.toks) I1 _ (turn_str _ x t "str_iterator" (.inr rfl)) ⟨_, Heap.get?_push_size _ rfl, rfl, rfl⟩ q)
    · exact wpAny_pyIter_ascii ha (pi_one (tk := s1.toks) I1 _ (turn_str _ x t "str_ascii_iterator" (.inl rfl)) ⟨_, Heap.get?_push_size _ rfl, rfl, rfl⟩ q)
section
variable {Γ : Gb} {P : Nat → Bool} {W : WX}
theorem RepL.at {S : Hp} {xs : List V} {ds : List D} {i : Nat} {d : D} {x : V} (r : RepL Γ S xs ds) (e : ds[i]? = some d) (h : xs[i]? = some x) : Rep Γ S x d := by
  obtain ⟨v, a, b⟩ := r.get e
  rw [h] at a
  cases a
  exact b
theorem lt_of_get {α : Type} {xs : List α} {i : Nat} {x : α} (h : xs[i]? = some x) : i < xs.length := (List.getElem?_eq_some_iff.mp h).1
theorem get_of_lt {α : Type} {xs : List α} {i : Nat} (h : i < xs.length) : ∃ x, xs[i]? = some x := ⟨_, List.getElem?_eq_getElem h⟩
/-- a list that is held, by its items -/
theorem iter_L {a : Addr} {d0 : D} {ds : List D} (hd : d0 = .lst ds ∨ d0 = .wls ds) : IterOk Γ (Itl Γ.K a) ds [(.ref a, .sh d0)] := by
  have key : ∀ c R H, RS Γ c ([(V.ref a, O.sh d0)] ++ R) H → ∃ xs, SqL Γ.K H a xs ∧ Had Γ c ((V.ref a, O.sh d0) :: R) H xs ds := by
    intro c R H h
    rcases hd with rfl | rfl
    · obtain ⟨a', xs, e, p, q⟩ := RS.lst (v := .ref a) (o := .sh (.lst ds)) h (by simp) rfl
      cases e
      exact ⟨xs, .of p, q⟩
    · obtain ⟨a', xs, e, p, q⟩ := RS.wls (v := .ref a) (ds := ds) h (by simp)
      cases e
      exact ⟨xs, p, q⟩
  refine ⟨fun c R i H h hi => ?_, fun c R H h => ?_, fun c R i d x H H' h e y => ?_⟩
  · obtain ⟨xs, p, q⟩ := key c R H h
    obtain ⟨x, hx⟩ := get_of_lt (xs := xs) (i := i) (by rw [q.len]; exact hi)
    exact ⟨xs, x, p, hx⟩
  · obtain ⟨xs, p, q⟩ := key c R H h
    exact ⟨xs, p, by rw [q.len]; exact Nat.le_refl _⟩
  · obtain ⟨xs, p, q⟩ := key c R H h
    obtain ⟨rfl, y⟩ := y
    obtain ⟨w, hw, z⟩ := q.get e
    have := y xs p
    rw [hw] at this
    cases this
    exact z
theorem iter_T {a : Addr} {ds : List D} : IterOk Γ (Itt Γ.K a) ds [(.ref a, .sh (.tup ds))] := by
  have key : ∀ c R H, RS Γ c ([(V.ref a, O.sh (.tup ds))] ++ R) H → ∃ xs, SqT Γ.K H a xs ∧ Had Γ c ((V.ref a, O.sh (.tup ds)) :: R) H xs ds := by
    intro c R H h
    obtain ⟨a', xs, e, p, q⟩ := RS.tup (v := .ref a) (o := .sh (.tup ds)) h (by simp) rfl
    cases e
    exact ⟨xs, p, q⟩
  refine ⟨fun c R i H h hi => ?_, fun c R H h => ?_, fun c R i d x H H' h e y => ?_⟩
  · obtain ⟨xs, p, q⟩ := key c R H h
    obtain ⟨x, hx⟩ := get_of_lt (xs := xs) (i := i) (by rw [q.len]; exact hi)
    exact ⟨xs, x, p, hx⟩
  · obtain ⟨xs, p, q⟩ := key c R H h
    exact ⟨xs, p, by rw [q.len]; exact Nat.le_refl _⟩
  · obtain ⟨xs, p, q⟩ := key c R H h
    obtain ⟨rfl, y⟩ := y
    obtain ⟨w, hw, z⟩ := q.get e
    have := y xs p
    rw [hw] at this
    cases this
    exact z
theorem iter_S {z : Str} : IterOk Γ (Its z) (z.cps.toList.map fun c => .str ⟨#[c]⟩) [] := by
  refine ⟨fun c R i H h hi => ?_, fun c R H h => ?_, fun c R i d x H H' h e y => ?_⟩
  · show i < z.cps.size
    simpa using hi
  · show z.cps.size ≤ _
    simp
  · obtain ⟨rfl, c', hc, rfl⟩ := y
    rw [List.getElem?_map, Array.getElem?_toList, hc] at e
    cases e
    exact h.pure fun _ => .str _
theorem sxi_any {te : TE} {g : aE} (h1 : Sx Γ P W te g) : Sxi Γ P W (iAny Γ.K te) (aItems g) := fun f σ ρ T H R s k => by
  refine h1 f σ ρ T H _ s ((Good.bind k).imp fun o ρ' k v H' s' => ?_)
  split at k
  · rename_i ds eds
    unfold itemsD at eds
    split at eds
    · cases eds
      obtain ⟨a, xs, rfl, p, q⟩ := RS.lst (v := v) (o := .sh (.lst ds)) s'.rs (by simp) rfl
      exact .inl ⟨a, rfl, ⟨xs, .of p⟩, k _ [(.ref a, .sh (.lst ds))] H' (iter_L (.inl rfl)) s'⟩
    · cases eds
      obtain ⟨a, xs, rfl, p, q⟩ := RS.wls (v := v) (ds := ds) s'.rs (by simp)
      exact .inl ⟨a, rfl, ⟨xs, p⟩, k _ [(.ref a, .sh (.wls ds))] H' (iter_L (.inr rfl)) s'⟩
    · cases eds
      obtain ⟨a, xs, rfl, p, q⟩ := RS.tup (v := v) (o := .sh (.tup ds)) s'.rs (by simp) rfl
      exact .inr (.inl ⟨a, rfl, ⟨xs, p⟩, k _ [(.ref a, .sh (.tup ds))] H' iter_T s'⟩)
    · cases eds
      rename_i z
      obtain rfl : v = .str z := s'.rs.str (by simp)
      exact .inr (.inr ⟨z, rfl, k _ [] H' iter_S s'.drop⟩)
    · cases eds
  · exact k.elim
/-! ranges -/
def rngD (lo : Int) (n : Nat) : List D := (List.range n).map fun i : Nat => .int (lo + i)
def aRng1 (g : aE) : aI := fun ρ => (g ρ).bind fun o ρ' => match o with
  | .sh (.int j) => if -1000000000 ≤ j ∧ j ≤ 1000000000 then .ok (rngD 0 j.toNat) ρ' else .stuck
  | _ => .stuck
def aRng2 (od oe : Od) : aI := fun ρ => (evA [od, oe] ρ).bind fun rs ρ' => match rsv ρ' rs with
  | some [.sh (.int i), .sh (.int j)] => if (-1000000000 ≤ i ∧ i ≤ 1000000000) ∧ -1000000000 ≤ j ∧ j ≤ 1000000000 then .ok (rngD i (j - i).toNat) ρ' else .stuck
  | _ => .stuck
/-- downward by ones -/
def dwnD (hi : Int) (n : Nat) : List D := (List.range n).map fun i : Nat => .int (hi + (i : Int) * (-1))
def aRngD (od oe : Od) : aI := fun ρ => (evA [od, oe] ρ).bind fun rs ρ' => match rsv ρ' rs with
  | some [.sh (.int i), .sh (.int j)] => if (-1000000000 ≤ i ∧ i ≤ 1000000000) ∧ -1000000000 ≤ j ∧ j ≤ 1000000000 then .ok (dwnD i (i - j).toNat) ρ' else .stuck
  | _ => .stuck
theorem iter_R {lo : Int} {n : Nat} : IterOk Γ (Itr lo n) (rngD lo n) [] := by
  refine ⟨fun c R i H h hi => ?_, fun c R H h => ?_, fun c R i d x H H' h e y => ?_⟩
  · show i < n
    simpa [rngD] using hi
  · show n ≤ _
    simp [rngD]
  · obtain ⟨rfl, rfl⟩ := y
    unfold rngD at e
    rw [List.getElem?_map] at e
    obtain ⟨j, hj, rfl⟩ := Option.map_eq_some_iff.mp e
    obtain ⟨hl, hj⟩ := List.getElem?_eq_some_iff.mp hj
    rw [List.getElem_range] at hj
    subst hj
    exact h.pure fun _ => .int _
theorem iter_C {hi : Int} {n : Nat} : IterOk Γ (Itc hi (-1) n) (dwnD hi n) [] := by
  refine ⟨fun c R i H h hlt => ?_, fun c R H h => ?_, fun c R i d x H H' h e y => ?_⟩
  · show i < n
    simpa [dwnD] using hlt
  · show n ≤ _
    simp [dwnD]
  · obtain ⟨rfl, rfl⟩ := y
    unfold dwnD at e
    rw [List.getElem?_map] at e
    obtain ⟨j, hj, rfl⟩ := Option.map_eq_some_iff.mp e
    obtain ⟨hl, hj⟩ := List.getElem?_eq_some_iff.mp hj
    rw [List.getElem_range] at hj
    subst hj
    exact h.pure fun _ => .int _
theorem sxi_rng1 {te : TE} {g : aE} (h1 : Sx Γ P W te g) : Sxi Γ P W (iRng1 (tCons te tNil)) (aRng1 g) := fun f σ ρ T H R s k => by
  refine h1 f σ ρ T H _ s ((Good.bind k).imp fun o ρ' k v H' s' => ?_)
  split at k
  · rename_i j
    split at k
    · rename_i hj
      obtain rfl : v = .int j := s'.rs.int (by simp)
      exact ⟨j, rfl, by omega, by omega, k _ [] H' iter_R s'.drop⟩
    · exact k.elim
  · exact k.elim
theorem two_ints {f : Fr} {σ : L2.St} {ρ : Store} {T T' : List (V × O)} {H : Hp} {vs : List V} {rs : List Rv} {i j : Int} (m : Mt σ T' vs rs) (s : SR Γ P f σ ρ (T' ++ T) H) (e : rsv ρ rs = some [.sh (.int i), .sh (.int j)]) : vs = [.int i, .int j] := by
  obtain ⟨ps, p1, p2, mem⟩ := rsv_ok m s e
  match ps, p2 with
  | [(x, o), (y, u)], p2 =>
    simp only [List.map_cons, List.map_nil, List.cons.injEq, and_true] at p2
    obtain ⟨rfl, rfl⟩ := p2
    have e1 := s.rs.int (v := x) (i := i) (mem _ (by simp))
    have e2 := s.rs.int (v := y) (i := j) (mem _ (by simp))
    rw [← p1, e1, e2]
    rfl
theorem sxi_rng2 {ta tb : TE} {od oe : Od} (ha : Sa Γ P W (tCons ta (tCons tb tNil)) [od, oe]) : Sxi Γ P W (iRng2 (tCons ta (tCons tb tNil))) (aRng2 od oe) := fun f σ ρ T H R s k => by
  refine ha f σ ρ T H _ s ((Good.bind k).imp fun rs ρ' k vs T' H' m s' => ?_)
  split at k
  · rename_i i j e
    split at k
    · rename_i hj
      rw [two_ints m s' e]
      exact ⟨i, j, rfl, ⟨by omega, by omega, by omega, by omega⟩, k _ [] H' iter_R s'.dropL⟩
    · exact k.elim
  · exact k.elim
/-- range(a, b, -1) -/
theorem sxi_rngD {ta tb : TE} {od oe : Od} (ha : Sa Γ P W (tCons ta (tCons tb tNil)) [od, oe]) : Sxi Γ P W (iRng3 (tCons ta (tCons tb (tCons (tUn (rU fun i => .int (-i)) (tC (.int 1))) tNil)))) (aRngD od oe) := fun f σ ρ T H R s k => by
  refine ha f σ ρ T H (fun vs H' => match vs with
    | [x, y] => ∃ z : Int, V.int 1 = V.int z ∧ ∃ (i j c : Int) (n : Nat), [x, y, V.int (-z)] = [V.int i, .int j, .int c] ∧ RgC i j c n ∧ R (Itc i c n) H'
    | _ => True) s ((Good.bind k).imp fun rs ρ' k vs T' H' m s' => ?_)
  split at k
  · rename_i i j e
    split at k
    · rename_i hj
      rw [two_ints m s' e]
      exact ⟨1, rfl, i, j, -1, _, rfl, RgC.neg (by omega) (by omega) (by omega) (by omega), k _ [] H' iter_C s'.dropL⟩
    · exact k.elim
  · exact k.elim
/-! two lists, two tuples, side by side -/
def zipD (xs ys : List D) : List D := (xs.zip ys).map fun p => .tup [p.1, p.2]
def aZip (g1 g2 : aE) : aI := fun ρ => (g1 ρ).bind fun o1 ρ1 => (g2 ρ1).bind fun o2 ρ2 => match o1, o2 with
  | .sh (.lst xs), .sh (.lst ys) => .ok (zipD xs ys) ρ2
  | .sh (.tup xs), .sh (.tup ys) => .ok (zipD xs ys) ρ2
  | _, _ => .stuck
theorem zipD_get {xs ys : List D} {i : Nat} {d : D} (e : (zipD xs ys)[i]? = some d) : ∃ a b, xs[i]? = some a ∧ ys[i]? = some b ∧ d = .tup [a, b] := by
  unfold zipD at e
  rw [List.getElem?_map] at e
  obtain ⟨⟨a, b⟩, hj, rfl⟩ := Option.map_eq_some_iff.mp e
  rw [List.getElem?_zip_eq_some] at hj
  exact ⟨a, b, hj.1, hj.2, rfl⟩
theorem RS.pair {c : Ent} {R : List (V × O)} {H : Hp} {x y : V} {a b : D} (h : RS Γ c ((x, .sh a) :: (y, .sh b) :: R) H) {T : Addr} (hT : H T = none) : RS Γ c ((.ref T, .sh (.tup [a, b])) :: R) (upd H T (.tup [x, y])) := by
  have q := (RS.newT (rs := [(x, .sh a), (y, .sh b)]) (R := R) h hT).freeze
  simpa [fz, fzL] using q
theorem iter_ZL {a b : Addr} {xs ys : List D} : IterOk Γ (Itz Γ.K a b) (zipD xs ys) [(.ref b, .sh (.lst ys)), (.ref a, .sh (.lst xs))] := by
  have key : ∀ c R H, RS Γ c ([(V.ref b, O.sh (.lst ys)), (V.ref a, O.sh (.lst xs))] ++ R) H → (∃ us, SqL Γ.K H a us ∧ Had Γ c ([(V.ref b, O.sh (.lst ys)), (V.ref a, O.sh (.lst xs))] ++ R) H us xs) ∧ ∃ us, SqL Γ.K H b us ∧ Had Γ c ([(V.ref b, O.sh (.lst ys)), (V.ref a, O.sh (.lst xs))] ++ R) H us ys := by
    intro c R H h
    obtain ⟨a', us, e, p, q⟩ := RS.lst (v := .ref a) (o := .sh (.lst xs)) h (by simp) rfl
    obtain ⟨b', vs, e', p', q'⟩ := RS.lst (v := .ref b) (o := .sh (.lst ys)) h (by simp) rfl
    cases e
    cases e'
    exact ⟨⟨us, .of p, q⟩, vs, .of p', q'⟩
  refine ⟨fun c R i H h hi => ?_, fun c R H h => ?_, fun c R i d x H H' h e y => ?_⟩
  · obtain ⟨⟨us, p, q⟩, vs, p', q'⟩ := key c R H h
    have hl : i < min xs.length ys.length := by simpa [zipD] using hi
    obtain ⟨x, hx⟩ := get_of_lt (xs := us) (i := i) (by rw [q.len]; omega)
    obtain ⟨y, hy⟩ := get_of_lt (xs := vs) (i := i) (by rw [q'.len]; omega)
    exact ⟨us, vs, x, y, p, p', hx, hy⟩
  · obtain ⟨⟨us, p, q⟩, vs, p', q'⟩ := key c R H h
    refine ⟨us, vs, p, p', ?_⟩
    rw [q.len, q'.len]
    simp only [zipD, List.length_map, List.length_zip]
    omega
  · obtain ⟨⟨us, p, q⟩, vs, p', q'⟩ := key c R H h
    obtain ⟨T, x1, y1, rfl, hT, rfl, h1, h2⟩ := y
    obtain ⟨da, db, ea, eb, rfl⟩ := zipD_get e
    obtain ⟨S, sb, r, ad, _⟩ := q.ex
    obtain ⟨S', sb', r', ad', _⟩ := q'.ex
    have z1 := ad _ _ (r.at ea (h1 us p))
    have z2 : RS Γ c ((y1, .sh db) :: (x1, .sh da) :: ([(V.ref b, O.sh (.lst ys)), (V.ref a, O.sh (.lst xs))] ++ R)) H := by
      obtain ⟨b2, vs2, e2, p2, q2⟩ := RS.lst (v := .ref b) (o := .sh (.lst ys)) z1 (by simp) rfl
      cases e2
      obtain ⟨w, hw, z⟩ := q2.get eb
      have := h2 vs2 (.of p2)
      rw [hw] at this
      cases this
      exact z
    exact RS.pair (z2.perm (List.Perm.swap _ _ _)) hT
theorem iter_ZT {a b : Addr} {xs ys : List D} : IterOk Γ (ItzT Γ.K a b) (zipD xs ys) [(.ref b, .sh (.tup ys)), (.ref a, .sh (.tup xs))] := by
  have key : ∀ c R H, RS Γ c ([(V.ref b, O.sh (.tup ys)), (V.ref a, O.sh (.tup xs))] ++ R) H → (∃ us, SqT Γ.K H a us ∧ Had Γ c ([(V.ref b, O.sh (.tup ys)), (V.ref a, O.sh (.tup xs))] ++ R) H us xs) ∧ ∃ us, SqT Γ.K H b us ∧ Had Γ c ([(V.ref b, O.sh (.tup ys)), (V.ref a, O.sh (.tup xs))] ++ R) H us ys := by
    intro c R H h
    obtain ⟨a', us, e, p, q⟩ := RS.tup (v := .ref a) (o := .sh (.tup xs)) h (by simp) rfl
    obtain ⟨b', vs, e', p', q'⟩ := RS.tup (v := .ref b) (o := .sh (.tup ys)) h (by simp) rfl
    cases e
    cases e'
    exact ⟨⟨us, p, q⟩, vs, p', q'⟩
  refine ⟨fun c R i H h hi => ?_, fun c R H h => ?_, fun c R i d x H H' h e y => ?_⟩
  · obtain ⟨⟨us, p, q⟩, vs, p', q'⟩ := key c R H h
    have hl : i < min xs.length ys.length := by simpa [zipD] using hi
    obtain ⟨x, hx⟩ := get_of_lt (xs := us) (i := i) (by rw [q.len]; omega)
    obtain ⟨y, hy⟩ := get_of_lt (xs := vs) (i := i) (by rw [q'.len]; omega)
    exact ⟨us, vs, x, y, p, p', hx, hy⟩
  · obtain ⟨⟨us, p, q⟩, vs, p', q'⟩ := key c R H h
    refine ⟨us, vs, p, p', ?_⟩
    rw [q.len, q'.len]
    simp only [zipD, List.length_map, List.length_zip]
    omega
  · obtain ⟨⟨us, p, q⟩, vs, p', q'⟩ := key c R H h
    obtain ⟨T, x1, y1, rfl, hT, rfl, h1, h2⟩ := y
    obtain ⟨da, db, ea, eb, rfl⟩ := zipD_get e
    obtain ⟨S, sb, r, ad, _⟩ := q.ex
    have z1 := ad _ _ (r.at ea (h1 us p))
    have z2 : RS Γ c ((y1, .sh db) :: (x1, .sh da) :: ([(V.ref b, O.sh (.tup ys)), (V.ref a, O.sh (.tup xs))] ++ R)) H := by
      obtain ⟨b2, vs2, e2, p2, q2⟩ := RS.tup (v := .ref b) (o := .sh (.tup ys)) z1 (by simp) rfl
      cases e2
      obtain ⟨w, hw, z⟩ := q2.get eb
      have := h2 vs2 p2
      rw [hw] at this
      cases this
      exact z
    exact RS.pair (z2.perm (List.Perm.swap _ _ _)) hT
theorem sxi_zip {ta tb : TE} {g1 g2 : aE} (h1 : Sx Γ P W ta g1) (h2 : Sx Γ P W tb g2) : Sxi Γ P W (iZipA Γ.K (tCons ta (tCons tb tNil))) (aZip g1 g2) := fun f σ ρ T H R s k => by
  refine h1 f σ ρ T H _ s ((Good.bind k).imp fun o1 ρ1 k v1 H1 s1 => ?_)
  refine h2 f σ ρ1 ((v1, o1) :: T) H1 _ s1 ((Good.bind k).more (T' := [(v1, o1)]) |>.imp fun o2 ρ2 k v2 H2 s2 => ?_)
  show ∃ a b xs ys, [v1, v2] = [V.ref a, .ref b] ∧ _
  split at k
  · rename_i xs ys _
    obtain ⟨a, us, rfl, p, q⟩ := RS.lst (v := v1) (o := .sh (.lst xs)) s2.rs (by simp) rfl
    obtain ⟨b, vs, rfl, p', q'⟩ := RS.lst (v := v2) (o := .sh (.lst ys)) s2.rs (by simp) rfl
    exact ⟨a, b, us, vs, rfl, .inl ⟨.of p, .of p', k _ _ H2 iter_ZL s2⟩⟩
  · rename_i xs ys _
    obtain ⟨a, us, rfl, p, q⟩ := RS.tup (v := v1) (o := .sh (.tup xs)) s2.rs (by simp) rfl
    obtain ⟨b, vs, rfl, p', q'⟩ := RS.tup (v := v2) (o := .sh (.tup ys)) s2.rs (by simp) rfl
    exact ⟨a, b, us, vs, rfl, .inr ⟨p, p', k _ _ H2 iter_ZT s2⟩⟩
  · exact k.elim
/-! a list with its places -/
def enumD (xs : List D) : List D := xs.mapIdx fun i d => .tup [.int (i : Nat), d]
def aEnum (g : aE) : aI := fun ρ => (g ρ).bind fun o ρ' => match o with
  | .sh (.lst xs) => .ok (enumD xs) ρ'
  | _ => .stuck
theorem iter_E {a : Addr} {xs : List D} : IterOk Γ (Ite Γ.K a) (enumD xs) [(.ref a, .sh (.lst xs))] := by
  have key : ∀ c R H, RS Γ c ([(V.ref a, O.sh (.lst xs))] ++ R) H → ∃ us, SqL Γ.K H a us ∧ Had Γ c ([(V.ref a, O.sh (.lst xs))] ++ R) H us xs := by
    intro c R H h
    obtain ⟨a', us, e, p, q⟩ := RS.lst (v := .ref a) (o := .sh (.lst xs)) h (by simp) rfl
    cases e
    exact ⟨us, .of p, q⟩
  refine ⟨fun c R i H h hi => ?_, fun c R H h => ?_, fun c R i d x H H' h e y => ?_⟩
  · obtain ⟨us, p, q⟩ := key c R H h
    have hl : i < xs.length := by simpa [enumD] using hi
    obtain ⟨x, hx⟩ := get_of_lt (xs := us) (i := i) (by rw [q.len]; omega)
    exact ⟨us, x, p, hx⟩
  · obtain ⟨us, p, q⟩ := key c R H h
    refine ⟨us, p, ?_⟩
    rw [q.len]
    simp [enumD]
  · obtain ⟨us, p, q⟩ := key c R H h
    obtain ⟨T, x1, rfl, hT, rfl, h1⟩ := y
    unfold enumD at e
    rw [List.getElem?_mapIdx] at e
    obtain ⟨da, ea, rfl⟩ := Option.map_eq_some_iff.mp e
    obtain ⟨S, sb, r, ad, _⟩ := q.ex
    have z1 := ad _ _ (r.at ea (h1 us p))
    exact RS.pair (z1.pure (v := .int (i : Nat)) (d := .int (i : Nat)) fun _ => .int _) hT
theorem sxi_enum {ta : TE} {g : aE} (h1 : Sx Γ P W ta g) : Sxi Γ P W (iEnum Γ.K (tCons ta tNil)) (aEnum g) := fun f σ ρ T H R s k => by
  refine h1 f σ ρ T H _ s ((Good.bind k).imp fun o1 ρ1 k v1 H1 s1 => ?_)
  show ∃ a xs, [v1] = [V.ref a] ∧ _
  split at k
  · rename_i xs
    obtain ⟨a, us, rfl, p, q⟩ := RS.lst (v := v1) (o := .sh (.lst xs)) s1.rs (by simp) rfl
    exact ⟨a, us, rfl, .of p, k _ _ H1 iter_E s1⟩
  · exact k.elim
end
/-! ### as they stand in a text -/
section
variable {X : Cx} {Γ : Gb} {P : Nat → Bool} {W : WX} {te ta tb : TE} {g g1 g2 : aE} {od oa ob : Od} {tg e a b : Expr} {p pos : Pos}
theorem ai_any (hK : X.K = Γ.K) (h : AE X Γ P W e te g) : AI X Γ P W tg e (iAny Γ.K te) (aItems g) := ⟨hK ▸ pi_any h.pe, sxi_any h.sx⟩
theorem ai_rng1 (hm : X.mg "range" = none) (h : AE X Γ P W a ta g) (hg : Gl X "range" := by rfl) (hs1 : starEach (a :: []) X.env = (false, eval a X.env) :: starEach [] X.env := by rfl) (hs : starEach [a] X.env = [(false, eval a X.env)] := by rfl) :
    AI X Γ P W tg (.Call (.Name "range" p) [a] [] pos) (iRng1 (tCons ta tNil)) (aRng1 g) := ⟨pi_range1 hg hm (pa_cons h.pe pa_nil hs1) hs, sxi_rng1 h.sx⟩
theorem ai_rng2 (hm : X.mg "range" = none) (ha : AO X Γ P W a ta oa) (hb : AO X Γ P W b tb ob) (hg : Gl X "range" := by rfl) (hs1 : starEach (a :: [b]) X.env = (false, eval a X.env) :: starEach [b] X.env := by rfl) (hs2 : starEach (b :: []) X.env = (false, eval b X.env) :: starEach [] X.env := by rfl)
    (hs : starEach [a, b] X.env = [(false, eval a X.env), (false, eval b X.env)] := by rfl) (hs3 : starEach [b] X.env = [(false, eval b X.env)] := by rfl) :
    AI X Γ P W tg (.Call (.Name "range" p) [a, b] [] pos) (iRng2 (tCons ta (tCons tb tNil))) (aRng2 oa ob) := ⟨pi_range2 hg hm (pa_cons ha.pe (pa_cons hb.pe pa_nil hs2) hs1) hs hs3, sxi_rng2 (ha.sa (hb.sa sa_nil))⟩
theorem ai_rngD {j : Nat} {q1 q2 : Pos} (hm : X.mg "range" = none) (ha : AO X Γ P W a ta oa) (hb : AO X Γ P W b tb ob) (hg : Gl X "range" := by rfl)
    (hs1 : starEach (a :: [b, .UnaryOp .USub (.Constant (.int 1) j q1) q2]) X.env = (false, eval a X.env) :: starEach [b, .UnaryOp .USub (.Constant (.int 1) j q1) q2] X.env := by rfl)
    (hs2 : starEach (b :: [.UnaryOp .USub (.Constant (.int 1) j q1) q2]) X.env = (false, eval b X.env) :: starEach [.UnaryOp .USub (.Constant (.int 1) j q1) q2] X.env := by rfl)
    (hpl : (backTo pos (starEach [b, .UnaryOp .USub (.Constant (.int 1) j q1) q2] X.env)).any (·.1) = false := by rfl) :
    AI X Γ P W tg (.Call (.Name "range" p) [a, b, .UnaryOp .USub (.Constant (.int 1) j q1) q2] [] pos) (iRng3 (tCons ta (tCons tb (tCons (tUn (rU fun i => .int (-i)) (tC (.int 1))) tNil)))) (aRngD oa ob) :=
  ⟨pi_range3 hg hm (pa_cons ha.pe (pa_cons hb.pe (pa_cons (pe_un un_neg pe_int) pa_nil rfl) hs2) hs1) hs1 hpl, sxi_rngD (ha.sa (hb.sa sa_nil))⟩
theorem ai_zip {elts : List Expr} {kk : Nat} {tpos : Pos} (hK : X.K = Γ.K) (hm : X.mg "zip" = none) (ha : AE X Γ P W a ta g1) (hb : AE X Γ P W b tb g2) (hg : Gl X "zip" := by rfl)
    (hs1 : starEach (a :: [b]) X.env = (false, eval a X.env) :: starEach [b] X.env := by rfl) (hs2 : starEach (b :: []) X.env = (false, eval b X.env) :: starEach [] X.env := by rfl) (hpl : (backTo pos (starEach [b] X.env)).any (·.1) = false := by rfl) :
    AI X Γ P W (.Tuple elts kk tpos) (.Call (.Name "zip" p) [a, b] [] pos) (iZipA Γ.K (tCons ta (tCons tb tNil))) (aZip g1 g2) := ⟨hK ▸ pi_zipA hg hm (pa_cons ha.pe (pa_cons hb.pe pa_nil hs2) hs1) hs1 hpl, sxi_zip ha.sx hb.sx⟩
theorem ai_enum {elts : List Expr} {kk : Nat} {tpos : Pos} (hK : X.K = Γ.K) (hm : X.mg "enumerate" = none) (ha : AE X Γ P W a ta g) (hg : Gl X "enumerate" := by rfl) (hs1 : starEach (a :: []) X.env = (false, eval a X.env) :: starEach [] X.env := by rfl)
    (hs : starEach [a] X.env = [(false, eval a X.env)] := by rfl) : AI X Γ P W (.Tuple elts kk tpos) (.Call (.Name "enumerate" p) [a] [] pos) (iEnum Γ.K (tCons ta tNil)) (aEnum g) := ⟨hK ▸ pi_enum hg hm (pa_cons ha.pe pa_nil hs1) hs, sxi_enum ha.sx⟩
end
end Den
end
section
/-! Den, part J: calls of defs, comprehensions. -/
namespace Den
open PySem L2 PySem.Spec PyProof.Rows
/-! ### a def's promise -/
inductive FRes where
  | ret (o : O) (os : List O) | exc (x : Xn) (os : List O) | stuck
def XC (Γ : Gb) (e : Ent) (R : List (V × O)) (x : Xn) (cls : Value) (d : Option Addr) (H : Hp) : Prop :=
  cls = x.cls.val Γ ∧ match x.fs with
    | none => d = none ∧ RS Γ e R H
    | some fs => ∃ dd, d = some dd ∧ RS Γ e ((.ref dd, .sh (.xd fs)) :: R) H
abbrev aF := List O → FRes
/-- what a def is worth: from the arguments' things, den's outcome -/
def spD (Γ : Gb) (n : Nat) (den : aF) : Sp := fun vs H Q E => vs.length = n ∧ ∃ (e : Ent) (os : List O), os.length = n ∧ RS Γ e (vs.zip os) H ∧ match den os with
  | .ret o os' => os'.length = n ∧ ∀ v H', RS Γ e ((v, o) :: vs.zip os') H' → Q v H'
  | .exc x os' => os'.length = n ∧ ∀ cls d H', XC Γ e (vs.zip os') x cls d H' → E cls d H'
  | .stuck => False
/-- the arguments' things are taken: owned ones out of their names -/
def tak (ρ : Store) : List Rv → Option (List O × Store)
  | [] => some ([], ρ)
  | .o o :: r => (tak ρ r).map fun p => (o :: p.1, p.2)
  | .p i :: r => match ρ[i]? with
    | some (some (.sh d)) => (tak ρ r).map fun p => (.sh d :: p.1, p.2)
    | some (some o) => (tak (ρ.set i none) r).map fun p => (o :: p.1, p.2)
    | _ => none
/-- and given back -/
def giv (ρ : Store) : List Rv → List O → Store
  | .p i :: r, o :: os => match ρ[i]? with
    | some none => giv (ρ.set i (some o)) r os
    | _ => giv ρ r os
  | .o _ :: r, _ :: os => giv ρ r os
  | _, _ => ρ
def aCall (n : Nat) (ods : List Od) (dds : List D) (den : aF) : aE := fun ρ => (evA ods ρ).bind fun rs ρ1 => match tak ρ1 rs with
  | some (os, ρ2) => if os.length + dds.length = n then match den (os ++ dds.map O.sh) with
      | .ret o os' => if os'.length = n then .ok o (giv ρ2 rs os') else .stuck
      | .exc x os' => if os'.length = n then .exc x (giv ρ2 rs os') else .stuck
      | .stuck => .stuck
    else .stuck
  | none => .stuck
section
variable {Γ : Gb} {P : Nat → Bool} {W : WX} {f : Fr} {σ : L2.St} {H : Hp}
theorem tak_ok {T' : List (V × O)} {vs : List V} {rs : List Rv} (m : Mt σ T' vs rs) : ∀ {ρ ρ2 : Store} {T : List (V × O)} {os : List O}, SR Γ P f σ ρ (T' ++ T) H → tak ρ rs = some (os, ρ2) → SR Γ P f σ ρ2 (vs.zip os ++ T) H ∧ os.length = vs.length := by
  induction m with
  | nil =>
    intro ρ ρ2 T os s e
    cases e
    exact ⟨s, rfl⟩
  | @ex v o T1 vs rs m ih =>
    intro ρ ρ2 T os s e
    simp only [tak, Option.map_eq_some_iff] at e
    obtain ⟨⟨os', ρ'⟩, e, q⟩ := e
    cases q
    rw [List.append_assoc] at s
    obtain ⟨a, b⟩ := ih s e
    exact ⟨a.permT List.perm_middle, by simp [b]⟩
  | @pl v i T1 vs rs hv m ih =>
    intro ρ ρ2 T os s e
    unfold tak at e
    split at e
    · rename_i d ed
      simp only [Option.map_eq_some_iff] at e
      obtain ⟨⟨os', ρ'⟩, e, q⟩ := e
      cases q
      obtain ⟨w, hw, s'⟩ := s.dupSlot ed
      rw [hv] at hw
      cases hw
      obtain ⟨a, b⟩ := ih (T := (v, .sh d) :: T) (s'.permT List.perm_middle.symm) e
      exact ⟨a.permT List.perm_middle, by simp [b]⟩
    · rename_i o _ eo
      simp only [Option.map_eq_some_iff] at e
      obtain ⟨⟨os', ρ'⟩, e, q⟩ := e
      cases q
      obtain ⟨w, hw, s'⟩ := s.take eo
      rw [hv] at hw
      cases hw
      obtain ⟨a, b⟩ := ih (T := (v, o) :: T) (s'.permT List.perm_middle.symm) e
      exact ⟨a.permT List.perm_middle, by simp [b]⟩
    · cases e
theorem giv_ok {T' : List (V × O)} {vs : List V} {rs : List Rv} (m : Mt σ T' vs rs) : ∀ {ρ : Store} {T : List (V × O)} {os : List O}, SR Γ P f σ ρ (vs.zip os ++ T) H → os.length = vs.length → SR Γ P f σ (giv ρ rs os) T H := by
  induction m with
  | nil =>
    intro ρ T os s e
    exact s
  | @ex v o T1 vs rs m ih =>
    intro ρ T os s e
    cases os with
    | nil => cases e
    | cons o' os => exact ih (SR.drop (v := v) (o := o') s) (by simpa using e)
  | @pl v i T1 vs rs hv m ih =>
    intro ρ T os s e
    cases os with
    | nil => cases e
    | cons o' os =>
      unfold giv
      split
      · exact ih (SR.back (v := v) (o := o') s hv) (by simpa using e)
      · exact ih (SR.drop (v := v) (o := o') s) (by simpa using e)
theorem zip_app {α β : Type} : ∀ {as : List α} {bs : List β} {cs : List α} {ds : List β}, as.length = bs.length → (as ++ cs).zip (bs ++ ds) = as.zip bs ++ cs.zip ds
  | [], [], _, _, _ => rfl
  | a :: as, b :: bs, _, _, e => by
    rw [List.cons_append, List.cons_append, List.zip_cons_cons, List.zip_cons_cons, zip_app (by simpa using e), List.cons_append]
theorem zip_take {α β : Type} : ∀ {as : List α} {cs : List α} {bs : List β}, bs.length = as.length + cs.length → ∃ X, ((as ++ cs).zip bs).Perm (as.zip bs ++ X)
  | [], cs, bs, _ => ⟨cs.zip bs, by simp⟩
  | a :: as, cs, b :: bs, e => by
    obtain ⟨X, q⟩ := zip_take (as := as) (cs := cs) (bs := bs) (by simp at e ⊢; omega)
    exact ⟨X, q.cons _⟩
  | _ :: _, _, [], e => by simp at e; omega
theorem giv_more : ∀ {rs : List Rv} {os : List O} {ρ : Store}, giv ρ rs os = giv ρ rs (os.take rs.length)
  | [], os, ρ => by cases os <;> rfl
  | .o _ :: r, [], ρ => rfl
  | .p _ :: r, [], ρ => rfl
  | .o _ :: r, o :: os, ρ => by
    show giv ρ r os = giv ρ r (os.take r.length)
    exact giv_more
  | .p i :: r, o :: os, ρ => by
    show (match ρ[i]? with
      | some none => giv (ρ.set i (some o)) r os
      | _ => giv ρ r os) = (match ρ[i]? with
      | some none => giv (ρ.set i (some o)) r (os.take r.length)
      | _ => giv ρ r (os.take r.length))
    rw [giv_more (ρ := ρ.set i (some o)), giv_more (ρ := ρ)]
theorem Mt.len {T' : List (V × O)} {vs : List V} {rs : List Rv} (m : Mt σ T' vs rs) : vs.length = rs.length := by
  induction m with
  | nil => rfl
  | ex _ ih => simp [ih]
  | pl _ _ ih => simp [ih]
theorem perm5 {α : Type} (X Z Y S T : List α) : ((X ++ (Z ++ Y)) ++ (S ++ T)).Perm (Y ++ (S ++ (Z ++ (X ++ T)))) := by
  classical
  refine List.perm_iff_count.mpr fun a => ?_
  simp only [List.count_append]
  omega
/-- f(..), what is raised wished for at the caller's slots -/
theorem sx_call {ta : TA} {ods : List Od} {n : Nat} {dvs : List V} {dds : List D} {den : aF} (ha : Sa Γ P W ta ods) (hd : ∀ S, RepL Γ S dvs dds) : Sx Γ P W (tCallSD (spD Γ n den) dvs (WE W) ta) (aCall n ods dds den) := fun f σ ρ T H Q s k => by
  refine ha f σ ρ T H _ s ((Good.bind k).imp fun rs ρ1 k vs T' H1 m s1 => ?_)
  split at k
  · rename_i os ρ2 et
    split at k
    · rename_i hn
      obtain ⟨s2, hl⟩ := tak_ok m s1 et
      have dl : dvs.length = dds.length := (hd (fun _ => none)).len
      -- the arguments and the defaults, apart from what the caller holds
      have r0 : RS Γ f.c (((vs ++ dvs).zip (os ++ dds.map O.sh)) ++ (slotsR σ ρ2 ++ T)) H1 := by
        have q : RS Γ f.c (dvs.zip (dds.map O.sh) ++ (vs.zip os ++ (slotsR σ ρ2 ++ T))) H1 := by
          obtain ⟨S, sb, rd, _, ad⟩ := s2.rs.readS
          refine (ad dvs dds (hd S)).perm (List.Perm.append_left _ ?_)
          rw [← List.append_assoc, ← List.append_assoc]
          exact List.perm_append_comm.append_right T
        rw [zip_app hl.symm]
        refine q.perm ?_
        rw [← List.append_assoc]
        exact List.perm_append_comm.append_right _
      obtain ⟨e, eH, r1, back⟩ := r0.enter
      have again : ∀ (X : List (V × O)) (os' : List O) H', os'.length = n → RS Γ e (X ++ (vs ++ dvs).zip os') H' → SR Γ P f σ (giv ρ2 rs os') (X ++ T) H' := by
        intro X os' H' ho r
        have b := back _ H' r
        obtain ⟨Y, hy⟩ := zip_take (as := vs) (cs := dvs) (bs := os') (by omega)
        have p1 : (X ++ (vs ++ dvs).zip os' ++ (slotsR σ ρ2 ++ T)).Perm (Y ++ (slotsR σ ρ2 ++ (vs.zip os' ++ (X ++ T)))) := by
          exact ((hy.append_left X).append_right _).trans (perm5 _ _ _ _ _)
        have s3 : SR Γ P f σ ρ2 (vs.zip os' ++ (X ++ T)) H' := ⟨s2.ok, s2.fix, (b.perm p1).dropL⟩
        have e2 : vs.zip os' = vs.zip (os'.take rs.length) := by
          rw [← m.len]
          have hmin : min vs.length os'.length = vs.length := by omega
          have z := List.zip_eq_zip_take_min (l₁ := vs) (l₂ := os')
          rw [hmin, List.take_length] at z
          exact z
        rw [giv_more]
        rw [e2] at s3
        exact giv_ok m s3 (by rw [List.length_take, ← m.len]; omega)
      show spD Γ n den (vs ++ dvs) H1 Q (WE W σ)
      refine ⟨by rw [List.length_append]; omega, e, os ++ dds.map O.sh, by rw [List.length_append, List.length_map]; omega, r1, ?_⟩
      split at k
      · rename_i o os' ed
        split at k
        · rename_i ho
          exact ⟨ho, fun v H' r => k v H' (again [(v, o)] os' H' ho r)⟩
        · exact k.elim
      · rename_i x os' ed
        split at k
        · rename_i ho
          refine ⟨ho, fun cls d H' r => k cls d H' ?_⟩
          obtain ⟨ec, r⟩ := r
          refine ⟨ec, ?_⟩
          obtain ⟨xc, xfs⟩ := x
          cases xfs with
          | none => exact ⟨r.1, again [] os' H' ho r.2⟩
          | some fs =>
            obtain ⟨dd, e1, r⟩ := r
            exact ⟨dd, e1, again [(.ref dd, .sh (.xd fs))] os' H' ho r⟩
        · exact k.elim
      · exact k.elim
    · exact k.elim
  · exact k.elim
end
end Den
end
section
/-! Den, part K: targets, comprehensions. -/
namespace Den
open PySem L2 PySem.Spec PyProof.Rows
theorem wipe_get {σ : L2.St} {j : Nat} : ∀ {vs : List Nat}, (wipe σ vs)[j]? = if j ∈ vs then (σ[j]?).map (fun _ => none) else σ[j]?
  | [] => by simp [wipe]
  | v :: vs => by
    unfold wipe
    by_cases hv : v = j
    · subst hv
      rw [List.getElem?_set_self', wipe_get (vs := vs)]
      by_cases hm : v ∈ vs
      · rw [if_pos hm, if_pos (by simp)]
        cases σ[v]? <;> rfl
      · rw [if_neg hm, if_pos (by simp)]
        cases σ[v]? <;> rfl
    · rw [List.getElem?_set_ne hv, wipe_get (vs := vs)]
      by_cases hm : j ∈ vs
      · rw [if_pos hm, if_pos (by simp [hm])]
      · rw [if_neg hm, if_neg (by simp [hm, Ne.symm hv])]
theorem wipe_set {σ : L2.St} {i : Nat} {x : Option V} {vs : List Nat} (h : i ∈ vs) : wipe (σ.set i x) vs = wipe σ vs := by
  apply List.ext_getElem?
  intro j
  rw [wipe_get, wipe_get]
  by_cases hj : j ∈ vs
  · rw [if_pos hj, if_pos hj]
    by_cases e : i = j
    · subst e
      rw [List.getElem?_set_self']
      cases σ[i]? <;> rfl
    · rw [List.getElem?_set_ne e]
  · rw [if_neg hj, if_neg hj, List.getElem?_set_ne (fun e => hj (by rw [← e]; exact h))]
theorem wipe_wipe {σ : L2.St} {vs : List Nat} : wipe (wipe σ vs) vs = wipe σ vs := by
  apply List.ext_getElem?
  intro j
  rw [wipe_get, wipe_get]
  by_cases hj : j ∈ vs
  · rw [if_pos hj, if_pos hj]
    cases σ[j]? <;> rfl
  · rw [if_neg hj, if_neg hj]
theorem permJ {α : Type} (S A X R T : List α) : (S ++ (A ++ (X ++ (R ++ T)))).Perm (R ++ (S ++ (A ++ (X ++ T)))) := by
  classical
  refine List.perm_iff_count.mpr fun a => ?_
  simp only [List.count_append]
  omega
theorem permY {α : Type} (x d : α) (S X R T : List α) : (x :: (R ++ (S ++ ([d] ++ (X ++ T))))).Perm (S ++ (x :: d :: (X ++ (R ++ T)))) := by
  classical
  refine List.perm_iff_count.mpr fun a => ?_
  simp only [List.count_append, List.count_cons, List.count_nil]
  omega
def wipeS (ρ : Store) : List Nat → Store
  | [] => ρ
  | v :: vs => (wipeS ρ vs).set v none
def restS (ρ0 : Store) : List Nat → Store → Store
  | [], ρ => ρ
  | v :: vs, ρ => restS ρ0 vs (ρ.set v ((wipeS ρ0 vs)[v]?).join)
theorem wipeS_get {ρ : Store} {j : Nat} : ∀ {vs : List Nat}, j ∈ vs → ∀ o, (wipeS ρ vs)[j]? ≠ some (some o)
  | [], h, _ => by cases h
  | v :: vs, h, o => by
    unfold wipeS
    by_cases hv : v = j
    · subst hv
      rw [List.getElem?_set_self']
      cases (wipeS ρ vs)[v]? <;> simp
    · rw [List.getElem?_set_ne hv]
      exact wipeS_get (by simpa [Ne.symm hv] using h) o
theorem slots_resig {σ : L2.St} {ρ : Store} (h : SlotsOk σ ρ) : ∀ {σ' : L2.St}, σ'.length = σ.length → (∀ (i : Nat) (o : O), ρ[i]? = some (some o) → σ'[i]? = σ[i]?) → SlotsOk σ' ρ ∧ slotsR σ' ρ = slotsR σ ρ := by
  induction h with
  | nil =>
    intro σ' e _
    obtain rfl : σ' = [] := List.eq_nil_of_length_eq_zero (by simpa using e)
    exact ⟨.nil, rfl⟩
  | @skip x σ ρ h ih =>
    intro σ' e k
    cases σ' with
    | nil => simp at e
    | cons y σ' =>
      obtain ⟨a, b⟩ := ih (σ' := σ') (by simpa using e) fun i o q => by
        have := k (i + 1) o (by simpa using q)
        simpa using this
      exact ⟨.skip a, by rw [slotsR_skip, slotsR_skip, b]⟩
  | @keep v o σ ρ h ih =>
    intro σ' e k
    cases σ' with
    | nil => simp at e
    | cons y σ' =>
      obtain ⟨a, b⟩ := ih (σ' := σ') (by simpa using e) fun i o q => by
        have := k (i + 1) o (by simpa using q)
        simpa using this
      have y0 := k 0 o rfl
      obtain rfl : y = some v := by simpa using y0
      exact ⟨.keep a, by show (v, o) :: slotsR σ' ρ = (v, o) :: slotsR σ ρ; rw [b]⟩
def offP (P : Nat → Bool) (vs : List Nat) : Nat → Bool := fun j => P j && !vs.contains j
section
variable {Γ : Gb} {P : Nat → Bool} {W : WX} {f : Fr} {σ : L2.St} {ρ : Store} {T : List (V × O)} {H : Hp}
theorem SR.out1 (s : SR Γ P f σ ρ T H) (i : Nat) : ∃ X, SR Γ P f σ (ρ.set i none) (X ++ T) H ∧ ∀ ρ' T' H', SR Γ P f σ ρ' (X ++ T') H' → SR Γ P f σ (ρ'.set i (ρ[i]?).join) T' H' := by
  cases e : ρ[i]? with
  | none => exact ⟨[], s.clear, fun ρ' T' H' q => q.clear⟩
  | some o =>
    cases o with
    | none => exact ⟨[], s.clear, fun ρ' T' H' q => q.clear⟩
    | some o =>
      obtain ⟨v, hv, s'⟩ := s.take e
      exact ⟨[(v, o)], s', fun ρ' T' H' q => SR.back (v := v) (o := o) q hv⟩
theorem SR.outs (s : SR Γ P f σ ρ T H) : ∀ vs : List Nat, ∃ X, SR Γ P f σ (wipeS ρ vs) (X ++ T) H ∧ ∀ ρ' T' H', SR Γ P f σ ρ' (X ++ T') H' → SR Γ P f σ (restS ρ vs ρ') T' H'
  | [] => ⟨[], s, fun ρ' T' H' q => q⟩
  | v :: vs => by
    obtain ⟨X, a, b⟩ := SR.outs s vs
    obtain ⟨Y, a', b'⟩ := a.out1 v
    refine ⟨Y ++ X, by rw [List.append_assoc]; exact a', fun ρ' T' H' q => ?_⟩
    rw [List.append_assoc] at q
    exact b _ _ _ (b' _ _ _ q)
theorem SR.resig {P' : Nat → Bool} {σ' : L2.St} (s : SR Γ P f σ ρ T H) (hl : σ'.length = σ.length) (k : ∀ (i : Nat) (o : O), ρ[i]? = some (some o) → σ'[i]? = σ[i]?) (hp : ∀ j, P' j = true → σ'[j]? = f.s0[j]?) : SR Γ P' f σ' ρ T H := by
  obtain ⟨a, b⟩ := slots_resig s.ok hl k
  exact ⟨a, hp, by rw [b]; exact s.rs⟩
theorem SR.clears (s : SR Γ P f σ ρ T H) : ∀ vs : List Nat, SR Γ P f σ (wipeS ρ vs) T H
  | [] => s
  | v :: vs => (SR.clears s vs).clear
theorem offP_of {vs : List Nat} {j : Nat} (h : offP P vs j = true) : P j = true ∧ j ∉ vs := by
  unfold offP at h
  rw [Bool.and_eq_true] at h
  exact ⟨h.1, by simpa using h.2⟩
theorem SR.block {vs : List Nat} (s : SR Γ P f σ ρ T H) (hw : ∀ i ∈ vs, ∀ o, ρ[i]? ≠ some (some o)) : SR Γ (offP P vs) f (wipe σ vs) ρ T H := by
  refine s.resig (wipe_length σ vs) (fun i o e => ?_) fun j hj => ?_
  · rw [wipe_get, if_neg fun m => hw i m o e]
  · obtain ⟨a, b⟩ := offP_of hj
    rw [wipe_get, if_neg b]
    exact s.fix j a
theorem SR.again {vs : List Nat} {σ0 : L2.St} (s : SR Γ (offP P vs) f σ ρ T H) (hw : wipe σ vs = wipe σ0 vs) : SR Γ (offP P vs) f (wipe σ0 vs) (wipeS ρ vs) T H := by
  have s' := s.clears vs
  rw [← hw]
  refine s'.resig (wipe_length σ vs) (fun i o e => ?_) fun j hj => ?_
  · rw [wipe_get, if_neg fun m => wipeS_get m o e]
  · obtain ⟨a, b⟩ := offP_of hj
    rw [wipe_get, if_neg b]
    exact s.fix j hj
theorem SR.unblock {vs : List Nat} {σ0 : L2.St} (s : SR Γ (offP P vs) f (wipe σ0 vs) ρ T H) (hw : ∀ i ∈ vs, ∀ o, ρ[i]? ≠ some (some o)) (hp : ∀ j, P j = true → σ0[j]? = f.s0[j]?) : SR Γ P f σ0 ρ T H := by
  refine s.resig (wipe_length σ0 vs).symm (fun i o e => ?_) hp
  rw [wipe_get, if_neg fun m => hw i m o e]
end
/-! ### targets -/
abbrev aG := D → Store → Option Store
def aN (i : Nat) : aG := fun d ρ => if i < ρ.length then some (ρ.set i (some (.sh d))) else none
/-- one after another -/
def aGs : List aG → List D → Store → Option Store
  | [], [], ρ => some ρ
  | g :: gs, d :: ds, ρ => (g d ρ).bind fun ρ' => aGs gs ds ρ'
  | _, _, _ => none
def aTupG (gs : List aG) : aG := fun d ρ => match d with
  | .tup ds => aGs gs ds ρ
  | _ => none
/-- what a target stores leaves all but the slots vs -/
def Sg (Γ : Gb) (P : Nat → Bool) (vs : List Nat) (g : TG) (a : aG) : Prop := ∀ f σ ρ T H v d ρ' Q, SR Γ P f σ ρ ((v, .sh d) :: T) H → a d ρ = some ρ' → (∀ σ' H', wipe σ' vs = wipe σ vs → SR Γ P f σ' ρ' T H' → Q σ' H') → g v σ H Q
def Sgs (Γ : Gb) (P : Nat → Bool) (vs : List Nat) (g : TGs) (as : List aG) : Prop := ∀ f σ ρ T H us ds ρ' Q, SR Γ P f σ ρ (us.zip (ds.map O.sh) ++ T) H → us.length = ds.length → aGs as ds ρ = some ρ' → (∀ σ' H', wipe σ' vs = wipe σ vs → SR Γ P f σ' ρ' T H' → Q σ' H') → g us σ H Q
section
variable {Γ : Gb} {P : Nat → Bool} {vs : List Nat}
theorem sg_name {i : Nat} (hp : P i = false) (hi : i ∈ vs) : Sg Γ P vs (gName i) (aN i) := fun f σ ρ T H v d ρ' Q s e k => by
  unfold aN at e
  split at e
  · rename_i hl
    cases e
    exact k _ _ (wipe_set hi) (s.set (by rw [s.lenS]; exact hl) hp)
  · cases e
theorem sgs_nil : Sgs Γ P vs gNil [] := fun f σ ρ T H us ds ρ' Q s hl e k => by
  cases ds with
  | nil =>
    cases us with
    | nil =>
      cases e
      exact ⟨rfl, k _ _ rfl s⟩
    | cons _ _ => simp at hl
  | cons _ _ => cases e
theorem sgs_cons {g : TG} {gs : TGs} {a : aG} {as : List aG} (h1 : Sg Γ P vs g a) (h2 : Sgs Γ P vs gs as) : Sgs Γ P vs (gCons g gs) (a :: as) := fun f σ ρ T H us ds ρ' Q s hl e k => by
  cases ds with
  | nil => cases e
  | cons d ds =>
    cases us with
    | nil => simp at hl
    | cons u us =>
      simp only [aGs, Option.bind_eq_some_iff] at e
      obtain ⟨ρ1, e1, e2⟩ := e
      exact ⟨u, us, rfl, h1 f σ ρ _ H u d ρ1 _ s e1 fun σ1 H1 w1 s1 => h2 f σ1 ρ1 T H1 us ds ρ' Q s1 (by simpa using hl) e2 fun σ2 H2 w2 s2 => k σ2 H2 (w2.trans w1) s2⟩
theorem aGs_len : ∀ {as : List aG} {ds : List D} {ρ ρ' : Store}, aGs as ds ρ = some ρ' → ds.length = as.length
  | [], [], _, _, _ => rfl
  | a :: as, d :: ds, ρ, ρ', e => by
    simp only [aGs, Option.bind_eq_some_iff] at e
    obtain ⟨ρ1, e1, e2⟩ := e
    simp [aGs_len e2]
  | [], _ :: _, _, _, e => by cases e
  | _ :: _, [], _, _, e => by cases e
theorem sg_tup {n : Nat} {gs : TGs} {as : List aG} (h : Sgs Γ P vs gs as) (hn : as.length = n) : Sg Γ P vs (L2.gTup Γ.K n gs) (aTupG as) := fun f σ ρ T H v d ρ' Q s e k => by
  unfold aTupG at e
  split at e
  · rename_i ds
    obtain ⟨a, xs, rfl, p, q⟩ := RS.tup (v := v) (o := .sh (.tup ds)) s.rs (by simp) rfl
    refine ⟨a, xs, rfl, p, by rw [q.len, aGs_len e, hn], h f σ ρ T H xs ds ρ' Q ?_ q.len e k⟩
    obtain ⟨S, sb, r, _, ad⟩ := q.ex
    have z := ad xs ds r
    refine ⟨s.ok, s.fix, ?_⟩
    have pm : (xs.zip (ds.map O.sh) ++ (slotsR σ ρ ++ (V.ref a, O.sh (.tup ds)) :: T)).Perm ((V.ref a, O.sh (.tup ds)) :: (slotsR σ ρ ++ (xs.zip (ds.map O.sh) ++ T))) := by
      refine (List.perm_append_comm_assoc _ _ _).trans ?_
      refine (List.Perm.append_left _ List.perm_middle).trans ?_
      exact List.perm_middle
    exact (z.perm pm).drop
  · cases e
end
/-! ### list comprehensions -/
def lcL (vs : List Nat) (tg : aG) (tt : aT) (ge : aE) : List D → Store → Res (List D)
  | [], ρ => .ok [] ρ
  | d :: ds, ρ => match tg d ρ with
    | some ρ1 => (tt ρ1).bind fun b ρ2 => if b = true then (ge ρ2).bind fun o ρ3 => (lcL vs tg tt ge ds (wipeS ρ3 vs)).bind fun r ρ4 => .ok (fz o :: r) ρ4 else lcL vs tg tt ge ds (wipeS ρ2 vs)
    | none => .stuck
def aYes : aT := fun ρ => .ok true ρ
def aLc (src : aI) (vs : List Nat) (tg : aG) (tt : aT) (ge : aE) : aE := fun ρ => (src ρ).bind fun ds ρ1 => if ds.length ≤ 16000000 then match lcL vs tg tt ge ds (wipeS ρ1 vs) with
    | .ok r ρ2 => .ok (.lst (r.map O.sh)) (restS ρ1 vs ρ2)
    | _ => .stuck
  else .stuck
abbrev W0 : WX := fun _ _ _ _ => False
theorem res_bind_ok {α β : Type} {r : Res α} {g : α → Store → Res β} {b : β} {ρ : Store} (h : r.bind g = .ok b ρ) : ∃ a ρ1, r = .ok a ρ1 ∧ g a ρ1 = .ok b ρ := by
  cases r with
  | ok a ρ1 => exact ⟨a, ρ1, rfl, h⟩
  | exc x ρ1 => cases h
  | stuck => cases h
section
variable {Γ : Gb} {P : Nat → Bool} {W : WX} {vs : List Nat}
theorem sxt_yes : Sxt Γ P W tYes aYes := fun f σ ρ T H Q s k => k H s
/-- a value is put behind a list's items -/
theorem SR.push {f : Fr} {σ : L2.St} {ρ : Store} {T : List (V × O)} {H : Hp} {y : V} {o : O} {D1 : Addr} {acc : List D} (s : SR Γ P f σ ρ ((y, o) :: (.ref D1, .lst (acc.map O.sh)) :: T) H) :
    ∃ vs, H D1 = some (.lst vs) ∧ vs.length = acc.length ∧ SR Γ P f σ ρ ((.ref D1, .lst ((acc ++ [Den.fz o]).map O.sh)) :: T) (upd H D1 (.lst (vs ++ [y]))) := by
  have s1 := s.fz.permT (List.Perm.swap _ _ _)
  have r1 : RS Γ f.c ((.ref D1, .lst (acc.map O.sh)) :: ((y, .sh (Den.fz o)) :: T ++ slotsR σ ρ)) H := s1.rs.perm List.perm_append_comm
  obtain ⟨a, rs, e, e2, ha, op⟩ := r1.openL
  cases e
  refine ⟨rs.map Prod.fst, ha, by rw [List.length_map, ← List.length_map (f := Prod.snd) (as := rs), ← e2, List.length_map], s.ok, s.fix, ?_⟩
  have op2 : RSL Γ f.c ((rs ++ [(y, .sh (Den.fz o))]) ++ (T ++ slotsR σ ρ)) [D1] H := op.perm (by
    rw [List.append_assoc]
    exact List.Perm.refl _)
  have cl := (op2.put (u := .lst (rs.map Prod.fst ++ [y])) noT_lst).closeL (by rw [upd_same, List.map_append]; rfl)
  rw [List.map_append, ← e2] at cl
  have z : RS Γ f.c ((.ref D1, .lst ((acc ++ [Den.fz o]).map O.sh)) :: (T ++ slotsR σ ρ)) (upd H D1 (.lst (rs.map Prod.fst ++ [y]))) := by
    rw [List.map_append]
    exact cl
  exact z.perm (List.perm_append_comm (l₁ := (V.ref D1, O.lst ((acc ++ [Den.fz o]).map O.sh)) :: T))
theorem sx_lc {wi : TI} {g : TG} {tt : TT} {te : TE} {src : aI} {tg : aG} {at_ : aT} {ge : aE} (hi : Sxi Γ P W wi src) (hg : Sg Γ (offP P vs) vs g tg) (ht : Sxt Γ (offP P vs) W0 tt at_) (he : Sx Γ (offP P vs) W0 te ge) :
    Sx Γ P W (tLc wi g tt te vs) (aLc src vs tg at_ ge) := fun f σ ρ T H Q s k => by
  refine hi f σ ρ T H _ s ((Good.bind k).imp fun ds ρ1 k J Rj H1 it s1 D1 hD => ?_)
  split at k
  · rename_i hlen
    split at k
    · rename_i r ρ2 er
      obtain ⟨X, sx, rest⟩ := s1.outs vs
      have b0 := sx.block (vs := vs) fun i m o => wipeS_get m o
      -- the list that is made
      have b1 : SR Γ (offP P vs) f (wipe σ vs) (wipeS ρ1 vs) ((.ref D1, .lst (([] : List D).map O.sh)) :: (X ++ (Rj ++ T))) (upd H1 D1 (.lst [])) :=
        b0.mapT fun R q => RS.newL (rs := []) q hD
      refine ⟨fun i m H' => m = ds.length - i ∧ i ≤ ds.length ∧ ∃ ρ' acc r', acc.length ≤ i ∧ lcL vs tg at_ ge (ds.drop i) ρ' = .ok r' ρ2 ∧ acc ++ r' = r ∧ (∀ i ∈ vs, ∀ o, ρ'[i]? ≠ some (some o)) ∧
        SR Γ (offP P vs) f (wipe σ vs) ρ' ((.ref D1, .lst (acc.map O.sh)) :: (X ++ (Rj ++ T))) H', ⟨ds.length, by simp, Nat.zero_le _, wipeS ρ1 vs, [], r, Nat.le_refl _, by rw [List.drop_zero]; exact er, rfl, fun i m o => wipeS_get m o, b1⟩, ?_⟩
      rintro i m H' ⟨rfl, hle, ρ', acc, r', hacc, el, er', hw, s'⟩
      have toJ : ∀ {ρ'' : Store} {σ'' : L2.St} {H'' : Hp} {T1 : List (V × O)}, SR Γ (offP P vs) f σ'' ρ'' (T1 ++ (X ++ (Rj ++ T))) H'' → RS Γ f.c (Rj ++ (slotsR σ'' ρ'' ++ (T1 ++ (X ++ T)))) H'' := fun q => q.rs.perm (permJ _ _ _ _ _)
      by_cases hi' : i < ds.length
      · obtain ⟨d, hd⟩ := get_of_lt hi'
        have hdrop : ds.drop i = d :: ds.drop (i + 1) := by
          rw [List.drop_eq_getElem_cons hi']
          rw [List.getElem?_eq_getElem hi'] at hd
          cases hd
          rfl
        rw [hdrop] at el
        unfold lcL at el
        split at el
        · rename_i ρa ea
          obtain ⟨b, ρb, eb, el⟩ := res_bind_ok el
          refine .inr ⟨it.go f.c _ i H' (toJ (T1 := [(V.ref D1, O.lst (acc.map O.sh))]) s') hi', fun H'' => ∃ ρ'' acc' r'', acc'.length ≤ i + 1 ∧ lcL vs tg at_ ge (ds.drop (i + 1)) ρ'' = .ok r'' ρ2 ∧ acc' ++ r'' = r ∧ (∀ i ∈ vs, ∀ o, ρ''[i]? ≠ some (some o)) ∧
            SR Γ (offP P vs) f (wipe σ vs) ρ'' ((.ref D1, .lst (acc'.map O.sh)) :: (X ++ (Rj ++ T))) H'', fun H'' ⟨ρ'', acc', r'', q1, q2, q3, q4, q5⟩ => ⟨ds.length - (i + 1), by omega, rfl, hi', ρ'', acc', r'', q1, q2, q3, q4, q5⟩, fun x H'' y => ?_⟩
          have sy : SR Γ (offP P vs) f (wipe σ vs) ρ' ((x, .sh d) :: (.ref D1, .lst (acc.map O.sh)) :: (X ++ (Rj ++ T))) H'' :=
            ⟨s'.ok, s'.fix, (it.yld f.c _ i d x H' H'' (toJ (T1 := [(V.ref D1, O.lst (acc.map O.sh))]) s') hd y).perm (permY _ _ _ _ _ _)⟩
          refine hg f _ ρ' _ H'' x d ρa _ sy ea fun σ2 H2 w2 s2 => ⟨w2.trans wipe_wipe, ht f σ2 ρa _ H2 _ s2 ?_⟩
          rw [eb]
          intro H3 s3
          cases b with
          | true =>
            refine iteT ?_
            rw [if_pos rfl] at el
            obtain ⟨o, ρc, ec, el⟩ := res_bind_ok el
            obtain ⟨r'', ρd, ed, el⟩ := res_bind_ok el
            cases el
            refine he f σ2 ρb _ H3 _ s3 ?_
            rw [ec]
            intro y H4 s4
            obtain ⟨us, hus, hul, s5⟩ := s4.push
            refine ⟨us, hus, lt_line (by omega), wipeS ρc vs, acc ++ [fz o], r'', by rw [List.length_append]; exact Nat.add_le_add_right hacc 1, ed, by rw [← er']; simp, fun i m o => wipeS_get m o, s5.again (w2.trans wipe_wipe)⟩
          | false =>
            refine iteF ?_
            rw [if_neg (by simp)] at el
            exact ⟨wipeS ρb vs, acc, r', by omega, el, er', fun i m o => wipeS_get m o, s3.again (w2.trans wipe_wipe)⟩
        · cases el
      · have hil : i = ds.length := by omega
        subst hil
        rw [List.drop_length] at el
        cases el
        rw [List.append_nil] at er'
        subst er'
        refine .inl ⟨it.stop f.c _ H' (toJ (T1 := [(V.ref D1, O.lst (acc.map O.sh))]) s'), k _ _ ?_⟩
        have u := (s'.unblock hw s.fix).permT (T' := X ++ ((V.ref D1, O.lst (acc.map O.sh)) :: (Rj ++ T))) List.perm_middle.symm
        have v := (rest _ _ _ u).permT (T' := Rj ++ ((V.ref D1, O.lst (acc.map O.sh)) :: T)) List.perm_middle.symm
        exact v.dropL
    · exact k.elim
  · exact k.elim
end
end Den
end
section
/-! Den, part L: statements. -/
namespace Den
open PySem L2 PySem.Spec PyProof.Rows
inductive Out where
  | nx (ρ : Store) | brk (ρ : Store) | ct (ρ : Store) | ret (o : O) (ρ : Store) | exc (x : Xn) (ρ : Store) | stuck
abbrev aS := Store → Out
def Res.out {α : Type} : Res α → (α → Store → Out) → Out
  | .ok a ρ, k => k a ρ
  | .exc x ρ, _ => .exc x ρ
  | .stuck, _ => .stuck
def GoodS (Γ : Gb) (P : Nat → Bool) (W : WX) (f : Fr) (T : List (V × O)) (D : Ends) : Out → Prop
  | .nx ρ => ∀ σ H, SR Γ P f σ ρ T H → D.nx σ H
  | .brk ρ => ∀ σ H, SR Γ P f σ ρ T H → D.bk σ H
  | .ct ρ => ∀ σ H, SR Γ P f σ ρ T H → D.ct σ H
  | .ret o ρ => ∀ σ v H, SR Γ P f σ ρ ((v, o) :: T) H → D.rt v H
  | .exc x ρ => ∀ σ cls d H, XR Γ P f σ ρ T x cls d H → W cls d σ H
  | .stuck => False
def Ss (Γ : Gb) (P : Nat → Bool) (W : WX) (ts : TS) (g : aS) : Prop := ∀ f σ ρ T H D, SR Γ P f σ ρ T H → GoodS Γ P W f T D (g ρ) → ts D σ H
section
variable {α : Type} {Γ : Gb} {P : Nat → Bool} {W : WX} {f : Fr} {σ : L2.St} {T : List (V × O)} {D : Ends}
theorem GoodS.bind {k : α → Store → Out} {r : Res α} (h : GoodS Γ P W f T D (r.out k)) : Good Γ P W f σ T (fun a ρ => GoodS Γ P W f T D (k a ρ)) r := by
  cases r with
  | ok a ρ => exact h
  | exc x ρ => exact fun cls d H q => h σ cls d H q
  | stuck => exact h
end
/-! ### their dens -/
def sNext : aS := fun ρ => .nx ρ
def sBrk : aS := fun ρ => .brk ρ
def sCt : aS := fun ρ => .ct ρ
def sSeq (g h : aS) : aS := fun ρ => match g ρ with
  | .nx ρ' => h ρ'
  | o => o
def sDrop (g : aE) : aS := fun ρ => (g ρ).out fun _ ρ' => .nx ρ'
def sRet (g : aE) : aS := fun ρ => (g ρ).out fun o ρ' => .ret o ρ'
def sRetN : aS := fun ρ => .ret (.sh .non) ρ
def sIf (p : aT) (g h : aS) : aS := fun ρ => (p ρ).out fun b ρ' => if b = true then g ρ' else h ρ'
def sSet (i : Nat) (g : aE) : aS := fun ρ => (g ρ).out fun o ρ' => if i < ρ'.length then .nx (ρ'.set i (some o)) else .stuck
def sAsg (g : aE) (tg : aG) : aS := fun ρ => (g ρ).out fun o ρ' => match tg (fz o) ρ' with
  | some ρ2 => .nx ρ2
  | none => .stuck
def sPar (i j : Nat) (g h : aE) : aS := fun ρ => (g ρ).out fun o ρ1 => (h ρ1).out fun u ρ2 => if i < ρ2.length ∧ j < ρ2.length then .nx ((ρ2.set i (some o)).set j (some u)) else .stuck
def sPar3 (i j l : Nat) (g h k : aE) : aS := fun ρ => (g ρ).out fun o ρ1 => (h ρ1).out fun u ρ2 => (k ρ2).out fun w ρ3 => if i < ρ3.length ∧ j < ρ3.length ∧ l < ρ3.length then .nx (((ρ3.set i (some o)).set j (some u)).set l (some w)) else .stuck
def sAug (i : Nat) (g : aE) (f : O → O → Option O) : aS := fun ρ => match ρ[i]? with
  | some (some _) => (g ρ).out fun o ρ1 => match ρ1[i]? with
    | some (some x) => match f x o with
      | some w => .nx (ρ1.set i (some w))
      | none => .stuck
    | _ => .stuck
  | _ => .stuck
def forD (tg : aG) (body : aS) : List D → Store → Out
  | [], ρ => .nx ρ
  | d :: ds, ρ => match tg d ρ with
    | some ρ1 => match body ρ1 with
      | .nx ρ2 => forD tg body ds ρ2
      | .ct ρ2 => forD tg body ds ρ2
      | .brk ρ2 => .nx ρ2
      | o => o
    | none => .stuck
def sFor (src : aI) (tg : aG) (body : aS) : aS := fun ρ => (src ρ).out fun ds ρ1 => forD tg body ds ρ1
def wl (p : aT) (b : aS) : Nat → Store → Out
  | 0, _ => .stuck
  | n + 1, ρ => (p ρ).out fun c ρ1 => if c = true then match b ρ1 with
      | .nx ρ2 => wl p b n ρ2
      | .ct ρ2 => wl p b n ρ2
      | .brk ρ2 => .nx ρ2
      | o => o
    else .nx ρ1
open Classical in
noncomputable def sWhile (p : aT) (b : aS) : aS := fun ρ => if h : ∃ n, wl p b n ρ ≠ .stuck then wl p b h.choose ρ else .stuck
theorem wl_more {p : aT} {b : aS} : ∀ {n : Nat} {ρ : Store}, wl p b n ρ ≠ .stuck → wl p b (n + 1) ρ = wl p b n ρ
  | 0, ρ, h => (h rfl).elim
  | n + 1, ρ, h => by
    rw [wl] at h ⊢
    rw [wl]
    cases e : p ρ with
    | ok c ρ1 =>
      rw [e] at h
      simp only [Res.out] at h ⊢
      cases c with
      | false => rfl
      | true =>
        rw [if_pos rfl] at h ⊢
        rw [if_pos rfl]
        cases e2 : b ρ1 with
        | nx ρ2 =>
          rw [e2] at h
          exact wl_more h
        | ct ρ2 =>
          rw [e2] at h
          exact wl_more h
        | brk ρ2 => rfl
        | ret o ρ2 => rfl
        | exc x ρ2 => rfl
        | stuck => rfl
    | exc x ρ1 => rfl
    | stuck => rfl
theorem wl_add {p : aT} {b : aS} {n : Nat} {ρ : Store} (h : wl p b n ρ ≠ .stuck) : ∀ k, wl p b (n + k) ρ = wl p b n ρ
  | 0 => rfl
  | k + 1 => by
    have ih := wl_add h k
    have := wl_more (p := p) (b := b) (n := n + k) (ρ := ρ) (by rw [ih]; exact h)
    rw [← ih, ← this]
    rfl
theorem sWhile_of {p : aT} {b : aS} {n : Nat} {ρ : Store} (h : wl p b n ρ ≠ .stuck) : sWhile p b ρ = wl p b n ρ := by
  have hx : ∃ n, wl p b n ρ ≠ .stuck := ⟨n, h⟩
  unfold sWhile
  rw [dif_pos hx]
  have h2 := hx.choose_spec
  rcases Nat.le_total n hx.choose with l | l
  · obtain ⟨k, e⟩ := Nat.exists_eq_add_of_le l
    rw [e, wl_add h k]
  · obtain ⟨k, e⟩ := Nat.exists_eq_add_of_le l
    rw [e, wl_add h2 k]
theorem sWhile_ex {p : aT} {b : aS} {ρ : Store} (h : sWhile p b ρ ≠ .stuck) : ∃ n, wl p b n ρ ≠ .stuck ∧ sWhile p b ρ = wl p b n ρ := by
  by_cases hx : ∃ n, wl p b n ρ ≠ .stuck
  · obtain ⟨n, hn⟩ := hx
    exact ⟨n, hn, sWhile_of hn⟩
  · exact (h (by unfold sWhile; rw [dif_neg hx])).elim
/-- one turn of it -/
theorem sWhile_eq (p : aT) (b : aS) (ρ : Store) : sWhile p b ρ = (p ρ).out fun c ρ1 => if c = true then match b ρ1 with
      | .nx ρ2 => sWhile p b ρ2
      | .ct ρ2 => sWhile p b ρ2
      | .brk ρ2 => .nx ρ2
      | o => o
    else .nx ρ1 := by
  have key : ∀ ρ1 ρ2 : Store, (∀ n, wl p b (n + 1) ρ = wl p b n ρ2) → sWhile p b ρ = sWhile p b ρ2 := fun ρ1 ρ2 h => by
    by_cases hx : ∃ n, wl p b n ρ2 ≠ .stuck
    · obtain ⟨n, hn⟩ := hx
      rw [sWhile_of hn, sWhile_of (n := n + 1) (by rw [h]; exact hn), h]
    · have h2 : ¬ ∃ n, wl p b n ρ ≠ .stuck := fun ⟨n, hn⟩ => by
        cases n with
        | zero => exact hn rfl
        | succ n => exact hx ⟨n, by rw [← h]; exact hn⟩
      unfold sWhile
      rw [dif_neg hx, dif_neg h2]
  have now : ∀ o : Out, (∀ n, wl p b (n + 1) ρ = o) → sWhile p b ρ = o := fun o h => by
    by_cases e : o = .stuck
    · have h2 : ¬ ∃ n, wl p b n ρ ≠ .stuck := fun ⟨n, hn⟩ => by
        cases n with
        | zero => exact hn rfl
        | succ n => exact hn (by rw [h, e])
      unfold sWhile
      rw [dif_neg h2, e]
    · rw [sWhile_of (n := 1) (by rw [h]; exact e), h]
  cases e : p ρ with
  | ok c ρ1 =>
    cases c with
    | false => exact now _ fun n => by rw [wl, e]; rfl
    | true =>
      cases e2 : b ρ1 with
      | nx ρ2 => exact (key ρ1 ρ2 fun n => by simp [wl, e, e2, Res.out]).trans (by simp [e2, Res.out])
      | ct ρ2 => exact (key ρ1 ρ2 fun n => by simp [wl, e, e2, Res.out]).trans (by simp [e2, Res.out])
      | brk ρ2 => exact now _ fun n => by simp [wl, e, e2, Res.out]
      | ret o ρ2 => exact now _ fun n => by simp [wl, e, e2, Res.out]
      | exc x ρ2 => exact now _ fun n => by simp [wl, e, e2, Res.out]
      | stuck => exact now _ fun n => by simp [wl, e, e2, Res.out]
  | exc x ρ1 => exact now _ fun n => by rw [wl, e]; rfl
  | stuck => exact now _ fun n => by rw [wl, e]; rfl
/-! ### they are sound -/
section
variable {Γ : Gb} {P : Nat → Bool} {W : WX} {t u : TS} {g h : aS} {te ta tb tc : TE} {ge gf gk : aE} {tt : TT} {p : aT}
theorem ss_next : Ss Γ P W tNext sNext := fun f σ ρ T H D s k => k σ H s
theorem ss_brk : Ss Γ P W tBreak sBrk := fun f σ ρ T H D s k => k σ H s
theorem ss_ct : Ss Γ P W tCont sCt := fun f σ ρ T H D s k => k σ H s
theorem ss_seq (h1 : Ss Γ P W t g) (h2 : Ss Γ P W u h) : Ss Γ P W (tSeq t u) (sSeq g h) := fun f σ ρ T H D s k => by
  refine h1 f σ ρ T H { D with nx := u D } s ?_
  unfold sSeq at k
  cases e : g ρ with
  | nx ρ' =>
    rw [e] at k
    exact fun σ' H' s' => h2 f σ' ρ' T H' D s' k
  | brk ρ' => rw [e] at k; exact k
  | ct ρ' => rw [e] at k; exact k
  | ret o ρ' => rw [e] at k; exact k
  | exc x ρ' => rw [e] at k; exact k
  | stuck => rw [e] at k; exact k
theorem ss_drop (h1 : Sx Γ P W te ge) : Ss Γ P W (tDrop te) (sDrop ge) := fun f σ ρ T H D s k =>
  h1 f σ ρ T H _ s ((GoodS.bind k).imp fun o ρ' k v H' s' => k σ H' s'.drop)
theorem ss_ret (h1 : Sx Γ P W te ge) : Ss Γ P W (tRet te) (sRet ge) := fun f σ ρ T H D s k =>
  h1 f σ ρ T H _ s ((GoodS.bind k).imp fun o ρ' k v H' s' => k σ v H' s')
theorem ss_retN : Ss Γ P W tRetN sRetN := fun f σ ρ T H D s k => k σ _ H (s.pure fun _ => .non)
theorem ss_if (h1 : Sxt Γ P W tt p) (h2 : Ss Γ P W t g) (h3 : Ss Γ P W u h) : Ss Γ P W (tIfS tt t u) (sIf p g h) := fun f σ ρ T H D s k => by
  refine h1 f σ ρ T H _ s ((GoodS.bind k).imp fun b ρ' k H' s' => ?_)
  cases b with
  | true => exact iteT (h2 f σ ρ' T H' D s' k)
  | false => exact iteF (h3 f σ ρ' T H' D s' k)
theorem ss_set {i : Nat} (hp : P i = false) (h1 : Sx Γ P W te ge) : Ss Γ P W (tAsg te (gName i)) (sSet i ge) := fun f σ ρ T H D s k => by
  refine h1 f σ ρ T H _ s ((GoodS.bind k).imp fun o ρ' k v H' s' => ?_)
  split at k
  · rename_i hi
    exact k _ _ (s'.set (by rw [s'.lenS]; exact hi) hp)
  · exact k.elim
theorem ss_asg {tg : TG} {a : aG} {vs : List Nat} (h1 : Sx Γ P W te ge) (hg : Sg Γ P vs tg a) : Ss Γ P W (tAsg te tg) (sAsg ge a) := fun f σ ρ T H D s k => by
  refine h1 f σ ρ T H _ s ((GoodS.bind k).imp fun o ρ' k v H' s' => ?_)
  split at k
  · rename_i ρ2 e
    exact hg f σ ρ' T H' v _ ρ2 _ s'.fz e fun σ2 H2 _ s2 => k σ2 H2 s2
  · exact k.elim
theorem ss_par {i j : Nat} (hi : P i = false) (hj : P j = false) (h1 : Sx Γ P W ta ge) (h2 : Sx Γ P W tb gf) : Ss Γ P W (tPar i j (tCons ta (tCons tb tNil))) (sPar i j ge gf) := fun f σ ρ T H D s k => by
  refine h1 f σ ρ T H _ s ((GoodS.bind k).imp fun o ρ1 k v H1 s1 => ?_)
  have k2 := (GoodS.bind (σ := σ) k).more (T' := [(v, o)])
  refine h2 f σ ρ1 _ H1 _ s1 (k2.imp fun u ρ2 k w H2 s2 => ?_)
  split at k
  · rename_i hl
    refine ⟨v, w, rfl, k _ _ ?_⟩
    have s3 := (s2.permT (List.Perm.swap _ _ _)).set (i := i) (by rw [s2.lenS]; exact hl.1) hi
    exact s3.set (i := j) (by rw [s3.lenS, List.length_set]; exact hl.2) hj
  · exact k.elim
theorem ss_aug {i : Nat} {ti : TIp} {r : O → O → Option O} (hi : P i = false) (h1 : Sx Γ P W te ge) (ok : Op2 Γ ti r) : Ss Γ P W (tAug i te ti) (sAug i ge r) := fun f σ ρ T H D s k => by
  unfold sAug at k
  split at k
  · rename_i o0 e0
    obtain ⟨x, hx, _⟩ := s.take e0
    refine ⟨x, hx, h1 f σ ρ T H _ s ((GoodS.bind k).imp fun o ρ1 k v H1 s1 => ?_)⟩
    split at k
    · rename_i ox e1
      split at k
      · rename_i w ew
        have hl : i < ρ1.length := (List.getElem?_eq_some_iff.mp e1).1
        refine ok f.c _ H1 x ox v o w _ s1.rs (List.mem_append_left _ (slots_mem s1.ok e1 hx)) (by simp) ew fun z H2 q => k _ _ ?_
        have s2 : SR Γ P f σ ρ1 ((z, w) :: (v, o) :: T) H2 := ⟨s1.ok, s1.fix, q.perm List.perm_middle.symm⟩
        exact (s2.permT (List.Perm.swap _ _ _)).drop.set (by rw [s2.lenS]; exact hl) hi
      · exact k.elim
    · exact k.elim
  · exact k.elim
theorem GoodS.nxL {f : Fr} {T T' : List (V × O)} {D : Ends} {x : Xn} {ρ : Store} (k : GoodS Γ P W f T D (.exc x ρ)) : GoodS Γ P W f (T' ++ T) D (.exc x ρ) := fun σ cls d H q => k σ cls d H q.dropL
theorem ss_for {wi : TI} {src : aI} {tg : TG} {a : aG} {vs : List Nat} (hi : Sxi Γ P W wi src) (hg : Sg Γ P vs tg a) (hb : Ss Γ P W t g) : Ss Γ P W (tFor wi tg t) (sFor src a g) := fun f σ ρ T H D s k => by
  refine hi f σ ρ T H _ s ((GoodS.bind k).imp fun ds ρ1 k J Rj H1 it s1 => ?_)
  refine ⟨fun i m σ H => m = ds.length - i ∧ i ≤ ds.length ∧ ∃ ρ', SR Γ P f σ ρ' (Rj ++ T) H ∧ GoodS Γ P W f T D (forD a g (ds.drop i) ρ'), ⟨ds.length, by simp, Nat.zero_le _, ρ1, s1, by rw [List.drop_zero]; exact k⟩, ?_⟩
  rintro i m σ' H' ⟨rfl, hle, ρ', s', k'⟩
  have toJ : ∀ {ρ'' : Store} {σ'' : L2.St} {H'' : Hp}, SR Γ P f σ'' ρ'' (Rj ++ T) H'' → RS Γ f.c (Rj ++ (slotsR σ'' ρ'' ++ T)) H'' := fun q => q.rs.perm (List.perm_append_comm_assoc _ _ _)
  by_cases hi' : i < ds.length
  · obtain ⟨d, hd⟩ := get_of_lt hi'
    have hdrop : ds.drop i = d :: ds.drop (i + 1) := by
      rw [List.drop_eq_getElem_cons hi']
      rw [List.getElem?_eq_getElem hi'] at hd
      cases hd
      rfl
    rw [hdrop] at k'
    unfold forD at k'
    split at k'
    · rename_i ρa ea
      refine .inr ⟨it.go f.c _ i H' (toJ s') hi', fun σ'' H'' => ∃ ρ'', SR Γ P f σ'' ρ'' (Rj ++ T) H'' ∧ GoodS Γ P W f T D (forD a g (ds.drop (i + 1)) ρ''), fun σ'' H'' ⟨ρ'', q1, q2⟩ => ⟨ds.length - (i + 1), by omega, rfl, hi', ρ'', q1, q2⟩, fun x H'' y => ?_⟩
      have sy : SR Γ P f σ' ρ' ((x, .sh d) :: (Rj ++ T)) H'' := ⟨s'.ok, s'.fix, (it.yld f.c _ i d x H' H'' (toJ s') hd y).perm (((List.perm_append_comm_assoc _ _ _).cons _).trans List.perm_middle.symm)⟩
      refine hg f σ' ρ' _ H'' x d ρa _ sy ea fun σ2 H2 _ s2 => hb f σ2 ρa _ H2 _ s2 ?_
      cases e : g ρa with
      | nx ρb =>
        rw [e] at k'
        exact fun σ3 H3 s3 => ⟨ρb, s3, k'⟩
      | ct ρb =>
        rw [e] at k'
        exact fun σ3 H3 s3 => ⟨ρb, s3, k'⟩
      | brk ρb =>
        rw [e] at k'
        exact fun σ3 H3 s3 => k' σ3 H3 s3.dropL
      | ret o ρb =>
        rw [e] at k'
        exact fun σ3 v H3 s3 => k' σ3 v H3 (s3.permT (T' := Rj ++ (v, o) :: T) List.perm_middle.symm).dropL
      | exc x ρb =>
        rw [e] at k'
        exact fun σ3 cls dd H3 q => k' σ3 cls dd H3 q.dropL
      | stuck => rw [e] at k'; exact k'.elim
    · exact k'.elim
  · have hil : i = ds.length := by omega
    subst hil
    rw [List.drop_length] at k'
    exact .inl ⟨it.stop f.c _ H' (toJ s'), k' σ' H' s'.dropL⟩
theorem ss_while (h1 : Sxt Γ P W tt p) (h2 : Ss Γ P W t g) : Ss Γ P W (tWhile tt t) (sWhile p g) := fun f σ ρ T H D s k => by
  have hns : sWhile p g ρ ≠ .stuck := fun e => by rw [e] at k; exact k
  obtain ⟨n, hn, en⟩ := sWhile_ex hns
  rw [en] at k
  refine ⟨fun m σ H => ∃ ρ, SR Γ P f σ ρ T H ∧ GoodS Γ P W f T D (wl p g m ρ), ⟨n, ρ, s, k⟩, ?_⟩
  rintro m σ' H' ⟨ρ', s', k'⟩
  cases m with
  | zero => exact k'.elim
  | succ m =>
    rw [wl] at k'
    refine h1 f σ' ρ' T H' _ s' ((GoodS.bind k').imp fun c ρ1 k1 H1 s1 => ?_)
    cases c with
    | false => exact iteF (k1 σ' H1 s1)
    | true =>
      rw [if_pos rfl] at k1
      refine iteT ⟨fun σ'' H'' => ∃ ρ, SR Γ P f σ'' ρ T H'' ∧ GoodS Γ P W f T D (wl p g m ρ), fun σ'' H'' q => ⟨m, Nat.lt_succ_self _, q⟩, h2 f σ' ρ1 T H1 _ s1 ?_⟩
      cases e : g ρ1 with
      | nx ρb =>
        rw [e] at k1
        exact fun σ3 H3 s3 => ⟨ρb, s3, k1⟩
      | ct ρb =>
        rw [e] at k1
        exact fun σ3 H3 s3 => ⟨ρb, s3, k1⟩
      | brk ρb => rw [e] at k1; exact k1
      | ret o ρb => rw [e] at k1; exact k1
      | exc x ρb => rw [e] at k1; exact k1
      | stuck => rw [e] at k1; exact k1
end
end Den
end
section
/-! Den, part M: comprehensions of two clauses; statements as they stand in a text; the rule for a def. -/
namespace Den
open PySem L2 PySem.Spec PyProof.Rows
def lc2L (vs vs1 : List Nat) (tg : aG) (tt : aT) (src1 : aI) (tg1 : aG) (tt1 : aT) (ge : aE) : List D → Store → Res (List D)
  | [], ρ => .ok [] ρ
  | d :: ds, ρ => match tg d ρ with
    | some ρ1 => (tt ρ1).bind fun b ρ2 => if b = true then (src1 ρ2).bind fun ds1 ρ3 => (lcL vs1 tg1 tt1 ge ds1 (wipeS ρ3 vs1)).bind fun r ρ4 => (lc2L vs vs1 tg tt src1 tg1 tt1 ge ds (wipeS ρ4 vs)).bind fun r' ρ5 => .ok (r ++ r') ρ5
      else lc2L vs vs1 tg tt src1 tg1 tt1 ge ds (wipeS ρ2 vs)
    | none => .stuck
def aLc2 (src : aI) (vs vs1 : List Nat) (tg : aG) (tt : aT) (src1 : aI) (tg1 : aG) (tt1 : aT) (ge : aE) : aE := fun ρ => (src ρ).bind fun ds ρ1 => match lc2L vs vs1 tg tt src1 tg1 tt1 ge ds (wipeS ρ1 vs) with
    | .ok r ρ2 => if r.length ≤ 16000000 then .ok (.lst (r.map O.sh)) (restS ρ1 vs ρ2) else .stuck
    | _ => .stuck
theorem wipe_sub {σ : L2.St} {vs vs1 : List Nat} (h : ∀ i ∈ vs1, i ∈ vs) : wipe (wipe σ vs1) vs = wipe σ vs := by
  apply List.ext_getElem?
  intro j
  rw [wipe_get, wipe_get, wipe_get]
  by_cases hj : j ∈ vs
  · rw [if_pos hj, if_pos hj]
    by_cases hk : j ∈ vs1
    · rw [if_pos hk]
      cases σ[j]? <;> rfl
    · rw [if_neg hk]
  · rw [if_neg hj, if_neg hj, if_neg fun k => hj (h j k)]
section
variable {Γ : Gb} {P : Nat → Bool} {W : WX} {vs vs1 : List Nat}
theorem SR.again0 {P : Nat → Bool} {f : Fr} {σ σ0 : L2.St} {ρ : Store} {T : List (V × O)} {H : Hp} {ws : List Nat} (s : SR Γ P f σ ρ T H) (hp : ∀ j, P j = true → j ∉ ws) (hw : wipe σ ws = wipe σ0 ws) : SR Γ P f (wipe σ0 ws) (wipeS ρ ws) T H := by
  have s' := s.clears ws
  rw [← hw]
  refine s'.resig (wipe_length σ ws) (fun i o e => ?_) fun j hj => ?_
  · rw [wipe_get, if_neg fun m => wipeS_get m o e]
  · rw [wipe_get, if_neg (hp j hj)]
    exact s.fix j hj
theorem permK {α : Type} (S A X R T : List α) : (S ++ (A ++ (R ++ (X ++ T)))).Perm (R ++ (S ++ (A ++ (X ++ T)))) := by
  classical
  refine List.perm_iff_count.mpr fun a => ?_
  simp only [List.count_append]
  omega
theorem permI {α : Type} (x d : α) (S R T : List α) : (x :: (R ++ (S ++ ([d] ++ T)))).Perm (S ++ (x :: (R ++ (d :: T)))) := by
  classical
  refine List.perm_iff_count.mpr fun a => ?_
  simp only [List.count_append, List.count_cons, List.count_nil]
  omega
theorem sx_lc2 {wi wi1 : TI} {g g1 : TG} {tt tt1 : TT} {te : TE} {src src1 : aI} {tg tg1 : aG} {at_ at1 : aT} {ge : aE} (hv : ∀ i ∈ vs1, i ∈ vs) (hi : Sxi Γ P W wi src) (hg : Sg Γ (offP P vs) vs g tg) (ht : Sxt Γ (offP P vs) W0 tt at_)
    (hi1 : Sxi Γ (offP P vs) W0 wi1 src1) (hg1 : Sg Γ (offP P vs) vs1 g1 tg1) (ht1 : Sxt Γ (offP P vs) W0 tt1 at1) (he : Sx Γ (offP P vs) W0 te ge) :
    Sx Γ P W (tLc2 wi g tt wi1 g1 tt1 te vs vs1) (aLc2 src vs vs1 tg at_ src1 tg1 at1 ge) := fun f σ ρ T H Q s k => by
  have off : ∀ j, offP P vs j = true → j ∉ vs := fun j h => (offP_of h).2
  have off1 : ∀ j, offP P vs j = true → j ∉ vs1 := fun j h m => (offP_of h).2 (hv j m)
  refine hi f σ ρ T H _ s ((Good.bind k).imp fun ds ρ1 k J Rj H1 it s1 D1 hD => ?_)
  split at k
  · rename_i r ρ2 er
    split at k
    · rename_i hlen
      obtain ⟨X, sx, rest⟩ := s1.outs vs
      have b0 := sx.block (vs := vs) fun i m o => wipeS_get m o
      have b1 : SR Γ (offP P vs) f (wipe σ vs) (wipeS ρ1 vs) ((.ref D1, .lst (([] : List D).map O.sh)) :: (X ++ (Rj ++ T))) (upd H1 D1 (.lst [])) :=
        b0.mapT fun R q => RS.newL (rs := []) q hD
      refine ⟨fun i m H' => m = ds.length - i ∧ i ≤ ds.length ∧ ∃ ρ' acc r', lc2L vs vs1 tg at_ src1 tg1 at1 ge (ds.drop i) ρ' = .ok r' ρ2 ∧ acc ++ r' = r ∧ (∀ i ∈ vs, ∀ o, ρ'[i]? ≠ some (some o)) ∧
        SR Γ (offP P vs) f (wipe σ vs) ρ' ((.ref D1, .lst (acc.map O.sh)) :: (X ++ (Rj ++ T))) H', ⟨ds.length, by simp, Nat.zero_le _, wipeS ρ1 vs, [], r, by rw [List.drop_zero]; exact er, rfl, fun i m o => wipeS_get m o, b1⟩, ?_⟩
      rintro i m H' ⟨rfl, hle, ρ', acc, r', el, er', hw, s'⟩
      have toJ : ∀ {ρ'' : Store} {σ'' : L2.St} {H'' : Hp} {T1 : List (V × O)}, SR Γ (offP P vs) f σ'' ρ'' (T1 ++ (X ++ (Rj ++ T))) H'' → RS Γ f.c (Rj ++ (slotsR σ'' ρ'' ++ (T1 ++ (X ++ T)))) H'' := fun q => q.rs.perm (permJ _ _ _ _ _)
      by_cases hi' : i < ds.length
      · obtain ⟨d, hd⟩ := get_of_lt hi'
        have hdrop : ds.drop i = d :: ds.drop (i + 1) := by
          rw [List.drop_eq_getElem_cons hi']
          rw [List.getElem?_eq_getElem hi'] at hd
          cases hd
          rfl
        rw [hdrop] at el
        unfold lc2L at el
        split at el
        · rename_i ρa ea
          obtain ⟨b, ρb, eb, el⟩ := res_bind_ok el
          refine .inr ⟨it.go f.c _ i H' (toJ (T1 := [(V.ref D1, O.lst (acc.map O.sh))]) s') hi', fun H'' => ∃ ρ'' acc' r'', lc2L vs vs1 tg at_ src1 tg1 at1 ge (ds.drop (i + 1)) ρ'' = .ok r'' ρ2 ∧ acc' ++ r'' = r ∧ (∀ i ∈ vs, ∀ o, ρ''[i]? ≠ some (some o)) ∧
            SR Γ (offP P vs) f (wipe σ vs) ρ'' ((.ref D1, .lst (acc'.map O.sh)) :: (X ++ (Rj ++ T))) H'', fun H'' ⟨ρ'', acc', r'', q2, q3, q4, q5⟩ => ⟨ds.length - (i + 1), by omega, rfl, hi', ρ'', acc', r'', q2, q3, q4, q5⟩, fun x H'' y => ?_⟩
          have sy : SR Γ (offP P vs) f (wipe σ vs) ρ' ((x, .sh d) :: (.ref D1, .lst (acc.map O.sh)) :: (X ++ (Rj ++ T))) H'' :=
            ⟨s'.ok, s'.fix, (it.yld f.c _ i d x H' H'' (toJ (T1 := [(V.ref D1, O.lst (acc.map O.sh))]) s') hd y).perm (permY _ _ _ _ _ _)⟩
          refine hg f _ ρ' _ H'' x d ρa _ sy ea fun σ2 H2 w2 s2 => ⟨w2.trans wipe_wipe, ht f σ2 ρa _ H2 _ s2 ?_⟩
          rw [eb]
          intro H3 s3
          cases b with
          | true =>
            refine iteT ?_
            rw [if_pos rfl] at el
            obtain ⟨ds1, ρc, ec, el⟩ := res_bind_ok el
            obtain ⟨r1, ρd, ed, el⟩ := res_bind_ok el
            obtain ⟨r2, ρe, ee, el⟩ := res_bind_ok el
            cases el
            refine hi1 f σ2 ρb _ H3 _ s3 ?_
            rw [ec]
            intro J1 Rj1 H4 it1 s4
            -- the inner block
            have c0 : SR Γ (offP P vs) f (wipe σ2 vs1) (wipeS ρc vs1) (Rj1 ++ ((.ref D1, .lst (acc.map O.sh)) :: (X ++ (Rj ++ T)))) H4 := s4.again0 off1 rfl
            refine ⟨fun j m H' => m = ds1.length - j ∧ j ≤ ds1.length ∧ ∃ ρ' acc' r', lcL vs1 tg1 at1 ge (ds1.drop j) ρ' = .ok r' ρd ∧ acc' ++ (r' ++ r2) = r ∧
              SR Γ (offP P vs) f (wipe σ2 vs1) ρ' (Rj1 ++ ((.ref D1, .lst (acc'.map O.sh)) :: (X ++ (Rj ++ T)))) H', ⟨ds1.length, by simp, Nat.zero_le _, wipeS ρc vs1, acc, r1, by rw [List.drop_zero]; exact ed, er', c0⟩, ?_⟩
            rintro j m H5 ⟨rfl, hle1, ρj, acc1, rj, elj, erj, s5⟩
            have toJ1 : ∀ {ρ'' : Store} {σ'' : L2.St} {H'' : Hp} {T1 : List (V × O)}, SR Γ (offP P vs) f σ'' ρ'' (Rj1 ++ T1) H'' → RS Γ f.c (Rj1 ++ (slotsR σ'' ρ'' ++ T1)) H'' := fun q => q.rs.perm (List.perm_append_comm_assoc _ _ _)
            by_cases hj' : j < ds1.length
            · obtain ⟨d1, hd1⟩ := get_of_lt hj'
              have hdrop1 : ds1.drop j = d1 :: ds1.drop (j + 1) := by
                rw [List.drop_eq_getElem_cons hj']
                rw [List.getElem?_eq_getElem hj'] at hd1
                cases hd1
                rfl
              rw [hdrop1] at elj
              unfold lcL at elj
              split at elj
              · rename_i ρja eja
                obtain ⟨b, ρjb, ejb, elj⟩ := res_bind_ok elj
                refine .inr ⟨it1.go f.c _ j H5 (toJ1 s5) hj', fun H'' => ∃ ρ'' acc' r'', lcL vs1 tg1 at1 ge (ds1.drop (j + 1)) ρ'' = .ok r'' ρd ∧ acc' ++ (r'' ++ r2) = r ∧
                  SR Γ (offP P vs) f (wipe σ2 vs1) ρ'' (Rj1 ++ ((.ref D1, .lst (acc'.map O.sh)) :: (X ++ (Rj ++ T)))) H'', fun H'' ⟨ρ'', acc', r'', q2, q3, q5⟩ => ⟨ds1.length - (j + 1), by omega, rfl, hj', ρ'', acc', r'', q2, q3, q5⟩, fun x1 H6 y1 => ?_⟩
                have sy1 : SR Γ (offP P vs) f (wipe σ2 vs1) ρj ((x1, .sh d1) :: (Rj1 ++ ((.ref D1, .lst (acc1.map O.sh)) :: (X ++ (Rj ++ T))))) H6 :=
                  ⟨s5.ok, s5.fix, (it1.yld f.c _ j d1 x1 H5 H6 (toJ1 s5) hd1 y1).perm (permI _ _ _ _ _)⟩
                refine hg1 f _ ρj _ H6 x1 d1 ρja _ sy1 eja fun σ7 H7 w7 s7 => ⟨w7.trans wipe_wipe, ht1 f σ7 ρja _ H7 _ s7 ?_⟩
                rw [ejb]
                intro H8 s8
                cases b with
                | true =>
                  refine iteT ?_
                  rw [if_pos rfl] at elj
                  obtain ⟨o, ρjc, ejc, elj⟩ := res_bind_ok elj
                  obtain ⟨r'', ρjd, ejd, elj⟩ := res_bind_ok elj
                  cases elj
                  refine he f σ7 ρjb _ H8 _ s8 ?_
                  rw [ejc]
                  intro y H9 s9
                  obtain ⟨us, hus, hul, s10⟩ := SR.push (T := Rj1 ++ (X ++ (Rj ++ T))) (s9.permT (T' := (y, o) :: (.ref D1, .lst (acc1.map O.sh)) :: (Rj1 ++ (X ++ (Rj ++ T)))) (List.perm_middle.cons _))
                  refine ⟨us, hus, lt_line ?_, wipeS ρjc vs1, acc1 ++ [fz o], r'', ejd, by rw [← erj]; simp, ?_⟩
                  · rw [hul]
                    have := congrArg List.length erj
                    simp only [List.length_append, List.length_cons] at this
                    omega
                  · exact (s10.again0 off1 (w7.trans wipe_wipe)).permT List.perm_middle.symm
                | false =>
                  refine iteF ?_
                  rw [if_neg (by simp)] at elj
                  exact ⟨wipeS ρjb vs1, acc1, rj, elj, erj, s8.again0 off1 (w7.trans wipe_wipe)⟩
              · cases elj
            · have hjl : j = ds1.length := by omega
              subst hjl
              rw [List.drop_length] at elj
              cases elj
              refine .inl ⟨it1.stop f.c _ H5 (toJ1 s5), wipeS ρd vs, acc1, r2, ee, by rw [← erj]; rfl, fun i m o => wipeS_get m o, ?_⟩
              have q := s5.again0 (σ0 := σ) off ((wipe_sub hv).trans (w2.trans wipe_wipe))
              exact q.dropL
          | false =>
            refine iteF ?_
            rw [if_neg (by simp)] at el
            exact ⟨wipeS ρb vs, acc, r', el, er', fun i m o => wipeS_get m o, s3.again (w2.trans wipe_wipe)⟩
        · cases el
      · have hil : i = ds.length := by omega
        subst hil
        rw [List.drop_length] at el
        cases el
        rw [List.append_nil] at er'
        subst er'
        refine .inl ⟨it.stop f.c _ H' (toJ (T1 := [(V.ref D1, O.lst (acc.map O.sh))]) s'), k _ _ ?_⟩
        have u := (s'.unblock hw s.fix).permT (T' := X ++ ((V.ref D1, O.lst (acc.map O.sh)) :: (Rj ++ T))) List.perm_middle.symm
        have v := (rest _ _ _ u).permT (T' := Rj ++ ((V.ref D1, O.lst (acc.map O.sh)) :: T)) List.perm_middle.symm
        exact v.dropL
    · exact k.elim
  · exact k.elim
end
end Den
end
section
/-! Den, part N: statements as they stand in a text, calls, comprehensions; the rule for a def. -/
namespace Den
open PySem L2 PySem.Spec PyProof.Rows
structure AG (X : Cx) (Γ : Gb) (P : Nat → Bool) (vs : List Nat) (target : Expr) (t : TG) (a : aG) : Prop where
  pg : PG X target t
  sg : Sg Γ P vs t a
structure AGs (X : Cx) (Γ : Gb) (P : Nat → Bool) (vs : List Nat) (ts : List Expr) (t : TGs) (as : List aG) : Prop where
  pgs : PGs X ts t
  sgs : Sgs Γ P vs t as
structure AS (X : Cx) (Γ : Gb) (P : Nat → Bool) (W : WX) (st : Stmt) (t : TS) (g : aS) : Prop where
  ps : PS X st t
  sx : Ss Γ P W t g
structure AL (X : Cx) (Γ : Gb) (P : Nat → Bool) (W : WX) (sts : List Stmt) (t : TS) (g : aS) : Prop where
  pss : PSs X sts t
  sx : Ss Γ P W t g
/-- (a, b, ..) = a tuple or a list of that length -/
def aUnp (as : List aG) : aG := fun d ρ => match d with
  | .tup ds => aGs as ds ρ
  | .lst ds => aGs as ds ρ
  | _ => none
def gUnpT (K : PySem.W.Frag) (n : Nat) (t : TGs) : TG := fun v σ H Q => L2.gTup K n t v σ H Q ∨ gUnl K n t v σ H Q
section
variable {X : Cx} {Γ : Gb} {P : Nat → Bool} {W : WX} {vs : List Nat} {t u : TS} {g h : aS} {te ta tb : TE} {ge gf : aE} {tt : TT} {p : aT} {tg : TG} {tgs : TGs} {a : aG} {as : List aG} {e : Expr} {es : List Expr} {st : Stmt} {rest sa sb : List Stmt} {pos : Pos}
theorem ag_name (i : Nat) {x : Str} (hN : X.N.Nodup) (hi : X.N[i]? = some x := by rfl) (hx : Loc X.env.scope x := by first | exact .inl rfl | exact .inr rfl) (hp : P i = false := by rfl) (hv : i ∈ vs := by decide)
    (hf : X.fn x = true ∨ X.env.scope.names.lookup x = some .local := by first | exact .inl rfl | exact .inr rfl) : AG X Γ P vs (.Name x pos) (gName i) (aN i) := ⟨pg_name hN hi hx hf, sg_name hp hv⟩
theorem ags_nil : AGs X Γ P vs [] gNil [] := ⟨pgs_nil, sgs_nil⟩
theorem ags_cons (h1 : AG X Γ P vs e tg a) (h2 : AGs X Γ P vs es tgs as) (hs : (assignEach (e :: es) X.env).map (·.2) = assign e X.env :: (assignEach es X.env).map (·.2) := by rfl) : AGs X Γ P vs (e :: es) (gCons tg tgs) (a :: as) :=
  ⟨pgs_cons h1.pg h2.pgs hs, sgs_cons h1.sg h2.sgs⟩
theorem ag_tup {k n : Nat} (hK : X.K = Γ.K) (h : AGs X Γ P vs es tgs as) (hc : X.calm = true := by rfl) (hn : (assignEach es X.env).length = n := by rfl) (hn2 : as.length = n := by rfl) (hst : (assignEach es X.env).findIdx? (·.1) = none := by rfl) :
    AG X Γ P vs (.Tuple es k pos) (L2.gTup Γ.K n tgs) (aTupG as) := ⟨hK ▸ pg_tup hc h.pgs hn hst, sg_tup h.sgs hn2⟩
theorem PG.or {target : Expr} {t1 t2 : TG} (h1 : PG X target t1) (h2 : PG X target t2) : PG X target fun v σ H Q => t1 v σ H Q ∨ t2 v σ H Q :=
  ⟨fun pins s σ H v u Q I r h => h.elim (fun q => h1.run pins s σ H v u Q I r q) fun q => h2.run pins s σ H v u Q I r q⟩
theorem sg_unp {n : Nat} {gs : TGs} (h : Sgs Γ P vs gs as) (hn : as.length = n) : Sg Γ P vs (gUnpT Γ.K n gs) (aUnp as) := fun f σ ρ T H v d ρ' Q s e k => by
  unfold aUnp at e
  split at e
  · exact .inl (sg_tup h hn f σ ρ T H v _ ρ' Q s e k)
  · rename_i ds
    refine .inr ?_
    obtain ⟨a, xs, rfl, p, q⟩ := RS.lst (v := v) (o := .sh (.lst ds)) s.rs (by simp) rfl
    refine ⟨a, xs, rfl, .of p, by rw [q.len, aGs_len e, hn], h f σ ρ T H xs ds ρ' Q ?_ q.len e k⟩
    obtain ⟨S, sb, r, _, ad⟩ := q.ex
    have z := ad xs ds r
    refine ⟨s.ok, s.fix, ?_⟩
    have pm : (xs.zip (ds.map O.sh) ++ (slotsR σ ρ ++ (V.ref a, O.sh (.lst ds)) :: T)).Perm ((V.ref a, O.sh (.lst ds)) :: (slotsR σ ρ ++ (xs.zip (ds.map O.sh) ++ T))) := by
      refine (List.perm_append_comm_assoc _ _ _).trans ?_
      refine (List.Perm.append_left _ List.perm_middle).trans ?_
      exact List.perm_middle
    exact (z.perm pm).drop
  · cases e
theorem ag_unp {k n : Nat} (hK : X.K = Γ.K) (h : AGs X Γ P vs es tgs as) (hc : X.calm = true := by rfl) (hn : (assignEach es X.env).length = n := by rfl) (hn2 : as.length = n := by rfl) (hst : (assignEach es X.env).findIdx? (·.1) = none := by rfl) :
    AG X Γ P vs (.Tuple es k pos) (gUnpT Γ.K n tgs) (aUnp as) := ⟨hK ▸ PG.or (pg_tup hc h.pgs hn hst) (pg_unl hc h.pgs hn hst), sg_unp h.sgs hn2⟩
/-! statements -/
theorem al_nil : AL X Γ P W [] tNext sNext := ⟨pss_nil, ss_next⟩
theorem al_one (h1 : AS X Γ P W st t g) : AL X Γ P W [st] t g := ⟨pss_one h1.ps, h1.sx⟩
theorem al_cons (h1 : AS X Γ P W st t g) (h2 : AL X Γ P W rest u h) : AL X Γ P W (st :: rest) (tSeq t u) (sSeq g h) := ⟨pss_cons h1.ps h2.pss, ss_seq h1.sx h2.sx⟩
theorem as_pass : AS X Γ P W (.Pass pos) tNext sNext := ⟨ps_pass, ss_next⟩
theorem as_brk : AS X Γ P W (.Break pos) tBreak sBrk := ⟨ps_break, ss_brk⟩
theorem as_ct : AS X Γ P W (.Continue pos) tCont sCt := ⟨ps_continue, ss_ct⟩
theorem as_doc {x j pos pos'} : AS X Γ P W (.Expr (.Constant (.str x) j pos) pos') tNext sNext := ⟨ps_doc, ss_next⟩
theorem as_expr (he : AE X Γ P W e te ge) (hs : swapsWith e none pos.line X.env = pure false := by rfl) : AS X Γ P W (.Expr e pos) (tDrop te) (sDrop ge) := ⟨ps_expr he.pe hs, ss_drop he.sx⟩
theorem as_ret (he : AE X Γ P W e te ge) : AS X Γ P W (.Return (some e) pos) (tRet te) (sRet ge) := ⟨ps_ret he.pe, ss_ret he.sx⟩
theorem as_retN : AS X Γ P W (.Return none pos) tRetN sRetN := ⟨ps_retN, ss_retN⟩
theorem as_if {c : Expr} (hc : AT X Γ P W c tt p) (ha : AL X Γ P W sa t g) (hb : AL X Γ P W sb u h) : AS X Γ P W (.If c sa sb pos) (tIfS tt t u) (sIf p g h) := ⟨ps_if hc.pt ha.pss hb.pss, ss_if hc.sx ha.sx hb.sx⟩
theorem as_set (i : Nat) {x : Str} {pos' : Pos} (hN : X.N.Nodup) (he : AE X Γ P W e te ge) (hi : X.N[i]? = some x := by rfl) (hx : Loc X.env.scope x := by first | exact .inl rfl | exact .inr rfl) (hp : P i = false := by rfl)
    (hs : swapsWith e (some (.Name x pos')) pos.line X.env = pure false := by rfl) (hf : X.fn x = true ∨ X.env.scope.names.lookup x = some .local := by first | exact .inl rfl | exact .inr rfl) :
    AS X Γ P W (.Assign [.Name x pos'] e pos) (tAsg te (gName i)) (sSet i ge) := ⟨ps_set hN hi hx he.pe hs hf, ss_set hp he.sx⟩
theorem as_asg {tge : Expr} (he : AE X Γ P W e te ge) (hg : AG X Γ P vs tge tg a) (hs : swapsWithSole [tge] e pos.line X.env = pure false := by rfl) (hw : swappedStores [tge] e X.env = pure none := by rfl)
    (h1 : (assignEach [tge] X.env).map (·.2) = [assign tge X.env] := by rfl) : AS X Γ P W (.Assign [tge] e pos) (tAsg te tg) (sAsg ge a) := ⟨ps_asg he.pe hg.pg hs hw h1, ss_asg he.sx hg.sg⟩
theorem as_par (i j : Nat) {x y : Str} {a b : Expr} {px py pt : Pos} {kt k2 pt2} (hN : X.N.Nodup) (ha : AE X Γ P W a ta ge) (hb : AE X Γ P W b tb gf) (hi : X.N[i]? = some x := by rfl) (hj : X.N[j]? = some y := by rfl) (hij : i ≠ j := by decide)
    (hx : X.env.scope.names.lookup x = some .local := by rfl) (hy : X.env.scope.names.lookup y = some .local := by rfl) (hpi : P i = false := by rfl) (hpj : P j = false := by rfl)
    (hw : swappedStores [.Tuple [.Name x px, .Name y py] kt pt] (.Tuple [a, b] k2 pt2) X.env = pure (some [x, y]) := by rfl)
    (hs : swapsWithSole [.Tuple [.Name x px, .Name y py] kt pt] (.Tuple [a, b] k2 pt2) pos.line X.env = pure false := by rfl) (hc : X.calm = true := by rfl)
    (hs1 : starEach (a :: [b]) X.env = (false, eval a X.env) :: starEach [b] X.env := by rfl) (hs2 : starEach (b :: []) X.env = (false, eval b X.env) :: starEach [] X.env := by rfl) :
    AS X Γ P W (.Assign [.Tuple [.Name x px, .Name y py] kt pt] (.Tuple [a, b] k2 pt2) pos) (tPar i j (tCons ta (tCons tb tNil))) (sPar i j ge gf) :=
  ⟨ps_par hc hN hi hj hij hx hy (pa_cons ha.pe (pa_cons hb.pe pa_nil hs2) hs1) hw hs, ss_par hpi hpj ha.sx hb.sx⟩
theorem as_aug (i : Nat) {x : Str} {op : Operator} {ti : TIp} {r : O → O → Option O} {pos' : Pos} (hN : X.N.Nodup) (ok : Op2 Γ ti r) (ho : PIp X op ti) (he : AE X Γ P W e te ge) (hi : X.N[i]? = some x := by rfl) (hx : Loc X.env.scope x := by first | exact .inl rfl | exact .inr rfl) (hp : P i = false := by rfl)
    (hf : X.fn x = true ∨ X.env.scope.names.lookup x = some .local := by first | exact .inl rfl | exact .inr rfl) :
    AS X Γ P W (.AugAssign (.Name x pos') op e pos) (tAug i te ti) (sAug i ge r) := ⟨ps_aug hN hi hx he.pe ho hf, ss_aug hp he.sx ok⟩
theorem as_for {iter : Expr} {wi : TI} {src : aI} {tge : Expr} (hp : PassesOwn (model X.prog X.w) X.A X.env X.xe) (hi : AI X Γ P W tge iter wi src) (hg : AG X Γ P vs tge tg a) (hb : AL X Γ P W sa t g) (hc : X.calm = true := by rfl)
    (hs : ∀ x, foldedSetIterable iter X.env x = pure x := by intro _; rfl) : AS X Γ P W (.For tge iter sa [] pos) (tFor wi tg t) (sFor src a g) := ⟨ps_for hp hc hi.pi hg.pg hb.pss hs, ss_for hi.sx hg.sg hb.sx⟩
theorem as_while {c : Expr} (hp : PassesOwn (model X.prog X.w) X.A X.env X.xe) (hc : AT X Γ P W c tt p) (hb : AL X Γ P W sa t g) : AS X Γ P W (.While c sa [] pos) (tWhile tt t) (sWhile p g) := ⟨ps_while hp hc.pt hb.pss, ss_while hc.sx hb.sx⟩
/-! ints, augmented -/
def gAddI : O → O → Option O
  | .sh (.int i), .sh (.int j) => some (.sh (.int (i + j)))
  | _, _ => none
def gSubI : O → O → Option O
  | .sh (.int i), .sh (.int j) => some (.sh (.int (i - j)))
  | _, _ => none
theorem ok_addI : Op2 Γ (ipI fun i j => i + j) gAddI := by
  intro c R H x ox y oy w Q h m1 m2 e k
  unfold gAddI at e
  split at e
  · cases e
    exact ⟨_, _, h.int m1, h.int m2, k _ _ (h.pure fun _ => .int _)⟩
  · cases e
theorem ok_subI : Op2 Γ (ipI fun i j => i - j) gSubI := by
  intro c R H x ox y oy w Q h m1 m2 e k
  unfold gSubI at e
  split at e
  · cases e
    exact ⟨_, _, h.int m1, h.int m2, k _ _ (h.pure fun _ => .int _)⟩
  · cases e
end
/-! ### comprehensions in a text -/
structure APt (X : Cx) (Γ : Gb) (P : Nat → Bool) (W : WX) (ifs : List Expr) (tt : TT) (g : aT) : Prop where
  pts : PTs X ifs tt
  sx : Sxt Γ P W tt g
section
variable {X : Cx} {Γ : Gb} {P : Nat → Bool} {W : WX}
theorem apt_nil : APt X Γ P W [] tYes aYes := ⟨pts_nil, sxt_yes⟩
theorem apt_one {c : Expr} {tt : TT} {p : aT} (h : AT X Γ P W c tt p) : APt X Γ P W [c] tt p := ⟨pts_one h.pt, h.sx⟩
section
variable {elt tg iter : Expr} {ifs : List Expr} {scope : Scope} {pos spos : Pos} {wi : TI} {g : TG} {tt : TT} {te : TE} {src : aI} {a : aG} {p : aT} {ge : aE}
theorem ae_lc (own : List (Str × Nat)) (hN : X.N.Nodup) (hi : AI X Γ P W tg iter wi src) (hg : ∀ (s : Shared) (H : Hp) (C : Addr) (cl : List (Str × Addr)) (fp : List Addr), AG (X.blk s H scope (compEnvC scope cl C X.env) fp) Γ (offP P (own.map (·.2))) (own.map (·.2)) tg g a)
    (ht : ∀ (s : Shared) (H : Hp) (C : Addr) (cl : List (Str × Addr)) (fp : List Addr), APt (X.blk s H scope (compEnvC scope cl C X.env) fp) Γ (offP P (own.map (·.2))) W0 ifs tt p)
    (he : ∀ (s : Shared) (H : Hp) (C : Addr) (cl : List (Str × Addr)) (fp : List Addr), AE (X.blk s H scope (compEnvC scope cl C X.env) fp) Γ (offP P (own.map (·.2))) W0 elt te ge) (ok : blkC X.N X.env.scope scope own = true := by first | rfl | kernel_rfl) (hc : X.calm = true := by rfl)
    (hs : ∀ x, foldedSetIterable iter X.env x = pure x := by intro _; rfl) : AE X Γ P W (.ListComp elt [⟨tg, iter, ifs, 0⟩] scope pos) (tLc wi g tt te (own.map (·.2))) (aLc src (own.map (·.2)) a p ge) :=
  ⟨pe_lc hc hN hi.pi (blkOk_by ok) (fun s H C cl fp => (hg s H C cl fp).pg) (fun s H C cl fp => (ht s H C cl fp).pts) (fun s H C cl fp => (he s H C cl fp).pe) hs,
    sx_lc hi.sx (hg X.s_0 X.H_0 0 [] []).sg (ht X.s_0 X.H_0 0 [] []).sx (he X.s_0 X.H_0 0 [] []).sx⟩
theorem as_setLc (i : Nat) {y : Str} {py : Pos} (own : List (Str × Nat)) (hN : X.N.Nodup) (hi : AI X Γ P W tg iter wi src) (hg : ∀ (s : Shared) (H : Hp) (C : Addr) (cl : List (Str × Addr)) (fp : List Addr), AG (X.blk s H scope (compEnvC scope cl C X.env) fp) Γ (offP P (own.map (·.2))) (own.map (·.2)) tg g a)
    (ht : ∀ (s : Shared) (H : Hp) (C : Addr) (cl : List (Str × Addr)) (fp : List Addr), APt (X.blk s H scope (compEnvC scope cl C X.env) fp) Γ (offP P (own.map (·.2))) W0 ifs tt p)
    (he : ∀ (s : Shared) (H : Hp) (C : Addr) (cl : List (Str × Addr)) (fp : List Addr), AE (X.blk s H scope (compEnvC scope cl C X.env) fp) Γ (offP P (own.map (·.2))) W0 elt te ge) (ok : blkC X.N X.env.scope scope own = true := by first | rfl | kernel_rfl) (hc : X.calm = true := by rfl)
    (hy : X.N[i]? = some y := by rfl) (hyl : X.env.scope.names.lookup y = some .local := by rfl) (hk : X.env.scope.kind = .function := by rfl) (hl : (py.line == pos.line) = true := by rfl) (hl2 : (py.line == spos.line) = true := by rfl)
    (ha : (scope.names.any fun (n, k) => n == y && (k == .local || k == .cell)) = false := by decide +kernel) (hpi : P i = false := by rfl) (hs : ∀ x, foldedSetIterable iter X.env x = pure x := by intro _; rfl)
    (hsw : swapsWith (.ListComp elt [⟨tg, iter, ifs, 0⟩] scope pos) (some (.Name y py)) spos.line X.env = pure true := by exact sw_true rfl rfl rfl (by decide +kernel)) :
    AS X Γ P W (.Assign [.Name y py] (.ListComp elt [⟨tg, iter, ifs, 0⟩] scope pos) spos) (tAsg (tLc wi g tt te (own.map (·.2))) (gName i)) (sSet i (aLc src (own.map (·.2)) a p ge)) :=
  ⟨ps_setLc hc hN hy hyl hsw hi.pi (blkOk_by ok) (fun s H C cl fp => (hg s H C cl fp).pg) (fun s H C cl fp => (ht s H C cl fp).pts) (fun s H C cl fp => (he s H C cl fp).pe) hs,
    ss_set hpi (sx_lc hi.sx (hg X.s_0 X.H_0 0 [] []).sg (ht X.s_0 X.H_0 0 [] []).sx (he X.s_0 X.H_0 0 [] []).sx)⟩
variable {tg1 iter1 : Expr} {ifs1 : List Expr} {wi1 : TI} {g1 : TG} {tt1 : TT} {src1 : aI} {a1 : aG} {p1 : aT}
theorem ae_lc2 (own : List (Str × Nat)) (vs1 : List Nat) (hN : X.N.Nodup) (hi : AI X Γ P W tg iter wi src) (hg : ∀ (s : Shared) (H : Hp) (C : Addr) (cl : List (Str × Addr)) (fp : List Addr), AG (X.blk s H scope (compEnvC scope cl C X.env) fp) Γ (offP P (own.map (·.2))) (own.map (·.2)) tg g a)
    (ht : ∀ (s : Shared) (H : Hp) (C : Addr) (cl : List (Str × Addr)) (fp : List Addr), APt (X.blk s H scope (compEnvC scope cl C X.env) fp) Γ (offP P (own.map (·.2))) W0 ifs tt p)
    (hi1 : ∀ (s : Shared) (H : Hp) (C : Addr) (cl : List (Str × Addr)) (fp : List Addr), AI (X.blk s H scope (compEnvC scope cl C X.env) fp) Γ (offP P (own.map (·.2))) W0 tg1 iter1 wi1 src1)
    (hg1 : ∀ (s : Shared) (H : Hp) (C : Addr) (cl : List (Str × Addr)) (fp : List Addr), AG (X.blk s H scope (compEnvC scope cl C X.env) fp) Γ (offP P (own.map (·.2))) vs1 tg1 g1 a1)
    (ht1 : ∀ (s : Shared) (H : Hp) (C : Addr) (cl : List (Str × Addr)) (fp : List Addr), APt (X.blk s H scope (compEnvC scope cl C X.env) fp) Γ (offP P (own.map (·.2))) W0 ifs1 tt1 p1)
    (he : ∀ (s : Shared) (H : Hp) (C : Addr) (cl : List (Str × Addr)) (fp : List Addr), AE (X.blk s H scope (compEnvC scope cl C X.env) fp) Γ (offP P (own.map (·.2))) W0 elt te ge) (hv : ∀ i ∈ vs1, i ∈ own.map (·.2) := by decide) (ok : blkC X.N X.env.scope scope own = true := by first | rfl | kernel_rfl) (hc : X.calm = true := by rfl)
    (hs : ∀ x, foldedSetIterable iter X.env x = pure x := by intro _; rfl) (hs1 : ∀ env x, foldedSetIterable iter1 env x = pure x := by intro _ _; rfl) :
    AE X Γ P W (.ListComp elt [⟨tg, iter, ifs, 0⟩, ⟨tg1, iter1, ifs1, 0⟩] scope pos) (tLc2 wi g tt wi1 g1 tt1 te (own.map (·.2)) vs1) (aLc2 src (own.map (·.2)) vs1 a p src1 a1 p1 ge) :=
  ⟨pe_lc2 hc hN hi.pi (blkOk_by ok) hv (fun s H C cl fp => (hg s H C cl fp).pg) (fun s H C cl fp => (ht s H C cl fp).pts) (fun s H C cl fp => (hi1 s H C cl fp).pi) (fun s H C cl fp => (hg1 s H C cl fp).pg) (fun s H C cl fp => (ht1 s H C cl fp).pts) (fun s H C cl fp => (he s H C cl fp).pe) hs hs1,
    sx_lc2 hv hi.sx (hg X.s_0 X.H_0 0 [] []).sg (ht X.s_0 X.H_0 0 [] []).sx (hi1 X.s_0 X.H_0 0 [] []).sx (hg1 X.s_0 X.H_0 0 [] []).sg (ht1 X.s_0 X.H_0 0 [] []).sx (he X.s_0 X.H_0 0 [] []).sx⟩
theorem as_setLc2 (i : Nat) {y : Str} {py : Pos} (own : List (Str × Nat)) (vs1 : List Nat) (hN : X.N.Nodup) (hi : AI X Γ P W tg iter wi src) (hg : ∀ (s : Shared) (H : Hp) (C : Addr) (cl : List (Str × Addr)) (fp : List Addr), AG (X.blk s H scope (compEnvC scope cl C X.env) fp) Γ (offP P (own.map (·.2))) (own.map (·.2)) tg g a)
    (ht : ∀ (s : Shared) (H : Hp) (C : Addr) (cl : List (Str × Addr)) (fp : List Addr), APt (X.blk s H scope (compEnvC scope cl C X.env) fp) Γ (offP P (own.map (·.2))) W0 ifs tt p)
    (hi1 : ∀ (s : Shared) (H : Hp) (C : Addr) (cl : List (Str × Addr)) (fp : List Addr), AI (X.blk s H scope (compEnvC scope cl C X.env) fp) Γ (offP P (own.map (·.2))) W0 tg1 iter1 wi1 src1)
    (hg1 : ∀ (s : Shared) (H : Hp) (C : Addr) (cl : List (Str × Addr)) (fp : List Addr), AG (X.blk s H scope (compEnvC scope cl C X.env) fp) Γ (offP P (own.map (·.2))) vs1 tg1 g1 a1)
    (ht1 : ∀ (s : Shared) (H : Hp) (C : Addr) (cl : List (Str × Addr)) (fp : List Addr), APt (X.blk s H scope (compEnvC scope cl C X.env) fp) Γ (offP P (own.map (·.2))) W0 ifs1 tt1 p1)
    (he : ∀ (s : Shared) (H : Hp) (C : Addr) (cl : List (Str × Addr)) (fp : List Addr), AE (X.blk s H scope (compEnvC scope cl C X.env) fp) Γ (offP P (own.map (·.2))) W0 elt te ge) (hv : ∀ i ∈ vs1, i ∈ own.map (·.2) := by decide) (ok : blkC X.N X.env.scope scope own = true := by first | rfl | kernel_rfl) (hc : X.calm = true := by rfl)
    (hy : X.N[i]? = some y := by rfl) (hyl : X.env.scope.names.lookup y = some .local := by rfl) (hpi : P i = false := by rfl)
    (hs : ∀ x, foldedSetIterable iter X.env x = pure x := by intro _; rfl) (hs1 : ∀ env x, foldedSetIterable iter1 env x = pure x := by intro _ _; rfl)
    (hsw : swapsWith (.ListComp elt [⟨tg, iter, ifs, 0⟩, ⟨tg1, iter1, ifs1, 0⟩] scope pos) (some (.Name y py)) spos.line X.env = pure true := by exact sw_true rfl rfl rfl (by decide +kernel)) :
    AS X Γ P W (.Assign [.Name y py] (.ListComp elt [⟨tg, iter, ifs, 0⟩, ⟨tg1, iter1, ifs1, 0⟩] scope pos) spos) (tAsg (tLc2 wi g tt wi1 g1 tt1 te (own.map (·.2)) vs1) (gName i)) (sSet i (aLc2 src (own.map (·.2)) vs1 a p src1 a1 p1 ge)) :=
  ⟨ps_setLc2 hc hN hy hyl hsw hi.pi (blkOk_by ok) hv (fun s H C cl fp => (hg s H C cl fp).pg) (fun s H C cl fp => (ht s H C cl fp).pts) (fun s H C cl fp => (hi1 s H C cl fp).pi) (fun s H C cl fp => (hg1 s H C cl fp).pg) (fun s H C cl fp => (ht1 s H C cl fp).pts) (fun s H C cl fp => (he s H C cl fp).pe) hs hs1,
    ss_set hpi (sx_lc2 hv hi.sx (hg X.s_0 X.H_0 0 [] []).sg (ht X.s_0 X.H_0 0 [] []).sx (hi1 X.s_0 X.H_0 0 [] []).sx (hg1 X.s_0 X.H_0 0 [] []).sg (ht1 X.s_0 X.H_0 0 [] []).sx (he X.s_0 X.H_0 0 [] []).sx)⟩
end
end
/-! ### calls in a text -/
def toV : D → V
  | .bl b => .bl b
  | .int i => .int i
  | .str x => .str x
  | _ => .non
/-- a def that may be called by its name -/
structure Cl (Γ : Gb) (mg : Str → Option Value) (base : Heap) (k : Nat) (x : Str) (n : Nat) (dds : List D) (den : aF) : Prop where
  ex : ∃ (f : Addr) (fd : FuncData) (ps : List Str) (ds : List Value), FnOk Γ.prog Γ.w Γ.K mg base (L2.CX Γ.prog Γ.w) k f fd ps (spD Γ n den) ∧ mg x = some (.ref f) ∧ PySem.W.keepIn Γ.K (.ref f) = true ∧ Binds Γ.K fd ps ds ∧ Vals (dds.map toV) ds ∧ ∀ S, RepL Γ S (dds.map toV) dds
section
variable {X : Cx} {Γ : Gb} {P : Nat → Bool} {W : WX} {e : Expr} {es : List Expr} {ta : TA} {ods : List Od} {k n : Nat} {x : Str} {dds : List D} {den : aF} {p pos : Pos}
theorem ae_call (hp : X.prog = Γ.prog) (hw : X.w = Γ.w) (hK : X.K = Γ.K) (C : Cl Γ X.mg X.base k x n dds den) (hr : Room k X.A) (tk : Takes X W) (ha : AA X Γ P W (e :: es) ta ods) (hg : Gl X x := by rfl) (hdb : (x == ("__debug__" : Str)) = false := by decide)
    (he : starEach (e :: es) X.env = (false, eval e X.env) :: starEach es X.env := by rfl) (hpl : (backTo pos (starEach es X.env)).any (·.1) = false := by rfl) :
    AE X Γ P W (.Call (.Name x p) (e :: es) [] pos) (tCallSD (spD Γ n den) (dds.map toV) (WE W) ta) (aCall n ods dds den) := by
  obtain ⟨f, fd, ps, ds, F, hm, hk, hb, hd, hdd⟩ := C.ex
  rw [← hp, ← hw, ← hK] at F
  exact ⟨pe_callSD F hr hg hm (hK ▸ hk) (hK ▸ hb) hd (fun σ => passAt tk σ) ha.pa hdb he hpl, sx_call ha.sa hdd⟩
end
/-! ### the rule for a def -/
/-- a parameter that is set anew is shared from the entry on -/
def pre : List Bool → List O → List O
  | b :: pb, o :: os => (if b = true then o else .sh (fz o)) :: pre pb os
  | _, _ => []
def keepT : List Bool → List V → List O → List (V × O)
  | b :: pb, v :: vs, o :: os => if b = true then keepT pb vs os else (v, .sh (fz o)) :: keepT pb vs os
  | _, _, _ => []
def outs : List Bool → List O → Store → Option (List O)
  | true :: pb, _ :: os, some o :: ρ => (outs pb os ρ).map (o :: ·)
  | false :: pb, o :: os, _ :: ρ => (outs pb os ρ).map (.sh (fz o) :: ·)
  | [], [], _ => some []
  | _, _, _ => none
def aDef (pb : List Bool) (m : Nat) (body : aS) : aF := fun os => if os.length = pb.length then match body ((pre pb os).map some ++ List.replicate (m - pb.length) none) with
    | .ret o ρ => match outs pb os ρ with
      | some os' => .ret o os'
      | none => .stuck
    | .nx ρ => match outs pb os ρ with
      | some os' => .ret (.sh .non) os'
      | none => .stuck
    | .exc x ρ => match outs pb os ρ with
      | some os' => .exc x os'
      | none => .stuck
    | _ => .stuck
  else .stuck
def kp (pb : List Bool) : Nat → Bool := fun j => pb.getD j false
section
variable {Γ : Gb}
theorem enter_ok {e : Ent} {H : Hp} : ∀ {pb : List Bool} {vs : List V} {os : List O} {R : List (V × O)}, vs.length = pb.length → os.length = pb.length → RS Γ e (vs.zip os ++ R) H → RS Γ e (vs.zip (pre pb os) ++ (keepT pb vs os ++ R)) H
  | [], [], [], R, _, _, h => h
  | b :: pb, v :: vs, o :: os, R, h1, h2, h => by
    have ih := fun R => enter_ok (R := R) (e := e) (H := H) (pb := pb) (vs := vs) (os := os) (by simpa using h1) (by simpa using h2)
    cases b with
    | true =>
      have h' : RS Γ e (vs.zip os ++ ((v, o) :: R)) H := h.perm List.perm_middle.symm
      refine (ih _ h').perm ?_
      show (vs.zip (pre pb os) ++ (keepT pb vs os ++ (v, o) :: R)).Perm ((v, o) :: (vs.zip (pre pb os) ++ (keepT pb vs os ++ R)))
      exact (List.Perm.append_left _ List.perm_middle).trans List.perm_middle
    | false =>
      have h1 : RS Γ e ((v, o) :: (vs.zip os ++ R)) H := h
      have h2 := h1.freeze
      have h3 := h2.dup List.mem_cons_self
      have h' : RS Γ e (vs.zip os ++ ((v, .sh (fz o)) :: (v, .sh (fz o)) :: R)) H := h3.perm ((List.perm_middle.symm.cons _).trans List.perm_middle.symm)
      refine (ih _ h').perm ?_
      show (vs.zip (pre pb os) ++ (keepT pb vs os ++ (v, .sh (fz o)) :: (v, .sh (fz o)) :: R)).Perm ((v, .sh (fz o)) :: (vs.zip (pre pb os) ++ (((v, .sh (fz o)) :: keepT pb vs os) ++ R)))
      exact (List.Perm.append_left _ (List.perm_middle.trans (List.perm_middle.cons _))).trans List.perm_middle
theorem pre_len : ∀ {pb : List Bool} {os : List O}, os.length = pb.length → (pre pb os).length = pb.length
  | [], [], _ => rfl
  | b :: pb, o :: os, h => by
    show (pre pb os).length + 1 = pb.length + 1
    rw [pre_len (by simpa using h)]
theorem outs_len : ∀ {pb : List Bool} {os : List O} {ρ : Store} {os' : List O}, outs pb os ρ = some os' → os'.length = pb.length
  | true :: pb, _ :: os, some o :: ρ, os', e => by
    simp only [outs, Option.map_eq_some_iff] at e
    obtain ⟨q, e, rfl⟩ := e
    simp [outs_len e]
  | false :: pb, o :: os, _ :: ρ, os', e => by
    simp only [outs, Option.map_eq_some_iff] at e
    obtain ⟨q, e, rfl⟩ := e
    simp [outs_len e]
  | [], [], _, os', e => by cases e; rfl
  | [], _ :: _, _, _, e => by cases e
  | true :: _, [], _, _, e => by cases e
  | false :: _, [], _, _, e => by cases e
  | true :: _, _ :: _, [], _, e => by cases e
  | false :: _, _ :: _, [], _, e => by cases e
  | true :: _, _ :: _, none :: _, _, e => by cases e
theorem leave_ok : ∀ {pb : List Bool} {vs : List V} {os os' : List O} {σ : L2.St} {ρ : Store}, SlotsOk σ ρ → vs.length = pb.length → (∀ j : Nat, pb[j]? = some true → σ[j]? = (vs[j]?).map some) → outs pb os ρ = some os' →
    ∃ Y, (slotsR σ ρ ++ keepT pb vs os).Perm (Y ++ vs.zip os')
  | [], [], os, os', σ, ρ, _, _, _, e => ⟨slotsR σ ρ ++ keepT [] [] os, by
      cases os with
      | nil => cases e; simp
      | cons _ _ => cases e⟩
  | true :: pb, v :: vs, _ :: os, os', _, some o :: ρ, .keep (v := w) h, hl, hs, e => by
    simp only [outs, Option.map_eq_some_iff] at e
    obtain ⟨q, e, rfl⟩ := e
    have e0 := hs 0 rfl
    obtain rfl : w = v := by simpa using e0
    obtain ⟨Y, p⟩ := leave_ok (pb := pb) (vs := vs) h (by simpa using hl) (fun j hj => by simpa using hs (j + 1) (by simpa using hj)) e
    refine ⟨Y, ?_⟩
    show ((w, o) :: (_ ++ keepT pb vs os)).Perm (Y ++ (w, o) :: vs.zip q)
    exact (p.cons _).trans List.perm_middle.symm
  | false :: pb, v :: vs, o :: os, os', _, x :: ρ, hk, hl, hs, e => by
    simp only [outs, Option.map_eq_some_iff] at e
    obtain ⟨q, e, rfl⟩ := e
    cases hk with
    | @skip y σ _ h =>
      obtain ⟨Y, p⟩ := leave_ok (pb := pb) (vs := vs) h (by simpa using hl) (fun j hj => by simpa using hs (j + 1) (by simpa using hj)) e
      refine ⟨Y, ?_⟩
      rw [slotsR_skip]
      show (_ ++ ((v, .sh (fz o)) :: keepT pb vs os)).Perm (Y ++ (v, .sh (fz o)) :: vs.zip q)
      exact (List.perm_middle.trans (p.cons _)).trans List.perm_middle.symm
    | @keep w u σ _ h =>
      obtain ⟨Y, p⟩ := leave_ok (pb := pb) (vs := vs) h (by simpa using hl) (fun j hj => by simpa using hs (j + 1) (by simpa using hj)) e
      refine ⟨(w, u) :: Y, ?_⟩
      show ((w, u) :: (_ ++ ((v, .sh (fz o)) :: keepT pb vs os))).Perm ((w, u) :: (Y ++ (v, .sh (fz o)) :: vs.zip q))
      exact ((List.perm_middle.trans (p.cons _)).trans List.perm_middle.symm).cons _
  | true :: pb, v :: vs, [], _, _, _, _, _, _, e => by cases e
  | false :: pb, v :: vs, [], _, _, _, _, _, _, e => by cases e
  | [], _ :: _, _, _, _, _, _, hl, _, _ => by simp at hl
  | _ :: _, [], _, _, _, _, _, hl, _, _ => by simp at hl
  | true :: _, _ :: _, _ :: _, _, _, [], _, _, _, e => by cases e
  | false :: _, _ :: _, _ :: _, _, _, [], _, _, _, e => by cases e
  | true :: _, _ :: _, _ :: _, _, _, none :: _, _, _, _, e => by cases e
theorem start_slots : ∀ {vs : List V} {os : List O} {m : Nat}, vs.length = os.length → SlotsOk (vs.map some ++ List.replicate m none) (os.map some ++ List.replicate m none) ∧ slotsR (vs.map some ++ List.replicate m none) (os.map some ++ List.replicate m none) = vs.zip os
  | [], [], 0, _ => ⟨.nil, rfl⟩
  | [], [], m + 1, _ => by
    obtain ⟨a, b⟩ := start_slots (vs := []) (os := []) (m := m) rfl
    refine ⟨.skip a, ?_⟩
    exact b
  | v :: vs, o :: os, m, h => by
    obtain ⟨a, b⟩ := start_slots (vs := vs) (os := os) (m := m) (by simpa using h)
    refine ⟨.keep a, ?_⟩
    exact congrArg ((v, o) :: ·) b
variable {mg : Str → Option Value} {base : Heap}
theorem fn_def {x qual : Str} {st : Stmt} {f : Addr} {fd : FuncData} {N ps : List Str} {k : Nat} {pb : List Bool} {m : Nat} {body : aS} (F : Fun Γ.K x qual st f fd) (S : FnScope N ps (defScope st)) (hl : ps.length = pb.length) (hm : N.length = m)
    (hb : ∀ (cdv : Value) (A : Around) (outer : List Env) (s : Shared) (H : Hp) (E : XK), Room k (A.deeper (envOfC qual (defScope st) s.heap.objs.size f cdv)) →
      Takes (cxOf (L2.CX Γ.prog Γ.w) Γ.prog Γ.w Γ.K mg base N qual (defScope st) f cdv A outer s H E) (fun cls d _ H => E cls d H) →
      PassesOwn (model Γ.prog Γ.w) (cxOf (L2.CX Γ.prog Γ.w) Γ.prog Γ.w Γ.K mg base N qual (defScope st) f cdv A outer s H E).A (cxOf (L2.CX Γ.prog Γ.w) Γ.prog Γ.w Γ.K mg base N qual (defScope st) f cdv A outer s H E).env (cxOf (L2.CX Γ.prog Γ.w) Γ.prog Γ.w Γ.K mg base N qual (defScope st) f cdv A outer s H E).xe →
      ∃ t, AL (cxOf (L2.CX Γ.prog Γ.w) Γ.prog Γ.w Γ.K mg base N qual (defScope st) f cdv A outer s H E) Γ (kp pb) (fun cls d _ H => E cls d H) (defBody st) t body) :
    FnOk Γ.prog Γ.w Γ.K mg base (L2.CX Γ.prog Γ.w) (k + 1) f fd ps (spD Γ pb.length (aDef pb m body)) := by
  refine F.okX S (fun vs H Q E h => by rw [h.1, hl]) fun cdv A outer s H vs Q E hr h => ?_
  obtain ⟨t, at_⟩ := hb cdv A outer s H E hr (takes_of rfl rfl rfl rfl) (passes_of rfl)
  refine ⟨t, at_.pss, ?_⟩
  obtain ⟨hv, e, os, ho, r, k1⟩ := h
  have ent := enter_ok (R := []) hv ho (by rw [List.append_nil]; exact r)
  rw [List.append_nil] at ent
  obtain ⟨sl, sr⟩ := start_slots (vs := vs) (os := pre pb os) (m := m - pb.length) (by rw [pre_len ho, hv])
  have st0 : L2.start N vs = vs.map some ++ List.replicate (m - pb.length) none := by
    unfold L2.start
    rw [hm, hv]
  have s0 : SR Γ (kp pb) ⟨e, L2.start N vs⟩ (L2.start N vs) ((pre pb os).map some ++ List.replicate (m - pb.length) none) (keepT pb vs os) H := by
    rw [st0]
    exact ⟨sl, fun j _ => rfl, by rw [sr]; exact ent⟩
  have back : ∀ (X : List (V × O)) (σ : L2.St) (ρ : Store) (H' : Hp) (os' : List O), SR Γ (kp pb) ⟨e, L2.start N vs⟩ σ ρ (X ++ keepT pb vs os) H' → outs pb os ρ = some os' → RS Γ e (X ++ vs.zip os') H' := by
    intro X σ ρ H' os' q eo
    obtain ⟨Y, p⟩ := leave_ok q.ok hv (fun j hj => by
      have hj' : kp pb j = true := by
        show pb.getD j false = true
        rw [List.getD_eq_getElem?_getD, hj]
        rfl
      rw [q.fix j hj']
      show (L2.start N vs)[j]? = _
      rw [st0]
      have hlt : j < vs.length := by
        rw [hv]
        exact (List.getElem?_eq_some_iff.mp hj).1
      rw [List.getElem?_append_left (by rw [List.length_map]; exact hlt), List.getElem?_map]) eo
    have q1 : RS Γ e (Y ++ (X ++ vs.zip os')) H' := q.rs.perm (by
      refine (List.perm_append_comm_assoc _ _ _).trans ?_
      refine (List.Perm.append_left _ p).trans ?_
      exact List.perm_append_comm_assoc _ _ _)
    exact q1.dropL
  refine at_.sx ⟨e, L2.start N vs⟩ (L2.start N vs) _ (keepT pb vs os) H _ s0 ?_
  unfold aDef at k1
  rw [if_pos ho] at k1
  cases eb : body ((pre pb os).map some ++ List.replicate (m - pb.length) none) with
  | nx ρ =>
    rw [eb] at k1
    simp only at k1
    cases eo : outs pb os ρ with
    | none => rw [eo] at k1; exact k1.elim
    | some os' =>
      rw [eo] at k1
      exact fun σ H' q => k1.2 _ _ ((back [] σ ρ H' os' q eo).pure fun _ => .non)
  | brk ρ => rw [eb] at k1; exact k1.elim
  | ct ρ => rw [eb] at k1; exact k1.elim
  | ret o ρ =>
    rw [eb] at k1
    simp only at k1
    cases eo : outs pb os ρ with
    | none => rw [eo] at k1; exact k1.elim
    | some os' =>
      rw [eo] at k1
      exact fun σ v H' q => k1.2 _ _ (back [(v, o)] σ ρ H' os' q eo)
  | exc x ρ =>
    rw [eb] at k1
    simp only at k1
    cases eo : outs pb os ρ with
    | none => rw [eo] at k1; exact k1.elim
    | some os' =>
      rw [eo] at k1
      refine fun σ cls d H' q => k1.2 cls d H' ?_
      obtain ⟨ec, q⟩ := q
      refine ⟨ec, ?_⟩
      obtain ⟨xc, xfs⟩ := x
      cases xfs with
      | none => exact ⟨q.1, back [] σ ρ H' os' q.2 eo⟩
      | some fs =>
        obtain ⟨dd, e1, q⟩ := q
        exact ⟨dd, e1, back [(.ref dd, .sh (.xd fs))] σ ρ H' os' q eo⟩
  | stuck => rw [eb] at k1; exact k1.elim
end
end Den
end
section
/-! Den, part O: methods that change a thing in its place; o[i] = v; dicts written. -/
namespace Den
open PySem L2 PySem.Spec PyProof.Rows
/-! ### in an opened object, a shared thing in the place of some -/
def repl (y : V) (d : D) (sel : List Bool) (rs : List (V × O)) : List (V × O) := List.zipWith (fun (b : Bool) (r : V × O) => if b = true then (y, O.sh d) else r) sel rs
section
variable {Γ : Gb} {c : Ent} {R : List (V × O)} {H S : Hp} {y : V} {d : D}
theorem ORL.repl (hy : Rep Γ S y d) : ∀ {sel : List Bool} {rs : List (V × O)} {F : List Addr}, ORL Γ S H rs F → ∃ F', ORL Γ S H (Den.repl y d sel rs) F' ∧ F'.Sublist F
  | [], rs, F, h => ⟨[], by simp only [Den.repl, List.zipWith_nil_left]; exact .nil, List.nil_sublist _⟩
  | b :: sel, [], F, h => ⟨[], by simp only [Den.repl, List.zipWith_nil_right]; exact .nil, List.nil_sublist _⟩
  | b :: sel, (v, o) :: rs, F, h => by
    cases h with
    | cons r t =>
      rename_i F1 F2
      obtain ⟨F', a, s⟩ := ORL.repl hy (sel := sel) t
      cases b with
      | true => exact ⟨F', .cons (F := []) (.sh hy) a, s.trans (List.sublist_append_right _ _)⟩
      | false => exact ⟨F1 ++ F', .cons r a, List.Sublist.append (List.Sublist.refl _) s⟩
theorem RSL.repl {a : Addr} {rs : List (V × O)} {sel : List Bool} (h : RSL Γ c (rs ++ R) [a] H) (m : (y, O.sh d) ∈ R) : RSL Γ c (Den.repl y d sel rs ++ R) [a] H := by
  obtain ⟨S, F, st, q, nd, dj, sb, lc⟩ := h
  obtain ⟨F1, F2, rfl, r1, r2⟩ := q.split
  obtain ⟨G, x, _⟩ := r2.mem m
  have hy : Rep Γ S y d := by
    cases x with
    | sh r => exact r
  obtain ⟨F', a', s⟩ := r1.repl hy (sel := sel)
  have sl : ((F' ++ F2) ++ [a]).Sublist ((F1 ++ F2) ++ [a]) := (s.append (List.Sublist.refl _)).append (List.Sublist.refl _)
  exact ⟨S, F' ++ F2, st.mem fun b mb => sl.subset mb, a'.append r2, nd.sublist sl, fun b mb => dj b (sl.subset mb), sb, lc⟩
theorem repl_set {rs : List (V × O)} {n : Nat} (h : n < rs.length) : ∃ sel, Den.repl y d sel rs = rs.set n (y, .sh d) := by
  refine ⟨(List.replicate rs.length false).set n true, ?_⟩
  apply List.ext_getElem?
  intro j
  unfold Den.repl
  rw [List.getElem?_zipWith, List.getElem?_set, List.getElem?_set]
  by_cases hj : n = j
  · subst hj
    simp [h]
  · simp only [hj, if_false]
    rw [List.getElem?_replicate]
    by_cases hl : j < rs.length
    · simp [hl]
    · simp [hl]
end
/-! ### dicts as tables -/
def putD (kvs : List (D × O)) (k : Key) (o : O) : List (D × O) := if (kvs.any fun p => keyEq p.1 k) = true then kvs.map (fun p => if keyEq p.1 k = true then (p.1, o) else p) else kvs ++ [(kD k, o)]
section
variable {Γ : Gb} {c : Ent} {R : List (V × O)} {H S : Hp} {y : V} {d : D}
theorem any_keys {k : Key} : ∀ {dkvs : List (D × O)} {kvs : List (Key × V)}, dkvs.map Prod.fst = kvs.map (fun p => kD p.1) → (dkvs.any fun p => keyEq p.1 k) = (kvs.any fun kv => decide (kv.1 = k))
  | [], [], _ => rfl
  | [], _ :: _, e => by cases e
  | _ :: _, [], e => by cases e
  | (d1, o1) :: dkvs, (k1, v1) :: kvs, e => by
    simp only [List.map_cons, List.cons.injEq] at e
    obtain ⟨rfl, e⟩ := e
    rw [List.any_cons, List.any_cons, any_keys e, keyEq_kD]
theorem map_keys {k : Key} : ∀ {dkvs : List (D × O)} {kvs : List (Key × V)} {rs : List (V × O)}, dkvs.map Prod.fst = kvs.map (fun p => kD p.1) → kvs.map Prod.snd = rs.map Prod.fst → dkvs.map Prod.snd = rs.map Prod.snd →
    ∃ sel, (dkvs.map fun p => if keyEq p.1 k = true then (p.1, O.sh d) else p).map Prod.fst = (kvs.map fun kv => if kv.1 = k then (kv.1, y) else kv).map (fun p => kD p.1) ∧
      (kvs.map fun kv => if kv.1 = k then (kv.1, y) else kv).map Prod.snd = (Den.repl y d sel rs).map Prod.fst ∧ (dkvs.map fun p => if keyEq p.1 k = true then (p.1, O.sh d) else p).map Prod.snd = (Den.repl y d sel rs).map Prod.snd
  | [], [], [], _, _, _ => ⟨[], rfl, rfl, rfl⟩
  | [], _ :: _, _, e, _, _ => by cases e
  | _ :: _, [], _, e, _, _ => by cases e
  | [], [], _ :: _, _, e, _ => by cases e
  | _ :: _, _ :: _, [], _, e, _ => by cases e
  | (d1, o1) :: dkvs, (k1, v1) :: kvs, (v2, o2) :: rs, e1, e2, e3 => by
    simp only [List.map_cons, List.cons.injEq] at e1 e2 e3
    obtain ⟨rfl, e1⟩ := e1
    obtain ⟨rfl, e2⟩ := e2
    obtain ⟨rfl, e3⟩ := e3
    obtain ⟨sel, a, b, c⟩ := map_keys (k := k) e1 e2 e3
    refine ⟨decide (k1 = k) :: sel, ?_, ?_, ?_⟩
    · simp only [List.map_cons, keyEq_kD]
      by_cases hk : k1 = k
      · simp [hk]
        simpa using a
      · simp [hk]
        simpa using a
    · simp only [List.map_cons, Den.repl, List.zipWith_cons_cons]
      by_cases hk : k1 = k
      · simp [hk]
        simpa [Den.repl] using b
      · simp [hk]
        simpa [Den.repl] using b
    · simp only [List.map_cons, Den.repl, List.zipWith_cons_cons, keyEq_kD]
      by_cases hk : k1 = k
      · simp [hk]
        simpa [Den.repl] using c
      · simp [hk]
        simpa [Den.repl] using c
theorem RS.putD {x : V} {kvs : List (D × O)} {k : Key} (h : RS Γ c ((x, .dic kvs) :: R) H) (m : (y, O.sh d) ∈ R) : ∃ a ks, x = .ref a ∧ H a = some (.dK ks) ∧ ks.length = kvs.length ∧ RS Γ c ((x, .dic (putD kvs k (.sh d))) :: R) (upd H a (.dK (putK ks k y))) := by
  obtain ⟨a, rs, ks, rfl, ha, e1, e2, e3, op⟩ := h.openD
  refine ⟨a, ks, rfl, ha, by have := congrArg List.length e1; simpa using this.symm, ?_⟩
  have ea := any_keys (k := k) e1
  unfold Den.putD putK
  cases hb : (ks.any fun kv => decide (kv.1 = k)) with
  | true =>
    rw [ea, hb, if_pos rfl, if_pos rfl]
    obtain ⟨sel, p1, p2, p3⟩ := map_keys (y := y) (d := d) (k := k) e1 e2 e3
    exact ((op.repl (sel := sel) m).put (u := .dK _) noT_dK).closeD upd_same p1 p2 p3
  | false =>
    rw [ea, hb, if_neg (by simp), if_neg (by simp)]
    have h2 : RS Γ c ((y, .sh d) :: ((.ref a, .dic kvs) :: R)) H := h.dup (by simp [m])
    obtain ⟨a', rs', ks', ee, ha', e1', e2', e3', op'⟩ := (h2.perm (List.Perm.swap _ _ _)).openD
    cases ee
    rw [ha] at ha'
    cases ha'
    have op3 : RSL Γ c ((rs' ++ [(y, .sh d)]) ++ R) [a] H := op'.perm (by rw [List.append_assoc]; exact .refl _)
    refine (op3.put (u := .dK (ks ++ [(k, y)])) noT_dK).closeD upd_same ?_ ?_ ?_
    · rw [List.map_append, List.map_append, e1']; rfl
    · rw [List.map_append, List.map_append, e2']; rfl
    · rw [List.map_append, List.map_append, e3']; rfl
end
/-! ### methods upon a name's own thing -/
def MOk (Γ : Gb) (r : V → List V → Hp → VK → Prop) (f : O → List O → Option (O × O)) : Prop := ∀ c R H x ox (ps : List (V × O)) o' w Q, RS Γ c ((x, ox) :: R) H → (∀ p ∈ ps, p ∈ R) → f ox (ps.map Prod.snd) = some (o', w) →
  (∀ v H', RS Γ c ((v, w) :: (x, o') :: R) H' → Q v H') → r x (ps.map Prod.fst) H Q
def kindO : O → String
  | .lst _ => "list"
  | .sh (.lst _) => "list"
  | .sh (.wls _) => "list"
  | .dic _ => "dict"
  | .sh (.dic _) => "dict"
  | .sh (.str _) => "str"
  | .sh (.int _) => "int"
  | _ => ""
def aMeth (T : String) (i : Nat) (ods : List Od) (f : O → List O → Option (O × O)) : aE := fun ρ => match ρ[i]? with
  | some (some o0) => if kindO o0 = T then (evA ods ρ).bind fun rs ρ1 => match ρ1[i]? with
      | some (some ox) => match rsv (ρ1.set i none) rs with
        | some os => match f ox os with
          | some (o', w) => .ok w (ρ1.set i (some o'))
          | none => .stuck
        | none => .stuck
      | _ => .stuck
    else .stuck
  | _ => .stuck
section
variable {Γ : Gb} {P : Nat → Bool} {W : WX} {ta : TA} {ods : List Od} {i : Nat} {T : String} {r : V → List V → Hp → VK → Prop} {f : O → List O → Option (O × O)}
theorem kind_ok {c : Ent} {R : List (V × O)} {H : Hp} {x : V} {ox : O} (h : RS Γ c R H) (m : (x, ox) ∈ R) (e : kindO ox = T) (hT : T ≠ "") : tyV Γ.K T x H := by
  obtain ⟨S, sb, rd, _⟩ := h.readS
  obtain ⟨F, q⟩ := rd _ m
  have up : ∀ a o, S a = some o → H a = some o := fun a o e => (sb a o e).1
  cases q with
  | sh q =>
    cases q with
    | lst hs hl => exact .inl ⟨e.symm, _, .of (up _ _ hs)⟩
    | wls hs hl => exact .inl ⟨e.symm, _, sqL_mono up hs⟩
    | dic hs e1 hl => exact .inr (.inr (.inl ⟨e.symm, .inl ⟨_, up _ _ hs⟩⟩))
    | str z => exact e.symm
    | int z => exact e.symm
    | non => exact (hT e.symm).elim
    | bl _ => exact (hT e.symm).elim
    | tup _ _ => exact (hT e.symm).elim
    | obj _ _ _ => exact (hT e.symm).elim
    | xd _ _ _ => exact (hT e.symm).elim
  | lst ha hl e' => exact .inl ⟨e.symm, _, .of ha⟩
  | dic ha e1 e2 e3 hl => exact .inr (.inr (.inl ⟨e.symm, .inl ⟨_, ha⟩⟩))
  | tup ha hl e' => exact (hT e.symm).elim
  | obj ha e1 e2 e3 hl => exact (hT e.symm).elim
theorem sx_meth (hT : T ≠ "") (ha : Sa Γ P W ta ods) (ok : MOk Γ r f) : Sx Γ P W (tBM Γ.K T r (tVar i) ta) (aMeth T i ods f) := fun fr σ ρ Tt H Q s k => by
  unfold aMeth at k
  split at k
  · rename_i o0 e0
    split at k
    · rename_i hk
      obtain ⟨v, hv, _⟩ := s.take e0
      refine ⟨v, hv, kind_ok s.rs (List.mem_append_left _ (slots_mem s.ok e0 hv)) hk hT, ?_⟩
      refine ha fr σ ρ Tt H _ s ((Good.bind k).imp fun rs ρ1 k vs T' H1 m s1 => ?_)
      split at k
      · rename_i ox ex
        obtain ⟨v', hv', s2⟩ := s1.take ex
        rw [hv] at hv'
        cases hv'
        split at k
        · rename_i os eo
          split at k
          · rename_i o' w ef
            obtain ⟨ps, rfl, rfl, mem⟩ := rsv_ok m s2.drop eo
            refine ok fr.c _ H1 v ox ps o' w Q (s2.rs.perm List.perm_middle) mem ef fun u H2 q => k u H2 ?_
            have s3 : SR Γ P fr σ (ρ1.set i none) ((u, w) :: (v, o') :: (T' ++ Tt)) H2 := ⟨s2.ok, s2.fix, q.perm (by
              refine (List.perm_middle.symm.cons _).trans List.perm_middle.symm)⟩
            have s4 := (s3.permT (List.Perm.swap _ _ _)).back hv
            rw [List.set_set] at s4
            exact (s4.permT (T' := T' ++ (u, w) :: Tt) List.perm_middle.symm).dropL
          · exact k.elim
        · exact k.elim
      · exact k.elim
    · exact k.elim
  · exact k.elim
theorem sx_meth0 (hT : T ≠ "") (ok : MOk Γ r f) : Sx Γ P W (tBM0 Γ.K T r (tVar i)) (aMeth T i [] f) := fun fr σ ρ Tt H Q s k => by
  have := sx_meth (i := i) (P := P) (W := W) hT sa_nil ok fr σ ρ Tt H Q s k
  exact this
end
/-! the methods -/
def fAppend : O → List O → Option (O × O)
  | .lst os, [.sh d] => if os.length < 16000000 then some (.lst (os ++ [.sh d]), .sh .non) else none
  | _, _ => none
def fPop : O → List O → Option (O × O)
  | .lst os, [] => match os[os.length - 1]? with
    | some o => some (.lst os.dropLast, o)
    | none => none
  | _, _ => none
def fPopAt : O → List O → Option (O × O)
  | .lst os, [.sh (.int i)] => if -(2 ^ 63) ≤ i ∧ i < 2 ^ 63 then match seqIndex? i os.length with
      | some k => match os[k]? with
        | some o => some (.lst (os.eraseIdx k), o)
        | none => none
      | none => none
    else none
  | _, _ => none
def fExtend : O → List O → Option (O × O)
  | .lst os, [o] => match lstD o with
    | some ds => if os.length + ds.length ≤ 16000000 then some (.lst (os ++ ds.map O.sh), .sh .non) else none
    | none => none
  | _, _ => none
section
variable {Γ : Gb} {c : Ent} {R : List (V × O)} {H : Hp} {x : V}
theorem RS.openL' {os : List O} (h : RS Γ c ((x, .lst os) :: R) H) : ∃ a rs, x = .ref a ∧ os = rs.map Prod.snd ∧ H a = some (.lst (rs.map Prod.fst)) ∧ ∀ rs' R', (rs ++ R).Perm (rs' ++ R') → RS Γ c ((x, .lst (rs'.map Prod.snd)) :: R') (upd H a (.lst (rs'.map Prod.fst))) := by
  obtain ⟨a, rs, rfl, e, ha, op⟩ := h.openL
  exact ⟨a, rs, rfl, e, ha, fun rs' R' p => ((op.perm p).put noT_lst).closeL upd_same⟩
theorem m_append : MOk Γ rAppend fAppend := by
  intro c R H x ox ps o' w Q h mem e k
  unfold fAppend at e
  split at e
  · rename_i os d eps
    split at e
    · cases e
      rename_i hl
      match ps, eps with
      | [(y, o)], eps =>
        obtain rfl : o = .sh d := by simpa using eps
        have m : (y, O.sh d) ∈ R := mem _ (by simp)
        have h2 : RS Γ c ((x, .lst os) :: (y, .sh d) :: R) H := (h.dup (List.mem_cons_of_mem _ m)).perm (List.Perm.swap _ _ _)
        obtain ⟨a, rs, rfl, rfl, ha, q⟩ := h2.openL'
        refine ⟨a, _, y, rfl, rfl, ha, lt_line (by simpa using hl), k _ _ ?_⟩
        have z := q (rs ++ [(y, .sh d)]) R (by rw [List.append_assoc]; exact .refl _)
        rw [List.map_append, List.map_append] at z
        exact z.pure fun _ => .non
    · cases e
  · cases e
theorem map_dropLast' {α β : Type} (f : α → β) (l : List α) : (l.dropLast).map f = (l.map f).dropLast := by
  rw [List.map_dropLast]
theorem m_pop : MOk Γ rPop fPop := by
  intro c R H x ox ps o' w Q h mem e k
  unfold fPop at e
  split at e
  · rename_i os eps
    split at e
    · cases e
      rename_i ho
      obtain rfl : ps = [] := by simpa using eps
      obtain ⟨a, rs, rfl, rfl, ha, q⟩ := h.openL'
      rw [List.length_map, List.getElem?_map, Option.map_eq_some_iff] at ho
      obtain ⟨⟨y, u⟩, hp, hu⟩ := ho
      obtain rfl : u = w := hu
      refine ⟨a, _, y, rfl, rfl, ha, by rw [List.length_map, List.getElem?_map, hp]; rfl, k _ _ ?_⟩
      have hne : rs ≠ [] := fun z => by rw [z] at hp; simp at hp
      have hlast : rs.getLast hne = (y, u) := by
        rw [List.getLast_eq_getElem]
        have := List.getElem?_eq_some_iff.mp hp
        exact this.2
      have sp : rs.dropLast ++ [(y, u)] = rs := by
        rw [← hlast]
        exact List.dropLast_concat_getLast hne
      have z := q rs.dropLast ((y, u) :: R) (by
        conv => lhs; rw [← sp]
        rw [List.append_assoc]
        exact .refl _)
      rw [map_dropLast', map_dropLast'] at z
      exact z.perm (List.Perm.swap _ _ _)
    · cases e
  · cases e
theorem perm_erase {α : Type} : ∀ {l : List α} {k : Nat} {x : α}, l[k]? = some x → l.Perm (x :: l.eraseIdx k)
  | [], k, x, h => by simp at h
  | y :: l, 0, x, h => by simp at h; subst h; exact .refl _
  | y :: l, k + 1, x, h => by
    have ih := perm_erase (l := l) (k := k) (x := x) (by simpa using h)
    exact (ih.cons y).trans (List.Perm.swap _ _ _)
theorem map_erase {α β : Type} (f : α → β) : ∀ (l : List α) (n : Nat), (l.eraseIdx n).map f = (l.map f).eraseIdx n
  | [], _ => by simp
  | _ :: _, 0 => rfl
  | a :: l, n + 1 => by
    rw [List.eraseIdx_cons_succ, List.map_cons, List.map_cons, List.eraseIdx_cons_succ, map_erase f l n]
theorem m_popAt : MOk Γ rPopAt fPopAt := by
  intro c R H x ox ps o' w Q h mem e k
  unfold fPopAt at e
  split at e
  · rename_i os i eps
    split at e
    · rename_i hi
      split at e
      · rename_i n hn
        split at e
        · cases e
          rename_i ho
          match ps, eps with
          | [(y, u)], eps =>
            obtain rfl : u = .sh (.int i) := by simpa using eps
            have ey : y = .int i := h.int (List.mem_cons_of_mem _ (mem _ (by simp)))
            subst ey
            obtain ⟨a, rs, rfl, rfl, ha, q⟩ := h.openL'
            rw [List.getElem?_map, Option.map_eq_some_iff] at ho
            obtain ⟨⟨v, u⟩, hp, hu⟩ := ho
            obtain rfl : u = w := hu
            refine ⟨a, _, i, n, v, rfl, rfl, ha, hi.1, hi.2, by rw [List.length_map] at hn ⊢; exact hn, by rw [List.getElem?_map, hp]; rfl, k _ _ ?_⟩
            have z := q (rs.eraseIdx n) ((v, u) :: R) (((perm_erase hp).append_right R).trans List.perm_middle.symm)
            rw [map_erase, map_erase] at z
            exact z.perm (List.Perm.swap _ _ _)
        · cases e
      · cases e
    · cases e
  · cases e
theorem m_extend : MOk Γ rExtend fExtend := by
  intro c R H x ox ps o' w Q h mem e k
  unfold fExtend at e
  split at e
  · rename_i os o eps
    split at e
    · rename_i ds ed
      split at e
      · cases e
        rename_i hl
        match ps, eps with
        | [(y, u)], eps =>
          obtain rfl : u = o := by simpa using eps
          obtain ⟨b, zs, rfl, hb, had⟩ := h.lst (List.mem_cons_of_mem _ (mem (y, u) (by simp))) ed
          obtain ⟨S, sb, r, _, ad⟩ := had.ex
          have h2 : RS Γ c ((x, .lst os) :: (zs.zip (ds.map O.sh) ++ R)) H := (ad zs ds r).perm List.perm_middle
          obtain ⟨a, rs, rfl, rfl, ha, q⟩ := h2.openL'
          refine ⟨a, b, _, zs, rfl, rfl, ha, hb, le_line (by rw [List.length_map] at hl ⊢; rw [had.len]; exact hl), k _ _ ?_⟩
          have z := q (rs ++ zs.zip (ds.map O.sh)) R (by rw [List.append_assoc])
          rw [List.map_append, List.map_append, zip_fst had.len, zip_snd had.len] at z
          exact z.pure fun _ => .non
      · cases e
    · cases e
  · cases e
end
section
variable {X : Cx} {Γ : Gb} {P : Nat → Bool} {W : WX} {e : Expr} {es : List Expr} {ta : TA} {ods : List Od} {T id : String} {name x : Str} {r : V → List V → Hp → VK → Prop} {f : O → List O → Option (O × O)} {pn apos cpos : Pos}
theorem ae_meth (i : Nat) (hK : X.K = Γ.K) (ok : MOk Γ r f) (hm : MtR X id r) (pa : PlainAttrs T) (slot : Slot T name id) (hty : typeOf (.builtin id) = pure (.type "method_descriptor")) (ha : AA X Γ P W (e :: es) ta ods) (hT : T ≠ "" := by decide)
    (hN : X.N[i]? = some x := by rfl) (hv : Vis X.env.scope x := by first | exact Or.inl rfl | exact Or.inr (Or.inl rfl) | exact Or.inr (Or.inr rfl)) (hd : (x == ("__debug__" : Str)) = false := by decide)
    (hcd : (x == ("__classdict__" : Str)) = false := by decide) (hbase : attributeBase (.Name x pn) name X.env (eval (.Name x pn) X.env) = eval (.Name x pn) X.env := by rfl)
    (hfew : ((backTo cpos (starEach (e :: es) X.env)).all (fun x => !x.1) && (backToKw cpos (keywordEach [] X.env)).all (fun x => x.1.isSome)
      && decide ((e :: es).length + ([] : List Keyword).length + (if ([] : List Keyword).isEmpty then 0 else 1) < 30)) = true := by rfl)
    (hline : (apos.endLine == cpos.line) = true := by rfl) (hs : starEach (e :: es) X.env = (false, eval e X.env) :: starEach es X.env := by rfl) (hplain : (backTo cpos (starEach es X.env)).any (·.1) = false := by rfl) :
    AE X Γ P W (.Call (.Attribute (.Name x pn) name apos) (e :: es) [] cpos) (tBM Γ.K T r (tVar i) ta) (aMeth T i ods f) :=
  ⟨hK ▸ pe_bm pa slot hty hm (pe_var hN hv hd hcd) ha.pa hbase hfew hline hs hplain, sx_meth hT ha.sa ok⟩
theorem ae_meth0 (i : Nat) (hK : X.K = Γ.K) (ok : MOk Γ r f) (hm : MtR X id r) (pa : PlainAttrs T) (slot : Slot T name id) (hty : typeOf (.builtin id) = pure (.type "method_descriptor")) (hT : T ≠ "" := by decide)
    (hN : X.N[i]? = some x := by rfl) (hv : Vis X.env.scope x := by first | exact Or.inl rfl | exact Or.inr (Or.inl rfl) | exact Or.inr (Or.inr rfl)) (hd : (x == ("__debug__" : Str)) = false := by decide)
    (hcd : (x == ("__classdict__" : Str)) = false := by decide) (hbase : attributeBase (.Name x pn) name X.env (eval (.Name x pn) X.env) = eval (.Name x pn) X.env := by rfl)
    (hline : (apos.endLine == cpos.line) = true := by rfl) : AE X Γ P W (.Call (.Attribute (.Name x pn) name apos) [] [] cpos) (tBM0 Γ.K T r (tVar i)) (aMeth T i [] f) :=
  ⟨hK ▸ pe_bm0 pa slot hty hm (pe_var hN hv hd hcd) hbase hline, sx_meth0 hT ok⟩
end
end Den
end
section
/-! Den, part P: o[i] = v, dict displays, isinstance. -/
namespace Den
open PySem L2 PySem.Spec PyProof.Rows
def setO (x y : O) (d : D) : Option O := match x, y with
  | .lst os, .sh (.int j) => match ixN os.length j with
    | some n => if n < os.length then some (.lst (os.set n (.sh d))) else none
    | none => none
  | .dic kvs, .sh k => match keyD k with
    | some k => if kvs.length < 16000000 then some (.dic (putD kvs k (.sh d))) else none
    | none => none
  | _, _ => none
def rSetG : TSet := fun o i v H Q => rSetL o i v H Q ∨ rSetD o i v H Q
theorem or_set {X : Cx} (hu : X.A.units + 1 < cLine) : PSet X rSetG := fun pins s σ H o i v ov iv u Q I r1 r2 r3 h => h.elim (fun q => set_list pins s σ H o i v ov iv u Q I r1 r2 r3 q) fun q => set_dict hu pins s σ H o i v ov iv u Q I r1 r2 r3 q
def sSub (i : Nat) (g gi : aE) : aS := fun ρ => (g ρ).out fun o ρ1 => match ρ1[i]? with
  | some (some _) => (gi ρ1).out fun k ρ2 => match ρ2[i]? with
    | some (some x) => match setO x k (fz o) with
      | some o' => .nx (ρ2.set i (some o'))
      | none => .stuck
    | _ => .stuck
  | _ => .stuck
section
variable {Γ : Gb} {P : Nat → Bool} {W : WX}
theorem ok_set {c : Ent} {R : List (V × O)} {H : Hp} {x z y : V} {ox oz o' : O} {d : D} {Q : Hp → Prop} (h : RS Γ c ((x, ox) :: R) H) (mz : (z, oz) ∈ R) (my : (y, O.sh d) ∈ R) (e : setO ox oz d = some o') (k : ∀ H', RS Γ c ((x, o') :: R) H' → Q H') : rSetG x z y H Q := by
  unfold setO at e
  split at e
  · rename_i os j
    split at e
    · rename_i n hn
      split at e
      · cases e
        rename_i hlt
        have ez : z = .int j := h.int (List.mem_cons_of_mem _ mz)
        subst ez
        have h2 : RS Γ c ((x, .lst os) :: (y, .sh d) :: R) H := (h.dup (List.mem_cons_of_mem _ my)).perm (List.Perm.swap _ _ _)
        obtain ⟨a, rs, rfl, rfl, ha, op⟩ := h2.openL
        rw [List.length_map] at hn hlt
        obtain ⟨sel, es⟩ := repl_set (y := y) (d := d) hlt
        refine .inl ⟨a, _, j, n, rfl, rfl, ha, by rw [List.length_map]; exact hn, k _ ?_⟩
        have q := ((op.repl (sel := sel) (y := y) (d := d) (by simp)).put (u := .lst ((rs.map Prod.fst).set n y)) noT_lst)
        rw [es] at q
        have z := q.closeL (by rw [upd_same, List.map_set])
        rw [List.map_set] at z
        exact (z.perm (List.Perm.swap _ _ _)).drop
      · cases e
    · cases e
  · rename_i kvs k'
    split at e
    · rename_i key hk
      split at e
      · cases e
        rename_i hl
        have ez : z = kV key := by
          obtain ⟨S, sb, r⟩ := h.sh (List.mem_cons_of_mem _ mz)
          rw [keyD_kD hk] at r
          exact rep_key r
        obtain ⟨a, ks, rfl, ha, el, q⟩ := h.putD (k := key) my
        refine .inr ⟨a, _, rfl, ?_, k _ q⟩
        rw [ez]
        exact DPut.k ha (lt_line (by omega))
      · cases e
    · cases e
  · cases e
theorem ss_sub {i : Nat} {te ti : TE} {g gi : aE} (h1 : Sx Γ P W te g) (h2 : Sx Γ P W ti gi) : Ss Γ P W (tAsg te (L2.gSub (tVar i) ti rSetG)) (sSub i g gi) := fun f σ ρ T H D s k => by
  refine h1 f σ ρ T H _ s ((GoodS.bind k).imp fun o ρ1 k v H1 s1 => ?_)
  split at k
  · rename_i o0 e0
    obtain ⟨x, hx, _⟩ := s1.take e0
    refine ⟨x, hx, ?_⟩
    have k2 := (GoodS.bind (σ := σ) k).more (T' := [(v, Den.O.sh (Den.fz o))])
    refine h2 f σ ρ1 _ H1 _ s1.fz (k2.imp fun ky ρ2 k w H2 s2 => ?_)
    split at k
    · rename_i ox e2
      split at k
      · rename_i o' es
        obtain ⟨x', hx', s3⟩ := s2.take e2
        rw [hx] at hx'
        cases hx'
        have r0 : RS Γ f.c ((x, ox) :: (slotsR σ (ρ2.set i none) ++ ((w, ky) :: [(v, Den.O.sh (Den.fz o))] ++ T))) H2 := s3.rs.perm List.perm_middle
        refine ok_set r0 (z := w) (oz := ky) (y := v) (d := Den.fz o) (by simp) (by simp) es fun H3 q => k σ H3 ?_
        have s4 : SR Γ P f σ (ρ2.set i none) ((x, o') :: ((w, ky) :: [(v, Den.O.sh (Den.fz o))] ++ T)) H3 := ⟨s3.ok, s3.fix, q.perm List.perm_middle.symm⟩
        have s5 := s4.back hx
        rw [List.set_set] at s5
        exact s5.drop.drop
      · exact k.elim
    · exact k.elim
  · exact k.elim
end
section
variable {X : Cx} {Γ : Gb} {P : Nat → Bool} {W : WX} {e idx : Expr} {te ti : TE} {g gi : aE} {x : Str} {pn spos pos : Pos} {kk : Nat}
theorem as_sub (i : Nat) (hr : Room kk X.A) (he : AE X Γ P W e te g) (hx : AE X Γ P W idx ti gi) (hN : X.N[i]? = some x := by rfl) (hv : Vis X.env.scope x := by first | exact Or.inl rfl | exact Or.inr (Or.inl rfl) | exact Or.inr (Or.inr rfl)) (hd : (x == ("__debug__" : Str)) = false := by decide)
    (hcd : (x == ("__classdict__" : Str)) = false := by decide)
    (ha : ∀ v, assign (.Subscript (.Name x pn) idx spos) X.env v = (do
      let ov ← holding [v] (eval (.Name x pn) X.env)
      let iv ← holding [v, ov] (eval idx X.env)
      standAt spos
      holding [v, ov, iv] (setItem ov iv v)
      release [v, ov, iv] []) := by intro _; rfl)
    (hs : swapsWithSole [.Subscript (.Name x pn) idx spos] e pos.line X.env = pure false := by rfl) (hw : swappedStores [.Subscript (.Name x pn) idx spos] e X.env = pure none := by rfl)
    (h1 : (assignEach [.Subscript (.Name x pn) idx spos] X.env).map (·.2) = [assign (.Subscript (.Name x pn) idx spos) X.env] := by rfl) :
    AS X Γ P W (.Assign [.Subscript (.Name x pn) idx spos] e pos) (tAsg te (L2.gSub (tVar i) ti rSetG)) (sSub i g gi) :=
  ⟨ps_asg he.pe (pg_sub (pe_var hN hv hd hcd) hx.pe (or_set (hu_of hr)) ha) hs hw h1, ss_sub he.sx hx.sx⟩
end
/-! ### dict displays -/
def prD : List O → Option (List (Key × D))
  | [] => some []
  | .sh k :: .sh d :: r => match keyD k with
    | some k => (prD r).map ((k, d) :: ·)
    | none => none
  | _ => none
def aDisp (ods : List Od) : aE := fun ρ => (evA ods ρ).bind fun rs ρ' => match rsv ρ' rs with
  | some os => match prD os with
    | some kds => if (kds.map Prod.fst).Nodup ∧ kds.length ≤ 15 then .ok (.dic (kds.map fun p => (kD p.1, .sh p.2))) ρ' else .stuck
    | none => .stuck
  | none => .stuck
def flatP : List (V × V) → List V
  | [] => []
  | (x, y) :: r => x :: y :: flatP r
def Sp2 (Γ : Gb) (P : Nat → Bool) (W : WX) (trs : List (TE × TE)) (ods : List Od) : Prop := ∀ f σ ρ T H R, SR Γ P f σ ρ T H →
  Good Γ P W f σ T (fun rs ρ' => ∀ ps T' H', Mt σ T' (flatP ps) rs → SR Γ P f σ ρ' (T' ++ T) H' → R ps H') (evA ods ρ) → tPairs trs σ H R
section
variable {Γ : Gb} {P : Nat → Bool} {W : WX} {tk tv : TE} {gk gv : aE} {trs : List (TE × TE)} {ods : List Od}
theorem sp_nil : Sp2 Γ P W [] [] := fun f σ ρ T H R s k => k [] [] H .nil s
theorem sp_cons (h1 : Sx Γ P W tk gk) (h2 : Sx Γ P W tv gv) (h3 : Sp2 Γ P W trs ods) : Sp2 Γ P W ((tk, tv) :: trs) (.ex gk :: .ex gv :: ods) := fun f σ ρ T H R s k => by
  have k1 : Good Γ P W f σ T _ (gk ρ) := Good.bind k
  refine h1 f σ ρ T H _ s (k1.imp fun o ρ1 k2 v H1 s1 => ?_)
  have k2' := Good.bind (Good.bind k2)
  refine h2 f σ ρ1 ((v, o) :: T) H1 _ s1 ((k2'.more (T' := [(v, o)])).imp fun u ρ2 k3 w H2 s2 => ?_)
  have k3' := (Good.bind k3).more (T' := [(w, u), (v, o)])
  refine h3 f σ ρ2 _ H2 _ s2 (k3'.imp fun rs ρ3 k4 ps T' H3 m s3 => ?_)
  refine k4 ((v, w) :: ps) ((T' ++ [(w, u)]) ++ [(v, o)]) H3 (.ex (.ex m)) ?_
  rw [List.append_assoc, List.append_assoc]
  exact s3
theorem merge_new : ∀ {more acc : List (Key × V)}, (∀ p ∈ more, valV acc p.1 = none) → (more.map Prod.fst).Nodup → mergeK acc more = acc ++ more
  | [], acc, _, _ => by simp [mergeK]
  | (k, v) :: more, acc, h, nd => by
    have h0 := h (k, v) (by simp)
    show mergeK (putK acc k v) more = _
    rw [putK_new v h0]
    rw [List.map_cons, List.nodup_cons] at nd
    rw [merge_new (fun p hp => ?_) nd.2, List.append_assoc]
    · rfl
    · rw [valV_snoc k p.1 v acc h0, if_neg (fun e => nd.1 (by have := List.mem_map_of_mem (f := Prod.fst) hp; rw [e] at this; exact this))]
      exact h p (List.mem_cons_of_mem _ hp)
theorem prD_ok {S : Hp} : ∀ {os : List O} {kds : List (Key × D)}, prD os = some kds → ∀ {ps : List (V × O)} {vps : List (V × V)}, ps.map Prod.snd = os → ps.map Prod.fst = flatP vps → (∀ p ∈ ps, ∀ d, p.2 = .sh d → Rep Γ S p.1 d) →
    ∃ kvs : List (Key × V), vps = kvs.map (fun kv => (kV kv.1, kv.2)) ∧ kvs.map Prod.fst = kds.map Prod.fst ∧ RepL Γ S (kvs.map Prod.snd) (kds.map Prod.snd)
  | [], kds, e, ps, vps, e1, e2, _ => by
    cases e
    obtain rfl : ps = [] := by simpa using e1
    cases vps with
    | nil => exact ⟨[], rfl, rfl, .nil⟩
    | cons p r => obtain ⟨x, y⟩ := p; cases e2
  | .sh k :: .sh d :: r, kds, e, ps, vps, e1, e2, rp => by
    simp only [prD] at e
    split at e
    · rename_i key hk
      simp only [Option.map_eq_some_iff] at e
      obtain ⟨kds', e, rfl⟩ := e
      match ps, e1 with
      | (v1, o1) :: (v2, o2) :: ps, e1 =>
        simp only [List.map_cons, List.cons.injEq] at e1
        obtain ⟨rfl, rfl, e1⟩ := e1
        cases vps with
        | nil => cases e2
        | cons p vps =>
          obtain ⟨x, y⟩ := p
          simp only [List.map_cons, flatP, List.cons.injEq] at e2
          obtain ⟨rfl, rfl, e2⟩ := e2
          obtain ⟨kvs, a, b, c⟩ := prD_ok e e1 e2 (fun p hp => rp p (by simp [hp]))
          have r1 := rp (v1, .sh k) (by simp) k rfl
          rw [keyD_kD hk] at r1
          obtain rfl := rep_key r1
          exact ⟨(key, v2) :: kvs, by simp [a], by simp [b], .cons (rp (v2, .sh d) (by simp) d rfl) c⟩
    · cases e
  | .sh _ :: [], _, e, _, _, _, _, _ => by simp [prD] at e
  | .sh _ :: .lst _ :: _, _, e, _, _, _, _, _ => by simp [prD] at e
  | .sh _ :: .tup _ :: _, _, e, _, _, _, _, _ => by simp [prD] at e
  | .sh _ :: .dic _ :: _, _, e, _, _, _, _, _ => by simp [prD] at e
  | .sh _ :: .obj _ _ :: _, _, e, _, _, _, _, _ => by simp [prD] at e
  | .lst _ :: _, _, e, _, _, _, _, _ => by simp [prD] at e
  | .tup _ :: _, _, e, _, _, _, _, _ => by simp [prD] at e
  | .dic _ :: _, _, e, _, _, _, _, _ => by simp [prD] at e
  | .obj _ _ :: _, _, e, _, _, _, _, _ => by simp [prD] at e
theorem sx_disp (h : Sp2 Γ P W trs ods) : Sx Γ P W (tDisp trs) (aDisp ods) := fun f σ ρ T H Q s k p hp => by
  have s0 : SR Γ P f σ ρ ((.ref p, .dic []) :: T) (upd H p (.dK [])) := s.mapT fun R q => RS.newD (rs := []) (kvs := []) (dkvs := []) q hp rfl rfl rfl
  refine h f σ ρ _ _ _ s0 (((Good.bind k).more (T' := [(.ref p, .dic [])])).imp fun rs ρ' k ps T' H' m s1 => ?_)
  split at k
  · rename_i os eo
    split at k
    · rename_i kds ek
      split at k
      · rename_i hk
        obtain ⟨qs, q1, q2, mem⟩ := rsv_ok m s1 eo
        obtain ⟨S, sb, rd, ad, ads⟩ := s1.rs.readS
        obtain ⟨kvs, ev, ef, er⟩ := prD_ok (Γ := Γ) (S := S) ek q2 q1 (fun x hx d ed => by
          obtain ⟨x1, x2⟩ := x
          obtain ⟨F, z⟩ := rd _ (mem _ hx)
          obtain rfl : x2 = .sh d := ed
          cases z with
          | sh r => exact r)
        have e0 : H' p = some (.dK []) := by
          obtain ⟨F, z⟩ := rd (.ref p, .dic []) (by simp)
          cases z with
          | @dic a ks dk rs F ha e1 e2 e3 hl =>
            obtain rfl : ks = [] := by simpa using e1.symm
            exact ha
        refine ⟨e0, kvs, ev, ?_, k _ _ ?_⟩
        · have := congrArg List.length ef
          simp only [List.length_map] at this
          omega
        · have nd : (kvs.map Prod.fst).Nodup := by rw [ef]; exact hk.1
          rw [merge_new (fun x _ => rfl) nd, List.nil_append]
          have z := (ads _ _ er).perm (R' := (.ref p, .dic []) :: ((kvs.map Prod.snd).zip ((kds.map Prod.snd).map O.sh) ++ (slotsR σ ρ' ++ (T' ++ T)))) (by
            refine (List.Perm.append_left _ ((List.Perm.append_left _ List.perm_middle).trans List.perm_middle)).trans List.perm_middle)
          obtain ⟨a, rs', ks', ee, ha, e1, e2, e3, op⟩ := z.openD
          cases ee
          have ers : rs' = [] := by
            have := congrArg List.length e3
            simpa using this.symm
          subst ers
          have hlen : (kvs.map Prod.snd).length = (kds.map Prod.snd).length := er.len
          have q := (op.put (u := .dK kvs) noT_dK).closeD (rs := (kvs.map Prod.snd).zip ((kds.map Prod.snd).map O.sh)) (R := slotsR σ ρ' ++ (T' ++ T)) (kvs := kvs) (dkvs := kds.map fun p => (kD p.1, O.sh p.2)) upd_same
            (by
              rw [List.map_map]
              have := congrArg (List.map kD) ef
              rw [List.map_map, List.map_map] at this
              exact this.symm)
            (zip_fst hlen).symm (by rw [zip_snd hlen, List.map_map, List.map_map]; rfl)
          have s2 : SR Γ P f σ ρ' ((.ref p, .dic (kds.map fun p => (kD p.1, O.sh p.2))) :: (T' ++ T)) _ := ⟨s1.ok, s1.fix, q.perm List.perm_middle.symm⟩
          exact (s2.permT (T' := T' ++ (.ref p, .dic (kds.map fun p => (kD p.1, O.sh p.2))) :: T) List.perm_middle.symm).dropL
      · exact k.elim
    · exact k.elim
  · exact k.elim
end
structure APP (X : Cx) (Γ : Gb) (P : Nat → Bool) (W : WX) (pos : Pos) (keys : List (Option Expr)) (values : List Expr) (trs : List (TE × TE)) (ods : List Od) : Prop where
  pps : PPs X pos keys values trs
  sp : Sp2 Γ P W trs ods
section
variable {X : Cx} {Γ : Gb} {P : Nat → Bool} {W : WX} {k v : Expr} {ks : List (Option Expr)} {vs : List Expr} {tk tv : TE} {gk gv : aE} {trs : List (TE × TE)} {ods : List Od} {pos : Pos}
theorem app_nil : APP X Γ P W pos [] [] [] [] := ⟨pps_nil, sp_nil⟩
theorem app_cons (h1 : AE X Γ P W k tk gk) (h2 : AE X Γ P W v tv gv) (h3 : APP X Γ P W pos ks vs trs ods) : APP X Γ P W pos (some k :: ks) (v :: vs) ((tk, tv) :: trs) (.ex (aFz gk) :: .ex (aFz gv) :: ods) :=
  ⟨pps_cons h1.pe h2.pe h3.pps, sp_cons (sx_fz h1.sx) (sx_fz h2.sx) h3.sp⟩
theorem ae_disp (h : APP X Γ P W pos ks vs trs ods) (hall : ks.all (·.isSome) = true := by rfl) (hl : ks.length = vs.length := by rfl) (h0 : ks ≠ [] := by exact List.cons_ne_nil _ _) (h15 : ks.length ≤ 15 := by exact Nat.le_of_ble_eq_true rfl) : AE X Γ P W (.Dict ks vs pos) (tDisp trs) (aDisp ods) :=
  ⟨pe_disp h.pps hall hl h0 h15, sx_disp h.sp⟩
def aNewD : aE := fun ρ => .ok (.dic []) ρ
theorem ae_newD : AE X Γ P W (.Dict [] [] pos) tDNewK aNewD := ⟨pe_dnewK, fun f σ ρ T H Q s k p hp => k _ _ (s.mapT fun R q => RS.newD (rs := []) (kvs := []) (dkvs := []) q hp rfl rfl rfl)⟩
end
/-! ### isinstance -/
section
variable {X : Cx} {Γ : Gb} {P : Nat → Bool} {W : WX} {a : Expr} {ta : TE} {oa : Od} {pos pn pt : Pos} {n : String} {xt : Str}
theorem ae_isi (hK : X.K = Γ.K) (hm : X.mg "isinstance" = none) (ha : AO X Γ P W a ta oa) (hmt : X.mg xt = none) (hbt : bootBuiltins xt = some (.type n)) (hn : n = "int" ∨ n = "bool" ∨ n = "str" ∨ n = "tuple" ∨ n = "list" ∨ n = "dict" := by decide)
    (hb : bootBuiltins "isinstance" = some (.builtin "isinstance") := by decide +kernel) (hg : Gl X "isinstance" := by rfl) (hgt : Gl X xt := by rfl) (hnt : xt ≠ "__name__" := by decide) (hdt : (xt == ("__debug__" : Str)) = false := by decide)
    (he : starEach (a :: [.Name xt pt]) X.env = (false, eval a X.env) :: starEach [.Name xt pt] X.env := by rfl) (he2 : starEach (.Name xt pt :: []) X.env = (false, eval (.Name xt pt) X.env) :: starEach [] X.env := by rfl)
    (hpl : (backTo pos (starEach [.Name xt pt] X.env)).any (·.1) = false := by rfl) :
    AE X Γ P W (.Call (.Name "isinstance" pn) [a, .Name xt pt] [] pos) (tCB (rIsi Γ.K) (tCons ta (tCons (tC (.ty n)) tNil))) (aOp [oa] (l1 (gIsi n))) :=
  ⟨hK ▸ pe_callB call_isi hg hm hb (pa_cons ha.pe (pa_cons (pe_bltn hgt hmt hbt rfl hnt hdt) pa_nil he2) he) (by decide) (by decide) he hpl,
    show Sx Γ P W (fun σ H Q => ta σ H fun x H1 => (fun x H Q => rIsi Γ.K [x, .ty n] H Q) x H1 Q) _ from sx_op1 (ha.sa sa_nil) (ok_isi hn)⟩
end
end Den
end
section
/-! Den, part Q: a module's constants; a def that is never reached; what the written part tells. -/
namespace Den
open PySem L2 PySem.Spec PyProof.Rows
/-- a name of the module that stands for plain data -/
def GC (Γ : Gb) (mg : Str → Option Value) (x : Str) (v : V) (d : D) : Prop := (∃ u, mg x = some u ∧ RelV v u) ∧ ∀ S, Rep Γ S v d
section
variable {X : Cx} {Γ : Gb} {P : Nat → Bool} {W : WX} {pos : Pos}
theorem ae_gc {x : Str} {v : V} {d : D} (g : GC Γ X.mg x v d) (hg : Gl X x := by rfl) (hd : (x == ("__debug__" : Str)) = false := by decide) : AE X Γ P W (.Name x pos) (tC v) (aC d) := by
  obtain ⟨⟨u, hm, r⟩, rp⟩ := g
  exact ⟨pe_glob hg hm r hd, sx_c rp⟩
theorem fn_stuck {mg : Str → Option Value} {base : Heap} {k n : Nat} {f : Addr} {fd : FuncData} {ps : List Str} (h : ps.length = n) : FnOk Γ.prog Γ.w Γ.K mg base (L2.CX Γ.prog Γ.w) k f fd ps (spD Γ n fun _ => .stuck) :=
  ⟨fun vs H Q E q => by rw [q.1, h], fun A outer s H args us vs Q E hr he hb hv hs => by
    obtain ⟨_, e, os, _, _, z⟩ := hs
    exact z.elim⟩
theorem Cl.mono {mg : Str → Option Value} {base : Heap} {j k n : Nat} {x : Str} {dds : List D} {den : aF} (C : Cl Γ mg base j x n dds den) (h : j ≤ k) : Cl Γ mg base k x n dds den := by
  obtain ⟨f, fd, ps, ds, F, q⟩ := C.ex
  exact ⟨f, fd, ps, ds, F.mono h, q⟩
/-- a def of the module, from what the written part tells of it -/
theorem cl_mk {mg : Str → Option Value} {base : Heap} {k n : Nat} {x : Str} {dds : List D} {den : aF} {f : Addr} {fd : FuncData} {ps : List Str} {ds : List Value} (F : FnOk Γ.prog Γ.w Γ.K mg base (L2.CX Γ.prog Γ.w) k f fd ps (spD Γ n den)) (hm : mg x = some (.ref f))
    (hk : PySem.W.keepIn Γ.K (.ref f) = true) (hb : Binds Γ.K fd ps ds) (hd : Vals (dds.map toV) ds) (hr : ∀ S, RepL Γ S (dds.map toV) dds) : Cl Γ mg base k x n dds den := ⟨f, fd, ps, ds, F, hm, hk, hb, hd, hr⟩
theorem cl_mk0 {mg : Str → Option Value} {base : Heap} {k n : Nat} {x : Str} {den : aF} {f : Addr} {fd : FuncData} {ps : List Str} (F : FnOk Γ.prog Γ.w Γ.K mg base (L2.CX Γ.prog Γ.w) k f fd ps (spD Γ n den)) (hm : mg x = some (.ref f))
    (hk : PySem.W.keepIn Γ.K (.ref f) = true) (hb : Binds Γ.K fd ps []) : Cl Γ mg base k x n [] den := cl_mk F hm hk hb .nil fun _ => .nil
theorem vals_all {S : Hp} {us : List Value} {ds : List D} (h : ds.length = us.length) (k : ∀ (i : Nat) (d : D) (u : Value), ds[i]? = some d → us[i]? = some u → RelV (toV d) u) : Vals (ds.map toV) us := by
  induction ds generalizing us with
  | nil =>
    cases us with
    | nil => exact .nil
    | cons _ _ => simp at h
  | cons d ds ih =>
    cases us with
    | nil => simp at h
    | cons u us => exact .cons (k 0 d u rfl rfl) (ih (by simpa using h) fun i d u a b => k (i + 1) d u (by simpa using a) (by simpa using b))
end
end Den
end
section
/-! Den, part R: constants of the module, the law's end. -/
namespace Den
open PySem L2 PySem.Spec PyProof.Rows
/-- an int, a text, True, False, None -/
def isScal : D → Bool
  | .non => true
  | .bl _ => true
  | .int _ => true
  | .str _ => true
  | _ => false
theorem rep_scal {Γ : Gb} {S : Hp} : ∀ {d : D}, isScal d = true → Rep Γ S (toV d) d
  | .non, _ => .non
  | .bl _, _ => .bl _
  | .int _, _ => .int _
  | .str _, _ => .str _
theorem repL_scal {Γ : Gb} {S : Hp} : ∀ {ds : List D}, ds.all isScal = true → RepL Γ S (ds.map toV) ds
  | [], _ => .nil
  | d :: ds, h => by
    rw [List.all_cons, Bool.and_eq_true] at h
    exact .cons (rep_scal h.1) (repL_scal h.2)
section
variable {Γ : Gb} {mg : Str → Option Value}
theorem gc_tup {x : Str} {a : Addr} {ds : List D} {us : Array Value} {dd : Option Addr} {n : Nat} {sl : Array (Option Value)} (hm : mg x = some (.ref a)) (lk : Γ.K.lookup a = some ⟨.type "tuple", dd, .seq us n, sl⟩) (hs : ds.all isScal = true) (hv : Vals (ds.map toV) us.toList)
    (hz : us.size ≤ sizeLine) : GC Γ mg x (.ref a) (.tup ds) := ⟨⟨_, hm, rfl⟩, fun S => .tup (.inr ⟨_, us, n, lk, rfl, rfl, hz, hv⟩) (repL_scal hs)⟩
theorem gc_lst {x : Str} {a : Addr} {ds : List D} {us : Array Value} {n : Nat} {sl : Array (Option Value)} (hm : mg x = some (.ref a)) (lk : Γ.K.lookup a = some ⟨.type "list", none, .seq us n, sl⟩) (hs : ds.all isScal = true) (hv : Vals (ds.map toV) us.toList)
    (hz : us.size ≤ sizeLine) : GC Γ mg x (.ref a) (.wls ds) := ⟨⟨_, hm, rfl⟩, fun S => .wls (.inr ⟨_, us, n, lk, rfl, rfl, rfl, hz, hv⟩) (repL_scal hs)⟩
theorem gc_scal {x : Str} {d : D} {u : Value} (hm : mg x = some u) (hs : isScal d = true) (r : RelV (toV d) u) : GC Γ mg x (toV d) d := ⟨⟨u, hm, r⟩, fun S => rep_scal hs⟩
end
/-- the law's own promise, from what its den answers -/
theorem sp_law {P : Program} {w : World} {K : PySem.W.Frag} {cls : Nat → Addr} {den : aF} {H : Hp} {a : Addr} {ns : List Int} (hO : Only H) (hS : SqL K H a (ns.map V.int)) (h : ∃ os', den [.sh (.wls (ns.map D.int))] = .ret (.sh (.bl true)) os' ∧ os'.length = 1) :
    spD ⟨P, w, K, cls⟩ 1 den [.ref a] H (fun v _ => v = .bl true) fun _ _ _ => False := by
  obtain ⟨os', hd, hl⟩ := h
  refine ⟨rfl, ⟨H, H, []⟩, [.sh (.wls (ns.map D.int))], rfl, ⟨H, [], ⟨fun _ _ e => e, fun _ _ e _ _ => e, fun _ e => e, fun _ m => (by cases m), fun _ e => .inl e⟩, .cons (F := []) (.sh (.wls hS repL_ints)) .nil, by simp, fun _ m => (by simp at m), fun b o e => ⟨e, ?_⟩, fun _ m => by cases m⟩, ?_⟩
  · rcases hO b with z | ⟨o', xs, z⟩
    · rw [z] at e; cases e
    · rw [z] at e
      cases e
      exact fun ps q => by cases q
  · rw [hd]
    exact ⟨hl, fun v H' r => r.bl (by simp)⟩
theorem cx_none {P : Program} {w : World} {H : Hp} {s : Shared} {e : Value} {s' : Shared} (h : L2.CX P w [] H s (fun _ _ _ => False) e s') : False := by
  obtain ⟨_, _, _, _, _, _, _, _, _, _, _, _, z⟩ := h
  exact z
theorem walk_den {l : PySem.W.OpenLaw} {k : Nat} {q : Program} {loose : List Str} {XP : (Str → Option Value) → Heap → Prop} {YP : World → Heap → Prop} {d : DefRec} {K : Params → PySem.W.Frag} {den : aF} {cls : Nat → Addr} (hn : l.most = some 63) (hdf : d.params.defaults = []) (hr : Room k callerA)
    (hY : ∀ (w : World) (h : Heap), YP w h → (K w.params).In h)
    (F : ∀ (w : World) (mg : Str → Option Value) (fa : Addr) (h : Heap), (K w.params).In h → h.Ns mainGlobals mg → mg d.name = some (.ref fa) →
      ∃ fd : FuncData, (∀ (s : Shared) (u : Value), BindsTo s fd ⟨[u], []⟩ [("script", u)]) ∧ ∀ base : Heap, (K w.params).In base → base.Ns mainGlobals mg → FnOk l.prog w (K w.params) mg base (L2.CX l.prog w) k fa fd ["script"] (spD ⟨l.prog, w, K w.params, cls⟩ 1 den))
    (hL : ∀ ns : List Int, ns.length ≤ 63 → ∃ os', den [.sh (.wls (ns.map D.int))] = .ret (.sh (.bl true)) os' ∧ os'.length = 1) :
    PySem.W.WalkO q loose XP YP l.row.toRowW d [] (fun f vs => PySem.call f vs) :=
  L2.walk_of (n := 63) (k := k) (x := "script") (CX := fun w => L2.CX l.prog w) (sp := fun w => spD ⟨l.prog, w, K w.params, cls⟩ 1 den) hn (by decide) hdf hr hY F (fun _ _ a ns hl hO hS => sp_law hO hS (hL ns hl)) fun _ _ _ _ _ z => cx_none z
end Den
end
section
/-! Den, part S: plain lemmas: what the operations answer at tuples and lists of texts, of ints. -/
namespace Den
open PySem L2
def tS (xs : List Str) : D := .tup (xs.map D.str)
def lS (xs : List Str) : D := .lst (xs.map D.str)
def lI (xs : List Int) : D := .lst (xs.map D.int)
abbrev okS (x : Str) : Prop := PyData.strOk x = true
abbrev okSs (xs : List Str) : Prop := ∀ x ∈ xs, PyData.strOk x = true
theorem toPyL_strs : ∀ xs : List Str, toPyL (xs.map D.str) = some (xs.map PyData.str)
  | [] => by simp [toPyL]
  | x :: xs => by simp [toPyL, toPy, toPyL_strs xs]
theorem toPyL_ints : ∀ xs : List Int, toPyL (xs.map D.int) = some (xs.map PyData.int)
  | [] => by simp [toPyL]
  | x :: xs => by simp [toPyL, toPy, toPyL_ints xs]
theorem layAll_strs : ∀ {xs : List Str}, okSs xs → PyData.canLayAll0 (xs.map PyData.str) = true
  | [], _ => by simp [PyData.canLayAll0]
  | x :: xs, h => by
    simp only [List.map_cons, PyData.canLayAll0, PyData.canLay0, Bool.and_eq_true]
    exact ⟨h x (by simp), layAll_strs fun y hy => h y (by simp [hy])⟩
theorem depthAll_strs : ∀ xs : List Str, PyData.depthAll (xs.map PyData.str) = 0
  | [] => by simp [PyData.depthAll]
  | x :: xs => by simp [PyData.depthAll, PyData.depth, depthAll_strs xs]
theorem eqvAll_strs : ∀ xs ys : List Str, PyData.eqvAll (xs.map PyData.str) (ys.map PyData.str) = decide (xs = ys)
  | [], [] => by simp [PyData.eqvAll]
  | [], _ :: _ => by simp [PyData.eqvAll]
  | _ :: _, [] => by simp [PyData.eqvAll]
  | x :: xs, y :: ys => by
    simp only [List.map_cons, PyData.eqvAll, PyData.eqv, eqvAll_strs xs ys, List.cons.injEq]
    by_cases h : x = y
    · simp [h]
    · simp [h]
theorem shaped_tS {xs : List Str} (h : okSs xs) : SeqAt.shaped (.tuple (xs.map PyData.str)) = true := by
  simp [SeqAt.shaped, PyData.canLay0, layAll_strs h, PyData.depth, depthAll_strs]
theorem shaped_lS {xs : List Str} (h : okSs xs) : SeqAt.shaped (.list (xs.map PyData.str)) = true := by
  simp [SeqAt.shaped, PyData.canLay0, layAll_strs h, PyData.depth, depthAll_strs]
theorem eqD_tS {xs ys : List Str} (h : okSs xs) (k : okSs ys) : gEqD (tS xs) (tS ys) = some (decide (xs = ys)) := by
  simp [gEqD, scalD, tS, toPy, toPyL_strs, shaped_tS h, shaped_tS k, PyData.eqv, eqvAll_strs]
theorem eqD_lS {xs ys : List Str} (h : okSs xs) (k : okSs ys) : gEqD (lS xs) (lS ys) = some (decide (xs = ys)) := by
  simp [gEqD, scalD, lS, toPy, toPyL_strs, shaped_lS h, shaped_lS k, PyData.eqv, eqvAll_strs]
theorem gEq_tS {xs ys : List Str} (h : okSs xs) (k : okSs ys) : gEq (.sh (tS xs)) (.sh (tS ys)) = some (.sh (.bl (decide (xs = ys)))) := by simp [gEq, fz, eqD_tS h k]
theorem gEq_str (x y : Str) : gEq (.sh (.str x)) (.sh (.str y)) = some (.sh (.bl (decide (x = y)))) := by simp [gEq, fz, gEqD, scalD]
theorem gEq_int (x y : Int) : gEq (.sh (.int x)) (.sh (.int y)) = some (.sh (.bl (decide (x = y)))) := by simp [gEq, fz, gEqD, scalD]
theorem gNe_str (x y : Str) : gNe (.sh (.str x)) (.sh (.str y)) = some (.sh (.bl (!decide (x = y)))) := by simp [gNe, fz, gEqD, scalD]
theorem gNe_int (x y : Int) : gNe (.sh (.int x)) (.sh (.int y)) = some (.sh (.bl (!decide (x = y)))) := by simp [gNe, fz, gEqD, scalD]
theorem inF_strs (c : Str) : ∀ xs : List Str, inF (.str c) (xs.map D.str) = decide (c ∈ xs)
  | [] => by simp [inF]
  | x :: xs => by
    have ih := inF_strs c xs
    unfold inF at ih ⊢
    rw [List.map_cons, List.any_cons, ih]
    have e : eqF (.str x) (.str c) = decide (c = x) := by
      show (x == c) = _
      by_cases h : c = x
      · simp [h]
      · rw [decide_eq_false h]
        exact beq_eq_false_iff_ne.mpr fun z => h z.symm
    rw [e]
    by_cases h : c = x <;> simp [h]
theorem flat_strs (xs : List Str) : (xs.map D.str).all flatD = true := by
  rw [List.all_eq_true]
  intro d hd
  obtain ⟨x, _, rfl⟩ := List.mem_map.mp hd
  rfl
theorem inG_tS (c : Str) (xs : List Str) : inG (.sh (.str c)) (.sh (tS xs)) = some (decide (c ∈ xs)) := by
  simp only [inG, tS, dicD, seqD, fz, flat_strs, flatD, inF_strs, and_self, if_true]
theorem inG_lS (c : Str) (xs : List Str) : inG (.sh (.str c)) (.sh (lS xs)) = some (decide (c ∈ xs)) := by
  simp only [inG, lS, dicD, seqD, fz, flat_strs, flatD, inF_strs, and_self, if_true]
theorem cutD_map {α β : Type} (f : α → β) (xs : List α) (lo hi : Option Int) : cutD (xs.map f) lo hi = (cutD xs lo hi).map f := by simp [cutD, List.map_drop, List.map_take]
theorem cut_to {α : Type} (xs : List α) (k : Nat) : cutD xs none (some (k : Int)) = xs.take k := by
  unfold cutD
  rw [HT.sIx_none, HT.sIx_nat, List.drop_zero, Nat.sub_zero]
  by_cases h : k ≤ xs.length
  · rw [Nat.min_eq_left h]
  · rw [Nat.min_eq_right (by omega), List.take_of_length_le (Nat.le_refl _), List.take_of_length_le (by omega)]
theorem cut_from {α : Type} (xs : List α) (k : Nat) : cutD xs (some (k : Int)) none = xs.drop k := by
  unfold cutD
  rw [HT.sIx_none, HT.sIx_nat]
  by_cases h : k ≤ xs.length
  · rw [Nat.min_eq_left h, List.take_of_length_le (by simp)]
  · rw [Nat.min_eq_right (by omega), List.drop_of_length_le (Nat.le_refl _), List.drop_of_length_le (by omega), List.take_nil]
theorem cut_back {α : Type} (xs : List α) (k : Nat) (h : 0 < k) : cutD xs (some (-(k : Int))) none = xs.drop (xs.length - k) := by
  unfold cutD
  have e : HT.sIx xs.length 0 (some (-(k : Int))) = xs.length - k := by
    show (if -(k : Int) < 0 then (-(k : Int) + (xs.length : Int)).toNat else min (-(k : Int)).toNat xs.length) = _
    rw [if_pos (by omega)]
    omega
  rw [e, HT.sIx_none, List.take_of_length_le (by simp)]
theorem atI_nat {α : Type} (xs : List α) (k : Nat) : atI xs (k : Int) = xs[k]? := by
  unfold atI ixN
  rw [if_pos (by omega)]
  by_cases h : k < xs.length
  · rw [if_pos (by omega)]
    simp
  · rw [if_neg (by omega), List.getElem?_eq_none (by omega)]
    rfl
theorem gSl_tS (xs : List Str) (lo hi : Option Int) : gSl (.sh (tS xs)) lo hi = some (.sh (tS (cutD xs lo hi))) := by simp [gSl, tS, tupD, cutD_map]
theorem gLen_tS (xs : List Str) : gLen (.sh (tS xs)) = some (.sh (.int xs.length)) := by simp [gLen, tS]
theorem gLen_lS (xs : List Str) : gLen (.sh (lS xs)) = some (.sh (.int xs.length)) := by simp [gLen, lS]
theorem gIx_tS {xs : List Str} {k : Nat} {x : Str} (h : xs[k]? = some x) : gIx (.sh (tS xs)) (.sh (.int (k : Int))) = some (.sh (.str x)) := by simp [gIx, tS, atI_nat, h]
theorem gIx_lS {xs : List Str} {k : Nat} {x : Str} (h : xs[k]? = some x) : gIx (.sh (lS xs)) (.sh (.int (k : Int))) = some (.sh (.str x)) := by simp [gIx, lS, atI_nat, h]
theorem gAdd_tS {xs ys : List Str} (h : xs.length + ys.length ≤ 16000000) : gAdd (.sh (tS xs)) (.sh (tS ys)) = some (.sh (tS (xs ++ ys))) := by simp [gAdd, tS, tupD, h]
theorem gTup_str (x : Str) : Den.gTup [.sh (.str x)] = some (.sh (tS [x])) := by simp [Den.gTup, shs, tS]
theorem gTup_str2 (x y : Str) : Den.gTup [.sh (.str x), .sh (.str y)] = some (.sh (tS [x, y])) := by simp [Den.gTup, shs, tS]
theorem gIx_tup (ds : List D) (i : Int) : gIx (.sh (.tup ds)) (.sh (.int i)) = (atI ds i).map O.sh := rfl
theorem atI_0 {α : Type} (a : α) (l : List α) : atI (a :: l) 0 = some a := atI_nat (a :: l) 0
theorem atI_1 {α : Type} (a b : α) (l : List α) : atI (a :: b :: l) 1 = some b := atI_nat (a :: b :: l) 1
theorem atI_2 {α : Type} (a b c : α) (l : List α) : atI (a :: b :: c :: l) 2 = some c := atI_nat (a :: b :: c :: l) 2
theorem atI_3 {α : Type} (a b c d : α) (l : List α) : atI (a :: b :: c :: d :: l) 3 = some d := atI_nat (a :: b :: c :: d :: l) 3
theorem gSl_tup (ds : List D) (lo hi : Option Int) : gSl (.sh (.tup ds)) lo hi = some (.sh (.tup (cutD ds lo hi))) := rfl
theorem gIn_tS (c : Str) (xs : List Str) : gIn (.sh (.str c)) (.sh (tS xs)) = some (.sh (.bl (decide (c ∈ xs)))) := by simp [gIn, inG_tS]
theorem gNotIn_tS (c : Str) (xs : List Str) : gNotIn (.sh (.str c)) (.sh (tS xs)) = some (.sh (.bl (!decide (c ∈ xs)))) := by simp [gNotIn, inG_tS]
theorem gIn_lS (c : Str) (xs : List Str) : gIn (.sh (.str c)) (.sh (lS xs)) = some (.sh (.bl (decide (c ∈ xs)))) := by simp [gIn, inG_lS]
theorem gNotIn_lS (c : Str) (xs : List Str) : gNotIn (.sh (.str c)) (.sh (lS xs)) = some (.sh (.bl (!decide (c ∈ xs)))) := by simp [gNotIn, inG_lS]
theorem gTup_sh (ds : List D) (h : ds.length ≤ 16000000) : Den.gTup (ds.map O.sh) = some (.sh (.tup ds)) := by simp [Den.gTup, shs_map, h]
/-- a for that leaves at an item, or goes through -/
theorem forD_ind {tg : aG} {body : aS} {R : Out → Prop} (I : List D → Store → Prop) : ∀ {ds : List D} {ρ : Store}, I ds ρ →
    (∀ d r ρ, I (d :: r) ρ → ∃ ρ1, tg d ρ = some ρ1 ∧ match body ρ1 with
      | .nx ρ2 => I r ρ2
      | .ct ρ2 => I r ρ2
      | .brk ρ2 => R (.nx ρ2)
      | o => R o) → (∀ ρ, I [] ρ → R (.nx ρ)) → R (forD tg body ds ρ)
  | [], ρ, h, _, f => f ρ h
  | d :: ds, ρ, h, s, f => by
    obtain ⟨ρ1, e, k⟩ := s d ds ρ h
    unfold forD
    rw [e]
    simp only
    cases eb : body ρ1 with
    | nx ρ2 => rw [eb] at k; exact forD_ind I k s f
    | ct ρ2 => rw [eb] at k; exact forD_ind I k s f
    | brk ρ2 => rw [eb] at k; exact k
    | ret o ρ2 => rw [eb] at k; exact k
    | exc x ρ2 => rw [eb] at k; exact k
    | stuck => rw [eb] at k; exact k
theorem aN_in {i : Nat} {ρ : Store} (h : i < ρ.length) (d : D) : aN i d ρ = some (ρ.set i (some (.sh d))) := if_pos h
/-- a comprehension that tells f of each item, the store as it was -/
theorem lcL_map {i : Nat} {ge : aE} {ρ : Store} (f : D → D) (hi : i < ρ.length) (hn : wipeS ρ [i] = ρ) : ∀ {ds : List D}, (∀ d ∈ ds, ∃ o ρ', ge (ρ.set i (some (.sh d))) = .ok o ρ' ∧ fz o = f d ∧ wipeS ρ' [i] = ρ) → lcL [i] (aN i) aYes ge ds ρ = .ok (ds.map f) ρ
  | [], _ => rfl
  | d :: ds, h => by
    obtain ⟨o, ρ', e, ef, w⟩ := h d (by simp)
    have ih := lcL_map f hi hn (ds := ds) fun x hx => h x (by simp [hx])
    rw [lcL, aN_in hi]
    simp only [aYes, Res.bind, if_true, e]
    rw [w]
    rw [ih]
    simp [ef]
/-- .. of those that pass the test -/
theorem lcL_filter {i : Nat} {tt : aT} {ge : aE} {ρ : Store} (p : D → Bool) (f : D → D) (hi : i < ρ.length) (hn : wipeS ρ [i] = ρ) : ∀ {ds : List D}, (∀ d ∈ ds, ∃ ρ1, tt (ρ.set i (some (.sh d))) = .ok (p d) ρ1 ∧ (p d = false → wipeS ρ1 [i] = ρ) ∧ (p d = true → ∃ o ρ', ge ρ1 = .ok o ρ' ∧ fz o = f d ∧ wipeS ρ' [i] = ρ)) →
    lcL [i] (aN i) tt ge ds ρ = .ok ((ds.filter p).map f) ρ
  | [], _ => rfl
  | d :: ds, h => by
    obtain ⟨ρ1, e1, hf, ht⟩ := h d (by simp)
    have ih := lcL_filter p f hi hn (ds := ds) fun x hx => h x (by simp [hx])
    rw [lcL, aN_in hi]
    simp only [Res.bind, e1]
    cases hp : p d with
    | true =>
      obtain ⟨o, ρ', e, ef, w⟩ := ht hp
      simp only [if_true, e, Res.bind]
      rw [w, ih]
      simp [hp, ef]
    | false =>
      simp only [Bool.false_eq_true, if_false]
      rw [hf hp, ih]
      simp [hp]
/-- .. while the store changes: P by what is left and what was found -/
theorem lcL_ind {vs : List Nat} {tg : aG} {tt : aT} {ge : aE} {R : Res (List D) → Prop} (I : List D → Store → List D → Prop) : ∀ {ds : List D} {ρ : Store} {acc : List D}, I ds ρ acc →
    (∀ d r ρ acc, I (d :: r) ρ acc → ∃ ρ1 b ρ2, tg d ρ = some ρ1 ∧ tt ρ1 = .ok b ρ2 ∧ if b = true then ∃ o ρ3, ge ρ2 = .ok o ρ3 ∧ I r (wipeS ρ3 vs) (acc ++ [fz o]) else I r (wipeS ρ2 vs) acc) →
    ∃ found ρ', lcL vs tg tt ge ds ρ = .ok found ρ' ∧ I [] ρ' (acc ++ found)
  | [], ρ, acc, h, _ => ⟨[], ρ, rfl, by rw [List.append_nil]; exact h⟩
  | d :: ds, ρ, acc, h, s => by
    obtain ⟨ρ1, b, ρ2, e1, e2, k⟩ := s d ds ρ acc h
    rw [lcL, e1]
    simp only [e2, Res.bind]
    cases b with
    | true =>
      rw [if_pos rfl] at k
      obtain ⟨o, ρ3, e3, k⟩ := k
      obtain ⟨found, ρ', e4, k'⟩ := lcL_ind (R := R) I k s
      refine ⟨fz o :: found, ρ', ?_, by simpa using k'⟩
      simp [e3, e4]
    | false =>
      rw [if_neg (by simp)] at k
      obtain ⟨found, ρ', e4, k'⟩ := lcL_ind (R := R) I k s
      exact ⟨found, ρ', by simp [e4], k'⟩
end Den
end
section
/-! Den, part T: plain lemmas: own lists of texts, of ints. -/
namespace Den
open PySem L2
def oS (xs : List Str) : O := .lst ((xs.map D.str).map O.sh)
def oI (xs : List Int) : O := .lst ((xs.map D.int).map O.sh)
theorem oS_nil : O.lst [] = oS [] := rfl
theorem oS_len (xs : List Str) : ((xs.map D.str).map O.sh).length = xs.length := by simp
theorem lstD_oS (xs : List Str) : lstD (oS xs) = some (xs.map D.str) := shs_map _
theorem lstD_oI (xs : List Int) : lstD (oI xs) = some (xs.map D.int) := shs_map _
theorem fz_oS (xs : List Str) : fz (oS xs) = lS xs := by rw [oS, fz, fzL_sh]; rfl
theorem fz_oI (xs : List Int) : fz (oI xs) = lI xs := by rw [oI, fz, fzL_sh]; rfl
theorem gEq_oS {xs ys : List Str} (h : okSs xs) (k : okSs ys) : gEq (oS xs) (oS ys) = some (.sh (.bl (decide (xs = ys)))) := by simp [gEq, fz_oS, eqD_lS h k]
theorem gSl_oS (xs : List Str) (lo hi : Option Int) : gSl (oS xs) lo hi = some (oS (cutD xs lo hi)) := by
  have e : gSl (oS xs) lo hi = (match tupD (oS xs) with
    | some ds => some (.sh (.tup (cutD ds lo hi)))
    | none => match lstD (oS xs) with
      | some ds => some (.lst ((cutD ds lo hi).map O.sh))
      | none => none) := rfl
  rw [e]
  have t : tupD (oS xs) = none := rfl
  rw [t, lstD_oS]
  simp [oS, cutD_map]
theorem gLen_oS (xs : List Str) : gLen (oS xs) = some (.sh (.int xs.length)) := by simp [gLen, oS]
theorem gLen_oI (xs : List Int) : gLen (oI xs) = some (.sh (.int xs.length)) := by simp [gLen, oI]
theorem gIx_oS {xs : List Str} {k : Nat} {x : Str} (h : xs[k]? = some x) : gIx (oS xs) (.sh (.int (k : Int))) = some (.sh (.str x)) := by simp [gIx, oS, atI_nat, h]
theorem gIx_oI {xs : List Int} {k : Nat} {x : Int} (h : xs[k]? = some x) : gIx (oI xs) (.sh (.int (k : Int))) = some (.sh (.int x)) := by simp [gIx, oI, atI_nat, h]
theorem gLstS_one (x : Str) : gLstS [.sh (.str x)] = some (oS [x]) := by simp [gLstS, shs, oS]
theorem gLstS_nil : gLstS [] = some (oS []) := by simp [gLstS, shs, oS]
theorem gMul_two (x : Str) : gMul (oS [x]) (.sh (.int 2)) = some (oS [x, x]) := by
  simp [gMul, oS, lstD, shs]
theorem eqvAll_ints : ∀ xs ys : List Int, PyData.eqvAll (xs.map PyData.int) (ys.map PyData.int) = decide (xs = ys)
  | [], [] => by simp [PyData.eqvAll]
  | [], _ :: _ => by simp [PyData.eqvAll]
  | _ :: _, [] => by simp [PyData.eqvAll]
  | x :: xs, y :: ys => by
    simp only [List.map_cons, PyData.eqvAll, PyData.eqv, eqvAll_ints xs ys, List.cons.injEq]
    by_cases h : x = y
    · simp [h]
    · simp [h]
theorem layAll_ints : ∀ {xs : List Int}, PyData.canLayAll0 (xs.map PyData.int) = true
  | [] => by simp [PyData.canLayAll0]
  | x :: xs => by
    simp only [List.map_cons, PyData.canLayAll0, PyData.canLay0, Bool.and_eq_true]
    exact ⟨trivial, layAll_ints⟩
theorem depthAll_ints : ∀ xs : List Int, PyData.depthAll (xs.map PyData.int) = 0
  | [] => by simp [PyData.depthAll]
  | x :: xs => by simp [PyData.depthAll, PyData.depth, depthAll_ints xs]
theorem eqD_lI (xs ys : List Int) : gEqD (lI xs) (lI ys) = some (decide (xs = ys)) := by
  simp [gEqD, scalD, lI, toPy, toPyL_ints, SeqAt.shaped, PyData.canLay0, layAll_ints, PyData.depth, depthAll_ints, PyData.eqv, eqvAll_ints]
theorem gNe_oI (xs ys : List Int) : gNe (oI xs) (oI ys) = some (.sh (.bl (!decide (xs = ys)))) := by simp [gNe, fz_oI, eqD_lI]
theorem gNe_oI_nil (xs : List Int) : gNe (oI xs) (oS []) = some (.sh (.bl (!decide (xs = [])))) := gNe_oI xs []
theorem itemsD_tS (xs : List Str) : itemsD (.sh (tS xs)) = some (xs.map D.str) := rfl
theorem itemsD_lS (xs : List Str) : itemsD (.sh (lS xs)) = some (xs.map D.str) := rfl
theorem filter_map_str (p : Str → Bool) (xs : List Str) : ((xs.map D.str).filter fun d => match d with
    | .str x => p x
    | _ => false) = (xs.filter p).map D.str := by
  induction xs with
  | nil => rfl
  | cons x xs ih =>
    simp only [List.map_cons, List.filter_cons, ih]
    cases p x <;> rfl
theorem aOp_cc {f : O → O → Option O} {a b : D} {w : O} (h : f (.sh a) (.sh b) = some w) : aOp [.ex (aC a), .ex (aC b)] (l2 f) = fun ρ => .ok w ρ := by
  funext ρ
  simp [aOp, evA, aC, Res.bind, rsv, l2, h]
theorem g106 : gPow (.sh (.int 10)) (.sh (.int 6)) = some (.sh (.int 1000000)) := by simp [gPow]
theorem g1018 : gPow (.sh (.int 10)) (.sh (.int 18)) = some (.sh (.int 1000000000000000000)) := by simp [gPow]
theorem set_same {ρ : Store} {i : Nat} (h : ρ[i]? = some none) : ρ.set i none = ρ := by
  apply List.ext_getElem?
  intro j
  by_cases e : i = j
  · subst e
    rw [List.getElem?_set_self', h]
    rfl
  · rw [List.getElem?_set_ne e]
theorem aLc_filter {src : aI} {i : Nat} {tt : aT} {ge : aE} {ρ : Store} {ds : List D} (p : D → Bool) (f : D → D) (hs : src ρ = .ok ds ρ) (hl : ds.length ≤ 16000000) (hi : ρ[i]? = some none)
    (h : ∀ d ∈ ds, ∃ ρ1, tt (ρ.set i (some (.sh d))) = .ok (p d) ρ1 ∧ (p d = false → ρ1.set i none = ρ) ∧ (p d = true → ∃ o ρ', ge ρ1 = .ok o ρ' ∧ fz o = f d ∧ ρ'.set i none = ρ)) :
    aLc src [i] (aN i) tt ge ρ = .ok (.lst (((ds.filter p).map f).map O.sh)) ρ := by
  have w : wipeS ρ [i] = ρ := set_same hi
  unfold aLc
  rw [hs]
  simp only [Res.bind]
  rw [if_pos hl, w, lcL_filter p f (List.getElem?_eq_some_iff.mp hi).1 w h]
  simp only [restS, wipeS, hi, Option.join, Option.bind, id]
  rw [set_same hi]
theorem aLc_map {src : aI} {i : Nat} {ge : aE} {ρ : Store} {ds : List D} (f : D → D) (hs : src ρ = .ok ds ρ) (hl : ds.length ≤ 16000000) (hi : ρ[i]? = some none)
    (h : ∀ d ∈ ds, ∃ o ρ', ge (ρ.set i (some (.sh d))) = .ok o ρ' ∧ fz o = f d ∧ ρ'.set i none = ρ) : aLc src [i] (aN i) aYes ge ρ = .ok (.lst ((ds.map f).map O.sh)) ρ := by
  have w : wipeS ρ [i] = ρ := set_same hi
  unfold aLc
  rw [hs]
  simp only [Res.bind]
  rw [if_pos hl, w, lcL_map f (List.getElem?_eq_some_iff.mp hi).1 w h]
  simp only [restS, wipeS, hi, Option.join, Option.bind, id]
  rw [set_same hi]
theorem aLc_fS {src : aI} {i : Nat} {tt : aT} {ge : aE} {ρ : Store} {xs : List Str} (p : Str → Bool) (hs : src ρ = .ok (xs.map D.str) ρ) (hl : xs.length ≤ 16000000) (hi : ρ[i]? = some none)
    (ht : ∀ y ∈ xs, tt (ρ.set i (some (.sh (.str y)))) = .ok (p y) (ρ.set i (some (.sh (.str y))))) (he : ∀ y ∈ xs, ge (ρ.set i (some (.sh (.str y)))) = .ok (.sh (.str y)) (ρ.set i (some (.sh (.str y))))) :
    aLc src [i] (aN i) tt ge ρ = .ok (oS (xs.filter p)) ρ := by
  have b : ∀ y : Str, (ρ.set i (some (.sh (.str y)))).set i none = ρ := fun y => by rw [List.set_set]; exact set_same hi
  have z := aLc_filter (src := src) (i := i) (tt := tt) (ge := ge) (ρ := ρ) (ds := xs.map D.str) (fun d => match d with
    | .str x => p x
    | _ => false) id hs (by rw [List.length_map]; exact hl) hi (fun d hd => by
      obtain ⟨y, hy, rfl⟩ := List.mem_map.mp hd
      exact ⟨_, ht y hy, fun _ => b y, fun _ => ⟨_, _, he y hy, rfl, b y⟩⟩)
  rw [z, filter_map_str, List.map_id]
  rfl
theorem aLc_mI {src : aI} {i : Nat} {ge : aE} {ρ : Store} {ds : List D} (f : D → Int) (hs : src ρ = .ok ds ρ) (hl : ds.length ≤ 16000000) (hi : ρ[i]? = some none)
    (he : ∀ d ∈ ds, ge (ρ.set i (some (.sh d))) = .ok (.sh (.int (f d))) (ρ.set i (some (.sh d)))) : aLc src [i] (aN i) aYes ge ρ = .ok (oI (ds.map f)) ρ := by
  have z := aLc_map (src := src) (i := i) (ge := ge) (ρ := ρ) (ds := ds) (fun d => .int (f d)) hs hl hi (fun d hd => ⟨_, _, he d hd, rfl, by rw [List.set_set]; exact set_same hi⟩)
  rw [z, oI, List.map_map (f := f)]
  rfl
theorem filter_map_int (p : Int → Bool) (xs : List Int) : ((xs.map D.int).filter fun d => match d with
    | .int x => p x
    | _ => false) = (xs.filter p).map D.int := by
  induction xs with
  | nil => rfl
  | cons x xs ih =>
    simp only [List.map_cons, List.filter_cons, ih]
    cases p x <;> rfl
theorem aLc_fI {src : aI} {i : Nat} {tt : aT} {ge : aE} {ρ : Store} {xs : List Int} (p : Int → Bool) (hs : src ρ = .ok (xs.map D.int) ρ) (hl : xs.length ≤ 16000000) (hi : ρ[i]? = some none)
    (ht : ∀ y ∈ xs, tt (ρ.set i (some (.sh (.int y)))) = .ok (p y) (ρ.set i (some (.sh (.int y))))) (he : ∀ y ∈ xs, ge (ρ.set i (some (.sh (.int y)))) = .ok (.sh (.int y)) (ρ.set i (some (.sh (.int y))))) :
    aLc src [i] (aN i) tt ge ρ = .ok (oI (xs.filter p)) ρ := by
  have b : ∀ y : Int, (ρ.set i (some (.sh (.int y)))).set i none = ρ := fun y => by rw [List.set_set]; exact set_same hi
  have z := aLc_filter (src := src) (i := i) (tt := tt) (ge := ge) (ρ := ρ) (ds := xs.map D.int) (fun d => match d with
    | .int x => p x
    | _ => false) id hs (by rw [List.length_map]; exact hl) hi (fun d hd => by
      obtain ⟨y, hy, rfl⟩ := List.mem_map.mp hd
      exact ⟨_, ht y hy, fun _ => b y, fun _ => ⟨_, _, he y hy, rfl, b y⟩⟩)
  rw [z, filter_map_int, List.map_id]
  rfl
end Den
end
section
open PySem L2 PySem.Spec PyProof.Rows Den
namespace Lw
def top (i : Nat) : Stmt := PySem.Challenge.pw_keepersnotes_k04_whole_broken_sentences.main.body.getD i (.Pass ⟨0, 0, 0, 0⟩)
theorem room65 {k : Nat} {A : Around} (r : Room k A) : A.units + 65 < cLine := by have := r.un; omega
theorem b_any : bootBuiltins "any" = some (.builtin "any") := by decide +kernel
theorem b_all : bootBuiltins "all" = some (.builtin "all") := by decide +kernel
theorem b_sorted : bootBuiltins "sorted" = some (.builtin "sorted") := by decide +kernel
theorem b_sum : bootBuiltins "sum" = some (.builtin "sum") := by decide +kernel
theorem b_min : bootBuiltins "min" = some (.builtin "min") := by decide +kernel
theorem b_max : bootBuiltins "max" = some (.builtin "max") := by decide +kernel
theorem b_isinstance : bootBuiltins "isinstance" = some (.builtin "isinstance") := by decide +kernel
def c_JOINTS : D := .tup [.str "and", .str "or"]
noncomputable def b_plain_of (rec : aF) : aF := aDef [true] 3
    (sSeq (sIf (aB (aOp [.ex (aOp [.pl 0, .ex (aC (.int 0))] (l2 gIx)), .ex (aC c_JOINTS)] (l2 gIn))) (sRet (aLc2 (aItems (aFz (aOp [.pl 0, .ex (aC (.int 1))] (l2 gIx)))) [1, 2] [2] (aN 1) aYes (aItems (aFz (aCall 1 [.pl 1] [] rec))) (aN 2) aYes (aVar 2))) sNext)
    (sRet (aOp [.ex (aVar 0)] gLstS)))
noncomputable def d_plain_of : Nat → aF
  | 0 => fun _ => .stuck
  | n + 1 => b_plain_of (d_plain_of n)
noncomputable def d_overlap : aF := aDef [true, true] 3
    (sSeq (sFor (aRngD (.ex (aOp [.ex (aOp [.pl 0] (l1 gLen)), .ex (aOp [.pl 1] (l1 gLen))] (l2 gMin2))) (.ex (aC (.int 0)))) (aN 2) (sIf (aB (aOp [.ex (aSl (.pl 1) (some (aOp [.ex (aOp [.pl 1] (l1 gLen)), .pl 2] (l2 gSub))) none gSl), .ex (aSl (.pl 0) none (some (aVar 2)) gSl)] (l2 gEq))) (sRet (aMove 2)) sNext))
    (sRet (aC (.int 0))))
noncomputable def d_stretched : aF := aDef [true, true, true] 3
    (sRet (aIfE (aB (aOp [.pl 1, .ex (aOp [.pl 0] (l1 gLen))] (l2 gEq))) (aVar 1) (aCall 2 [.pl 0, .ex (aOp [.ex (aSl (.pl 0) none (some (aVar 1)) gSl), .ex (aOp [.ex (aVar 2)] gTup)] (l2 gAdd))] [] (d_overlap))))
noncomputable def d_counted : aF := aDef [true, true, true] 5
    (sSeq (sPar 3 4 (aOp [.pl 0, .ex (aC (.int 0))] (l2 gIx)) (aOp [.pl 0, .ex (aC (.int 1))] (l2 gIx)))
    (sSeq (sIf (aB (aOp [.pl 1, .ex (aOp [.pl 4, .ex (aC (.int 1))] (l2 gAdd))] (l2 gEq))) (sRet (aVar 1)) sNext)
    (sSeq (sIf (aB (aOp [.pl 3, .ex (aC (.str "most"))] (l2 gEq))) (sRet (aIfE (aB (aOp [.pl 2, .ex (aOp [.pl 0, .ex (aC (.int 2))] (l2 gIx))] (l2 gEq))) (aOp [.pl 1, .ex (aC (.int 1))] (l2 gAdd)) (aIfE (aB (aOp [.pl 2, .ex (aOp [.pl 0, .ex (aC (.int 3))] (l2 gIx))] (l2 gIn))) (aC (.int 0)) (aVar 1)))) sNext)
    (sSeq (sIf (aB (aOp [.pl 2, .ex (aOp [.pl 0, .ex (aC (.int 3))] (l2 gIx))] (l2 gEq))) (sRet (aC (.int 0))) sNext)
    (sRet (aIfE (aOr (aB (aOp [.pl 1, .ex (aC (.int 0))] (l2 gGt))) (aB (aOp [.pl 2, .ex (aOp [.pl 0, .ex (aC (.int 2))] (l2 gIx))] (l2 gEq)))) (aOp [.pl 1, .ex (aC (.int 1))] (l2 gAdd)) (aC (.int 0))))))))
noncomputable def d_behind_mind : aF := aDef [true, true, true] 4
    (sSeq (sSet 3 (aOp [.pl 0, .ex (aC (.int 0))] (l2 gIx)))
    (sSeq (sIf (aB (aOp [.pl 3, .ex (aC (.str "never"))] (l2 gEq))) (sRet (aCall 3 [.ex (aOp [.pl 0, .ex (aC (.int 1))] (l2 gIx)), .pl 1, .pl 2] [] (d_stretched))) sNext)
    (sSeq (sIf (aB (aOp [.pl 3, .ex (aOp [.ex (aC (.str "most")), .ex (aC (.str "within"))] gTup)] (l2 gIn))) (sRet (aCall 3 [.pl 0, .pl 1, .pl 2] [] (d_counted))) sNext)
    (sSeq (sIf (aB (aOp [.pl 3, .ex (aC (.str "until"))] (l2 gEq))) (sSeq (sIf (aOr (aB (aOp [.pl 1, .ex (aOp [.ex (aOp [.pl 0, .ex (aC (.int 2))] (l2 gIx))] (l1 gLen))] (l2 gEq))) (aB (aOp [.pl 1, .ex (aC (.int 0))] (l2 gLt)))) (sRet (aVar 1)) sNext)
    (sRet (aIfE (aB (aOp [.pl 2, .ex (aOp [.pl 0, .ex (aC (.int 1))] (l2 gIx))] (l2 gEq))) (aOp [.ex (aC (.int 1))] (l1 gNeg)) (aCall 3 [.ex (aOp [.pl 0, .ex (aC (.int 2))] (l2 gIx)), .pl 1, .pl 2] [] (d_stretched))))) sNext)
    (sSeq (sIf (aOr (aB (aOp [.pl 2, .ex (aSl (.pl 0) (some (aC (.int 1))) none gSl)] (l2 gNotIn))) (aB (aOp [.pl 1, .ex (aC (.int 2))] (l2 gEq)))) (sRet (aVar 1)) sNext)
    (sSeq (sIf (aB (aOp [.pl 3, .ex (aC (.str "after"))] (l2 gEq))) (sRet (aIfE (aOr (aB (aOp [.pl 1, .ex (aC (.int 1))] (l2 gEq))) (aB (aOp [.pl 2, .ex (aOp [.pl 0, .ex (aC (.int 1))] (l2 gIx))] (l2 gEq)))) (aC (.int 1)) (aC (.int 2)))) sNext)
    (sRet (aIfE (aB (aOp [.pl 2, .ex (aOp [.pl 0, .ex (aOp [.ex (aC (.int 1)), .pl 1] (l2 gAdd))] (l2 gIx))] (l2 gEq))) (aOp [.ex (aC (.int 1)), .pl 1] (l2 gSub)) (aC (.int 2))))))))))
noncomputable def d_end_mind : aF := aDef [true] 2
    (sSeq (sSet 1 (aOp [.pl 0, .ex (aC (.int 0))] (l2 gIx)))
    (sSeq (sIf (aB (aOp [.pl 1, .ex (aOp [.ex (aC (.str "never")), .ex (aC (.str "until"))] gTup)] (l2 gIn))) (sRet (aOp [.ex (aOp [.pl 0, .ex (aOp [.ex (aC (.int 1))] (l1 gNeg))] (l2 gIx))] (l1 gLen))) sNext)
    (sRet (aIfE (aB (aOp [.pl 1, .ex (aOp [.ex (aC (.str "most")), .ex (aC (.str "within"))] gTup)] (l2 gIn))) (aOp [.ex (aOp [.pl 0, .ex (aC (.int 1))] (l2 gIx)), .ex (aC (.int 1))] (l2 gAdd)) (aC (.int 2))))))
noncomputable def b_breaks (rec : aF) : aF := aDef [true, true] 4
    (sSeq (sIf (aB (aOp [.ex (aOp [.pl 0, .ex (aC (.int 0))] (l2 gIx)), .ex (aC c_JOINTS)] (l2 gNotIn))) (sRet (aOp [.ex (aMeth "list" 1 [.ex (aC (.int 0))] fPopAt), .ex (aCall 1 [.pl 0] [] (d_end_mind))] (l2 gEq))) sNext)
    (sSeq (sSet 2 (aLc (aItems (aFz (aOp [.pl 0, .ex (aC (.int 1))] (l2 gIx)))) [3] (aN 3) aYes (aCall 2 [.pl 3, .pl 1] [] rec)))
    (sRet (aIfE (aB (aOp [.ex (aOp [.pl 0, .ex (aC (.int 0))] (l2 gIx)), .ex (aC (.str "and"))] (l2 gEq))) (aOp [.pl 2] (l1 gAny)) (aOp [.pl 2] (l1 gAll))))))
noncomputable def d_breaks : Nat → aF
  | 0 => fun _ => .stuck
  | n + 1 => b_breaks (d_breaks n)
noncomputable def d_broken_at : aF := aDef [true, true] 7
    (sSeq (sSet 2 (aCall 1 [.pl 0] [] (d_plain_of 8)))
    (sSeq (sAsg (aOp [.ex (aFz (aLc (aItems (aVar 2)) [5] (aN 5) aYes (aC (.int 0)))), .ex (aC (.int 0))] gTup) (aUnp [(aN 3), (aN 4)]))
    (sSeq (sWhile (aNot (aB (aCall 2 [.pl 0, .ex (aOp [.pl 3] (l1 gList))] [] (d_breaks 8)))) (sSeq (sIf (aB (aOp [.pl 4, .ex (aOp [.pl 1] (l1 gLen))] (l2 gEq))) (sRet (aC .non)) sNext)
    (sSeq (sSet 3 (aLc (aZip (aVar 2) (aVar 3)) [5, 6] (aUnp [(aN 5), (aN 6)]) aYes (aCall 3 [.pl 5, .pl 6, .ex (aOp [.pl 1, .pl 4] (l2 gIx))] [] (d_behind_mind))))
    (sAug 4 (aC (.int 1)) gAddI))))
    (sRet (aMove 4)))))
noncomputable def d_is_broken : aF := aDef [true, true] 2
    (sRet (aOp [.ex (aCall 2 [.pl 0, .pl 1] [] (d_broken_at))] (l1 gNotN)))
noncomputable def d__law_pen : aF := aDef [true] 3
    (sSeq (sSet 1 (aC (.int 11)))
    (sSeq (sFor (aItems (aVar 0)) (aN 2) (sSet 1 (aOp [.ex (aOp [.ex (aOp [.ex (aOp [.pl 1, .ex (aC (.int 101))] (l2 gMul)), .pl 2] (l2 gAdd))] (l1 gInt)), .ex (aC (.int 1000000241))] (l2 gMod))))
    (sRet (aDisp [.ex (aFz (aC (.str "cells"))), .ex (aFz (aOp [.pl 0] (l1 gList))), .ex (aFz (aC (.str "at"))), .ex (aFz (aC (.int 0))), .ex (aFz (aC (.str "digits"))), .ex (aFz (aC (.int 0))), .ex (aFz (aC (.str "count"))), .ex (aFz (aC (.int 0))), .ex (aFz (aC (.str "fold"))), .ex (aFz (aVar 1))]))))
noncomputable def d__law_draw : aF := aDef [true, true] 5
    (sSeq (sSub 0 (aOp [.ex (aOp [.pl 0, .ex (aC (.str "count"))] (l2 gIx)), .ex (aC (.int 1))] (l2 gAdd)) (aC (.str "count")))
    (sSeq (sIf (aAnd (aB (aOp [.ex (aOp [.pl 0, .ex (aC (.str "digits"))] (l2 gIx)), .ex (aC (.int 0))] (l2 gEq))) (aB (aOp [.ex (aOp [.pl 0, .ex (aC (.str "at"))] (l2 gIx)), .ex (aOp [.ex (aOp [.pl 0, .ex (aC (.str "cells"))] (l2 gIx))] (l1 gLen))] (l2 gLt)))) (sSeq (sSet 3 (aOp [.ex (aOp [.pl 0, .ex (aC (.str "cells"))] (l2 gIx)), .ex (aOp [.pl 0, .ex (aC (.str "at"))] (l2 gIx))] (l2 gIx)))
    (sSeq (sSub 0 (aOp [.ex (aOp [.pl 0, .ex (aC (.str "at"))] (l2 gIx)), .ex (aC (.int 1))] (l2 gAdd)) (aC (.str "at")))
    (sIf (aB (aOp [.pl 3, .ex (aOp [.ex (aC (.int 10)), .ex (aC (.int 18))] (l2 gPow))] (l2 gGe))) (sSub 0 (aOp [.pl 3, .ex (aOp [.ex (aC (.int 10)), .ex (aC (.int 18))] (l2 gPow))] (l2 gSub)) (aC (.str "digits"))) (sSub 0 (aOp [.ex (aOp [.ex (aOp [.ex (aOp [.ex (aOp [.pl 0, .ex (aC (.str "fold"))] (l2 gIx)), .ex (aC (.int 70009))] (l2 gMul)), .pl 3] (l2 gAdd))] (l1 gInt)), .ex (aC (.int 2147483477))] (l2 gMod)) (aC (.str "fold")))))) sNext)
    (sSeq (sIf (aB (aOp [.ex (aOp [.pl 0, .ex (aC (.str "digits"))] (l2 gIx)), .ex (aC (.int 0))] (l2 gGt))) (sSeq (sSet 4 (aOp [.ex (aOp [.ex (aOp [.pl 0, .ex (aC (.str "digits"))] (l2 gIx))] (l1 gInt)), .pl 1] (l2 gMod)))
    (sSeq (sSub 0 (aOp [.ex (aOp [.pl 0, .ex (aC (.str "digits"))] (l2 gIx)), .pl 1] (l2 gFdiv)) (aC (.str "digits")))
    (sRet (aMove 4)))) sNext)
    (sSeq (sSet 2 (aOp [.ex (aOp [.ex (aOp [.pl 0, .ex (aC (.str "fold"))] (l2 gIx)), .ex (aOp [.ex (aOp [.pl 0, .ex (aC (.str "count"))] (l2 gIx)), .ex (aC (.int 8069))] (l2 gMul))] (l2 gAdd)), .ex (aC (.int 41))] (l2 gAdd)))
    (sRet (aOp [.ex (aOp [.ex (aOp [.ex (aOp [.ex (aOp [.pl 2, .ex (aC (.int 17))] (l2 gPow)), .ex (aC (.int 2305843009213693951))] (l2 gMod))] (l1 gInt)), .ex (aC (.int 128))] (l2 gFdiv)), .pl 1] (l2 gMod)))))))
noncomputable def d__law_pick : aF := aDef [true, true] 2
    (sRet (aOp [.pl 1, .ex (aCall 2 [.pl 0, .ex (aOp [.pl 1] (l1 gLen))] [] (d__law_draw))] (l2 gIx)))
noncomputable def d__law_shuffled : aF := aDef [true, true] 5
    (sSeq (sPar 3 4 (aOp [.pl 1] (l1 gList)) (aOp [] gLstS))
    (sSeq (sFor (aRng1 (aOp [.pl 1] (l1 gLen))) (aN 2) (sDrop (aMeth "list" 4 [.ex (aFz (aMeth "list" 3 [.ex (aFz (aCall 2 [.pl 0, .ex (aOp [.pl 3] (l1 gLen))] [] (d__law_draw)))] fPopAt))] fAppend)))
    (sRet (aMove 4))))
noncomputable def d__law_some : aF := aDef [true, true, true] 3
    (sRet (aSl (.ex (aCall 2 [.pl 0, .pl 1] [] (d__law_shuffled))) none (some (aCall 2 [.pl 0, .ex (aOp [.ex (aOp [.pl 2, .ex (aOp [.pl 1] (l1 gLen))] (l2 gMin2)), .ex (aC (.int 1))] (l2 gAdd))] [] (d__law_draw))) gSl))
noncomputable def d__law_name : aF := aDef [true, true] 5
    (sSeq (sSet 2 (aC (.str "")))
    (sSeq (sFor (aRng1 (aOp [.ex (aC (.int 1)), .ex (aCall 2 [.pl 0, .ex (aC (.int 8))] [] (d__law_draw))] (l2 gAdd))) (aN 3) (sSet 2 (aOp [.pl 2, .ex (aOp [.ex (aC (.str "abcdefghijklmnopqrstuvwxyz")), .ex (aCall 2 [.pl 0, .ex (aC (.int 26))] [] (d__law_draw))] (l2 gIx))] (l2 gAdd))))
    (sSeq (sSet 4 (aOp [.ex (aC (.int 1)), .ex (aCall 2 [.pl 0, .ex (aOp [.pl 2] (l1 gLen))] [] (d__law_draw))] (l2 gAdd)))
    (sRet (aOp [.ex (aOp [.ex (aSl (.pl 2) none (some (aVar 4)) gSl), .ex (aOp [.pl 1] (l1 gStr))] (l2 gAdd)), .ex (aSl (.pl 2) (some (aVar 4)) none gSl)] (l2 gAdd))))))
noncomputable def d__law_names : aF := aDef [true, true] 3
    (sRet (aCall 2 [.pl 0, .ex (aLc (aRng1 (aVar 1)) [2] (aN 2) aYes (aCall 2 [.pl 0, .pl 2] [] (d__law_name)))] [] (d__law_shuffled)))
noncomputable def b__law_same (rec : aF) : aF := aDef [true, true] 4
    (sSeq (sIf (aB (aOp [.pl 1] (l1 (gIsi "tuple")))) (sRet (aAndV (aB (aOp [.pl 0] (l1 (gIsi "tuple")))) (aAndV (aB (aOp [.ex (aOp [.pl 0] (l1 gLen)), .ex (aOp [.pl 1] (l1 gLen))] (l2 gEq))) (aOp [.ex (aLc (aZip (aVar 0) (aVar 1)) [2, 3] (aUnp [(aN 2), (aN 3)]) aYes (aCall 2 [.pl 2, .pl 3] [] rec))] (l1 gAll))))) sNext)
    (sSeq (sIf (aB (aOp [.pl 1] (l1 gIsN))) (sRet (aOp [.pl 0] (l1 gIsN))) sNext)
    (sSeq (sIf (aB (aOp [.pl 1] (l1 (gIsB true)))) (sRet (aOp [.pl 0] (l1 (gIsB true)))) sNext)
    (sSeq (sIf (aB (aOp [.pl 1] (l1 (gIsB false)))) (sRet (aOp [.pl 0] (l1 (gIsB false)))) sNext)
    (sSeq (sIf (aB (aOp [.pl 1] (l1 (gIsi "int")))) (sRet (aAndV (aB (aOp [.pl 0] (l1 (gIsi "int")))) (aAndV (aB (aTV (aNot (aB (aOp [.pl 0] (l1 (gIsi "bool"))))))) (aOp [.pl 0, .pl 1] (l2 gEq))))) sNext)
    (sRet (aAndV (aB (aOp [.pl 0] (l1 (gIsi "str")))) (aOp [.pl 0, .pl 1] (l2 gEq)))))))))
noncomputable def d__law_same : Nat → aF
  | 0 => fun _ => .stuck
  | n + 1 => b__law_same (d__law_same n)
noncomputable def d__law_calls : aF := aDef [true, true] 2
    (sRet (aOp [.ex (aOp [.ex (aCall 2 [.pl 0, .pl 1] [] (d__law_names))] (l1 gSortedS))] (l1 gTuple)))
noncomputable def d__law_some_word : aF := aDef [true, true, true] 4
    (sRet (aOp [.ex (aLc (aRng1 (aCall 2 [.pl 0, .ex (aOp [.pl 2, .ex (aC (.int 1))] (l2 gAdd))] [] (d__law_draw))) [3] (aN 3) aYes (aCall 2 [.pl 0, .pl 1] [] (d__law_pick)))] (l1 gTuple)))
noncomputable def d__law_words_to : aF := aDef [true, true] 8
    (sSeq (sPar 3 4 (aOp [.ex (aFz (aOp [] gTup))] gLstS) (aOp [.ex (aFz (aOp [] gTup))] gLstS))
    (sSeq (sFor (aRng1 (aVar 1)) (aN 2) (sSeq (sSet 5 (aOp [] gLstS))
    (sSeq (sFor (aItems (aVar 4)) (aN 6) (sSet 5 (aOp [.pl 5, .ex (aLc (aItems (aVar 0)) [7] (aN 7) aYes (aOp [.pl 6, .ex (aOp [.ex (aVar 7)] gTup)] (l2 gAdd)))] (l2 gAdd))))
    (sPar 3 4 (aOp [.pl 3, .pl 5] (l2 gAdd)) (aVar 5)))))
    (sRet (aMove 3))))
noncomputable def d__law_some_plain : aF := aDef [true, true] 9
    (sSeq (sSet 2 (aIfE (aB (aOp [.ex (aOp [.pl 1] (l1 gLen)), .ex (aC (.int 1))] (l2 gGt))) (aCall 2 [.pl 0, .ex (aC (.int 6))] [] (d__law_draw)) (aCall 2 [.pl 0, .ex (aOp [.ex (aC (.int 0)), .ex (aC (.int 4))] gLstS)] [] (d__law_pick))))
    (sSeq (sAsg (aIfE (aB (aOp [.ex (aOp [.pl 1] (l1 gLen)), .ex (aC (.int 1))] (l2 gGt))) (aSl (.ex (aCall 2 [.pl 0, .pl 1] [] (d__law_shuffled))) none (some (aC (.int 2))) gSl) (aOp [.ex (aFz (aOp [.pl 1, .ex (aC (.int 0))] (l2 gIx))), .ex (aC .non)] gTup)) (aUnp [(aN 5), (aN 6)]))
    (sSeq (sSet 3 (aLc (aItems (aVar 1)) [7] (aN 7) (aB (aOp [.pl 7, .pl 5] (l2 gNe))) (aVar 7)))
    (sSeq (sSet 4 (aOp [.ex (aC (.int 1)), .ex (aCall 2 [.pl 0, .ex (aCall 2 [.pl 0, .ex (aOp [.ex (aC (.int 2)), .ex (aC (.int 3)), .ex (aC (.int 6))] gLstS)] [] (d__law_pick))] [] (d__law_draw))] (l2 gAdd)))
    (sSeq (sIf (aB (aOp [.pl 2, .ex (aC (.int 0))] (l2 gEq))) (sRet (aOp [.ex (aC (.str "never")), .ex (aFz (aOp [.ex (aLc (aRng1 (aOp [.ex (aC (.int 1)), .ex (aCall 2 [.pl 0, .ex (aCall 2 [.pl 0, .ex (aOp [.ex (aC (.int 2)), .ex (aC (.int 3)), .ex (aC (.int 5))] gLstS)] [] (d__law_pick))] [] (d__law_draw))] (l2 gAdd))) [8] (aN 8) aYes (aCall 2 [.pl 0, .pl 1] [] (d__law_pick)))] (l1 gTuple)))] gTup)) sNext)
    (sSeq (sIf (aB (aOp [.pl 2, .ex (aC (.int 1))] (l2 gEq))) (sRet (aOp [.ex (aC (.str "until")), .ex (aVar 5), .ex (aFz (aOp [.ex (aLc (aRng1 (aOp [.ex (aC (.int 1)), .ex (aCall 2 [.pl 0, .ex (aC (.int 3))] [] (d__law_draw))] (l2 gAdd))) [8] (aN 8) aYes (aCall 2 [.pl 0, .pl 3] [] (d__law_pick)))] (l1 gTuple)))] gTup)) sNext)
    (sSeq (sIf (aB (aOp [.pl 2, .ex (aC (.int 4))] (l2 gEq))) (sRet (aOp [.ex (aC (.str "most")), .ex (aVar 4), .ex (aVar 5), .ex (aFz (aOp [.ex (aOp [.ex (aCall 3 [.pl 0, .pl 3, .ex (aC (.int 3))] [] (d__law_some))] (l1 gSortedS))] (l1 gTuple)))] gTup)) sNext)
    (sRet (aOp [.ex (aOp [.ex (aC .non), .ex (aC .non), .ex (aFz (aOp [.ex (aC (.str "after")), .ex (aVar 5), .ex (aVar 6)] gTup)), .ex (aFz (aOp [.ex (aC (.str "turns")), .ex (aVar 5), .ex (aVar 6)] gTup)), .ex (aC .non), .ex (aFz (aOp [.ex (aC (.str "within")), .ex (aVar 4), .ex (aVar 5), .ex (aVar 6)] gTup))] gLstS), .pl 2] (l2 gIx))))))))))
noncomputable def b__law_some_sentence (rec : aF) : aF := aDef [true, true, true, true] 8
    (sSeq (sIf (aOr (aB (aOp [.pl 2, .ex (aC (.int 1))] (l2 gEq))) (aB (aOp [.pl 3, .ex (aC (.int 0))] (l2 gEq)))) (sSeq (sSet 4 (aLc (aRng1 (aOp [.pl 2, .ex (aC (.int 6))] (l2 gMin2))) [7] (aN 7) aYes (aCall 2 [.pl 0, .pl 1] [] (d__law_some_plain))))
    (sRet (aIfE (aB (aOp [.ex (aOp [.pl 4] (l1 gLen)), .ex (aC (.int 1))] (l2 gEq))) (aOp [.pl 4, .ex (aC (.int 0))] (l2 gIx)) (aOp [.ex (aFz (aCall 2 [.pl 0, .ex (aOp [.ex (aC (.str "and")), .ex (aC (.str "or"))] gLstS)] [] (d__law_pick))), .ex (aFz (aOp [.pl 4] (l1 gTuple)))] gTup)))) sNext)
    (sSeq (sPar 4 5 (aOp [] gLstS) (aVar 2))
    (sSeq (sWhile (aB (aOp [.pl 5, .ex (aC (.int 0))] (l2 gGt))) (sSeq (sSet 6 (aIfE (aB (aOp [.ex (aOp [.pl 4] (l1 gLen)), .ex (aC (.int 5))] (l2 gEq))) (aVar 5) (aOp [.ex (aC (.int 1)), .ex (aCall 2 [.pl 0, .ex (aIfE (aB (aOp [.pl 4, .ex (aOp [] gLstS)] (l2 gNe))) (aVar 5) (aOp [.pl 5, .ex (aC (.int 1))] (l2 gSub)))] [] (d__law_draw))] (l2 gAdd))))
    (sSeq (sDrop (aMeth "list" 4 [.ex (aFz (aCall 4 [.pl 0, .pl 1, .pl 6, .ex (aOp [.pl 3, .ex (aC (.int 1))] (l2 gSub))] [] rec))] fAppend))
    (sSet 5 (aOp [.pl 5, .pl 6] (l2 gSub))))))
    (sRet (aOp [.ex (aFz (aCall 2 [.pl 0, .ex (aOp [.ex (aC (.str "and")), .ex (aC (.str "or"))] gLstS)] [] (d__law_pick))), .ex (aFz (aOp [.pl 4] (l1 gTuple)))] gTup)))))
noncomputable def d__law_some_sentence : Nat → aF
  | 0 => fun _ => .stuck
  | n + 1 => b__law_some_sentence (d__law_some_sentence n)
noncomputable def d__law_ends_so : aF := aDef [true, true] 2
    (sRet (aAndV (aB (aOp [.ex (aOp [.pl 0] (l1 gLen)), .ex (aOp [.pl 1] (l1 gLen))] (l2 gGe))) (aOp [.ex (aSl (.pl 0) (some (aOp [.ex (aOp [.pl 0] (l1 gLen)), .ex (aOp [.pl 1] (l1 gLen))] (l2 gSub))) none gSl), .pl 1] (l2 gEq))))
noncomputable def d__law_fresh_break : aF := aDef [true, true] 10
    (sSeq (sPar 3 4 (aOp [.pl 0, .ex (aC (.int 0))] (l2 gIx)) (aOp [.ex (aOp [.pl 1] (l1 gLen)), .ex (aC (.int 1))] (l2 gSub)))
    (sSeq (sIf (aB (aOp [.pl 3, .ex (aC (.str "never"))] (l2 gEq))) (sRet (aCall 2 [.pl 1, .ex (aOp [.pl 0, .ex (aC (.int 1))] (l2 gIx))] [] (d__law_ends_so))) sNext)
    (sSeq (sIf (aB (aOp [.pl 3, .ex (aC (.str "until"))] (l2 gEq))) (sRet (aAndV (aB (aCall 2 [.pl 1, .ex (aOp [.pl 0, .ex (aC (.int 2))] (l2 gIx))] [] (d__law_ends_so))) (aOp [.ex (aOp [.pl 0, .ex (aC (.int 1))] (l2 gIx)), .pl 1] (l2 gNotIn)))) sNext)
    (sSeq (sIf (aB (aOp [.pl 3, .ex (aC (.str "after"))] (l2 gEq))) (sRet (aAndV (aB (aOp [.ex (aOp [.pl 1, .pl 4] (l2 gIx)), .ex (aOp [.pl 0, .ex (aC (.int 2))] (l2 gIx))] (l2 gEq))) (aOp [.ex (aOp [.pl 0, .ex (aC (.int 1))] (l2 gIx)), .ex (aSl (.pl 1) none (some (aVar 4)) gSl)] (l2 gNotIn)))) sNext)
    (sSeq (sIf (aB (aOp [.pl 3, .ex (aC (.str "turns"))] (l2 gEq))) (sSeq (sSet 5 (aLc (aItems (aVar 1)) [8] (aN 8) (aB (aOp [.pl 8, .ex (aSl (.pl 0) (some (aC (.int 1))) none gSl)] (l2 gIn))) (aVar 8)))
    (sRet (aAndV (aB (aOp [.ex (aOp [.pl 1, .pl 4] (l2 gIx)), .ex (aSl (.pl 0) (some (aC (.int 1))) none gSl)] (l2 gIn))) (aOrV (aB (aOp [.ex (aSl (.pl 5) (some (aOp [.ex (aC (.int 2))] (l1 gNeg))) none gSl), .ex (aOp [.ex (aOp [.ex (aFz (aOp [.pl 1, .pl 4] (l2 gIx)))] gLstS), .ex (aC (.int 2))] (l2 gMul))] (l2 gEq))) (aOp [.pl 5, .ex (aOp [.ex (aFz (aOp [.pl 0, .ex (aC (.int 2))] (l2 gIx)))] gLstS)] (l2 gEq)))))) sNext)
    (sSeq (sIf (aB (aOp [.pl 3, .ex (aC (.str "most"))] (l2 gEq))) (sSeq (sSet 6 (aLc (aRng1 (aOp [.pl 1] (l1 gLen))) [9] (aN 9) (aB (aOp [.ex (aOp [.pl 1, .pl 9] (l2 gIx)), .ex (aOp [.pl 0, .ex (aC (.int 3))] (l2 gIx))] (l2 gIn))) (aVar 9)))
    (sSeq (sSet 7 (aIfE (aB (aOp [.pl 6, .ex (aOp [] gLstS)] (l2 gNe))) (aSl (.pl 1) (some (aOp [.ex (aOp [.pl 6, .ex (aOp [.ex (aC (.int 1))] (l1 gNeg))] (l2 gIx)), .ex (aC (.int 1))] (l2 gAdd))) none gSl) (aVar 1)))
    (sRet (aAndV (aB (aOp [.ex (aOp [.pl 1, .pl 4] (l2 gIx)), .ex (aOp [.pl 0, .ex (aC (.int 2))] (l2 gIx))] (l2 gEq))) (aOp [.ex (aOp [.ex (aLc (aItems (aVar 7)) [8] (aN 8) (aB (aOp [.pl 8, .ex (aOp [.pl 0, .ex (aC (.int 2))] (l2 gIx))] (l2 gEq))) (aVar 8))] (l1 gLen)), .ex (aOp [.pl 0, .ex (aC (.int 1))] (l2 gIx))] (l2 gGt)))))) sNext)
    (sSeq (sSet 2 (aOp [.pl 4, .ex (aOp [.pl 0, .ex (aC (.int 1))] (l2 gIx))] (l2 gSub)))
    (sRet (aAndV (aB (aOp [.pl 2, .ex (aC (.int 0))] (l2 gGe))) (aAndV (aB (aOp [.ex (aOp [.pl 1, .pl 2] (l2 gIx)), .ex (aOp [.pl 0, .ex (aC (.int 2))] (l2 gIx))] (l2 gEq))) (aOp [.ex (aOp [.pl 0, .ex (aC (.int 3))] (l2 gIx)), .ex (aSl (.pl 1) (some (aOp [.pl 2, .ex (aC (.int 1))] (l2 gAdd))) none gSl)] (l2 gNotIn))))))))))))
noncomputable def d__law_plain_at : aF := aDef [true, true] 3
    (sSeq (sFor (aRng2 (.ex (aC (.int 1))) (.ex (aOp [.ex (aOp [.pl 1] (l1 gLen)), .ex (aC (.int 1))] (l2 gAdd)))) (aN 2) (sIf (aB (aCall 2 [.pl 0, .ex (aSl (.pl 1) none (some (aVar 2)) gSl)] [] (d__law_fresh_break))) (sRet (aMove 2)) sNext))
    (sRet (aOp [.ex (aC (.int 10)), .ex (aC (.int 6))] (l2 gPow))))
noncomputable def b__law_sentence_at (rec : aF) : aF := aDef [true, true] 4
    (sSeq (sIf (aB (aOp [.ex (aOp [.pl 0, .ex (aC (.int 0))] (l2 gIx)), .ex (aOp [.ex (aC (.str "and")), .ex (aC (.str "or"))] gLstS)] (l2 gNotIn))) (sRet (aCall 2 [.pl 0, .pl 1] [] (d__law_plain_at))) sNext)
    (sSeq (sSet 2 (aLc (aItems (aFz (aOp [.pl 0, .ex (aC (.int 1))] (l2 gIx)))) [3] (aN 3) aYes (aCall 2 [.pl 3, .pl 1] [] rec)))
    (sRet (aIfE (aB (aOp [.ex (aOp [.pl 0, .ex (aC (.int 0))] (l2 gIx)), .ex (aC (.str "and"))] (l2 gEq))) (aOp [.pl 2] (l1 gMinL)) (aOp [.pl 2] (l1 gMaxL))))))
noncomputable def d__law_sentence_at : Nat → aF
  | 0 => fun _ => .stuck
  | n + 1 => b__law_sentence_at (d__law_sentence_at n)
noncomputable def d_law : aF := aDef [true] 11
    (sSeq (sSet 1 (aCall 1 [.pl 0] [] (d__law_pen)))
    (sSeq (sFor (aRng1 (aC (.int 4))) (aN 2) (sSeq (sSet 4 (aCall 2 [.pl 1, .ex (aOp [.ex (aC (.int 1)), .ex (aCall 2 [.pl 1, .ex (aC (.int 4))] [] (d__law_draw))] (l2 gAdd))] [] (d__law_calls)))
    (sSeq (sSet 5 (aCall 4 [.pl 1, .pl 4, .ex (aCall 2 [.pl 1, .ex (aOp [.ex (aC (.int 1)), .ex (aC (.int 1)), .ex (aC (.int 2)), .ex (aC (.int 3)), .ex (aC (.int 5)), .ex (aC (.int 8))] gLstS)] [] (d__law_pick)), .ex (aOp [.ex (aC (.int 1)), .ex (aCall 2 [.pl 1, .ex (aC (.int 3))] [] (d__law_draw))] (l2 gAdd))] [] (d__law_some_sentence 8)))
    (sSeq (sSet 6 (aCall 2 [.pl 4, .ex (aIfE (aB (aOp [.ex (aOp [.pl 4] (l1 gLen)), .ex (aC (.int 3))] (l2 gLt))) (aC (.int 4)) (aC (.int 2)))] [] (d__law_words_to)))
    (sFor (aItems (aFz (aOp [.pl 6, .ex (aLc (aRng1 (aC (.int 10))) [10] (aN 10) aYes (aCall 3 [.pl 1, .ex (aOp [.pl 4, .ex (aOp [.ex (aC (.str "zz"))] gTup)] (l2 gAdd)), .ex (aC (.int 20))] [] (d__law_some_word)))] (l2 gAdd)))) (aN 7) (sSeq (sSet 8 (aCall 2 [.pl 5, .pl 7] [] (d__law_sentence_at 8)))
    (sSeq (sSet 9 (aIfE (aB (aOp [.pl 8, .ex (aOp [.ex (aC (.int 10)), .ex (aC (.int 6))] (l2 gPow))] (l2 gLt))) (aVar 8) (aC .non)))
    (sSeq (sIf (aNot (aB (aCall 2 [.ex (aOp [.ex (aFz (aCall 2 [.pl 5, .pl 7] [] (d_broken_at))), .ex (aFz (aCall 2 [.pl 5, .pl 7] [] (d_is_broken)))] gTup), .ex (aOp [.ex (aVar 9), .ex (aFz (aOp [.pl 9] (l1 gNotN)))] gTup)] [] (d__law_same 8)))) (sRet (aC (.bl false))) sNext)
    (sIf (aOr (aB (aOp [.ex (aCall 2 [.pl 5, .ex (aOp [.pl 7] (l1 gList))] [] (d_broken_at)), .pl 9] (l2 gNe))) (aAnd (aB (aOp [.pl 9] (l1 gNotN))) (aB (aOp [.ex (aCall 2 [.pl 5, .ex (aOp [.ex (aOp [.pl 7, .ex (aOp [.ex (aC (.str "zz"))] gTup)] (l2 gAdd)), .pl 4] (l2 gAdd))] [] (d_broken_at)), .pl 9] (l2 gNe))))) (sRet (aC (.bl false))) sNext)))))))))
    (sSeq (sSet 3 (aOp [.ex (aC (.str "or")), .ex (aFz (aOp [.ex (aFz (aOp [.ex (aC (.str "never")), .ex (aFz (aOp [.ex (aC (.str "c"))] gTup))] gTup)), .ex (aFz (aOp [.ex (aC (.str "until")), .ex (aC (.str "b")), .ex (aFz (aOp [.ex (aC (.str "a")), .ex (aC (.str "c"))] gTup))] gTup))] gTup))] gTup))
    (sRet (aOp [.ex (aLc (aItems (aFz (aOp [.ex (aFz (aOp [.ex (aC (.str "c"))] gTup)), .ex (aFz (aOp [.ex (aC (.str "c")), .ex (aC (.str "a")), .ex (aC (.str "c"))] gTup)), .ex (aFz (aOp [.ex (aC (.str "a")), .ex (aC (.str "c"))] gTup)), .ex (aFz (aOp [.ex (aC (.str "b")), .ex (aC (.str "a")), .ex (aC (.str "c"))] gTup))] gLstS))) [7] (aN 7) aYes (aCall 2 [.pl 3, .pl 7] [] (d_broken_at))), .ex (aOp [.ex (aC .non), .ex (aC (.int 3)), .ex (aC (.int 2)), .ex (aC .non)] gLstS)] (l2 gEq))))))
section
variable {Γ : Gb} {mg : Str → Option Value} {base : Heap}
abbrev s_plain_of : Stmt := top 2
theorem sc_plain_of : FnScope ["sentence", "part", "plain"] ["sentence"] (defScope s_plain_of) := ⟨rfl, rfl, rfl, by decide +kernel, rfl, by decide +kernel, by decide +kernel⟩
set_option maxHeartbeats 2000000 in
theorem ok_plain_of {n : Nat} {f : Addr} {fd : FuncData} (F : Fun Γ.K "plain_of" "plain_of" s_plain_of f fd)
    (C_plain_of : Cl Γ mg base (0 + n) "plain_of" 1 [] (d_plain_of n))
    {a_JOINTS : Addr} (g_JOINTS : GC Γ mg "JOINTS" (.ref a_JOINTS) c_JOINTS) :
    FnOk Γ.prog Γ.w Γ.K mg base (L2.CX Γ.prog Γ.w) (0 + n + 1) f fd ["sentence"] (spD Γ 1 (b_plain_of (d_plain_of n))) := by
  have S := sc_plain_of
  refine fn_def (pb := [true]) (m := 3) F S rfl rfl fun cdv A outer s H E hr tk hp => ?_
  exact ⟨_, (al_cons (as_if (at_cmp ok_in (or_in (room65 hr)) (ao_ex (ae_ix hr rfl (ao_pl 0) (ao_ex ae_int))) (ao_ex (ae_gc g_JOINTS))) (al_one (as_ret (ae_lc2 [("part", 1), ("plain", 2)] [2] S.nd (ai_any rfl (ae_fz (ae_ix hr rfl (ao_pl 0) (ao_ex ae_int)))) (fun _ _ _ _ _ => (ag_name 1 S.nd)) (fun _ _ _ _ _ => apt_nil) (fun _ _ _ _ _ => (ai_any rfl (ae_fz (ae_call rfl rfl rfl C_plain_of (hr.mono (Nat.le_refl _)) takes0 (aa_cons (ao_pl 1) aa_nil))))) (fun _ _ _ _ _ => (ag_name 2 S.nd)) (fun _ _ _ _ _ => apt_nil) (fun _ _ _ _ _ => (ae_var 2))))) al_nil)
      (al_one (as_ret (ae_lst (aa_cons (ao_ex (ae_var 0)) aa_nil)))))⟩
abbrev s_overlap : Stmt := top 3
theorem sc_overlap : FnScope ["row", "word", "many"] ["row", "word"] (defScope s_overlap) := ⟨rfl, rfl, rfl, by decide +kernel, rfl, by decide +kernel, by decide +kernel⟩
set_option maxHeartbeats 2000000 in
theorem ok_overlap {f : Addr} {fd : FuncData} (F : Fun Γ.K "overlap" "overlap" s_overlap f fd)
    (z_range : mg "range" = none)
    (z_len : mg "len" = none)
    (z_min : mg "min" = none) :
    FnOk Γ.prog Γ.w Γ.K mg base (L2.CX Γ.prog Γ.w) (0 + 1) f fd ["row", "word"] (spD Γ 2 (d_overlap)) := by
  have S := sc_overlap
  refine fn_def (pb := [true, true]) (m := 3) F S rfl rfl fun cdv A outer s H E hr tk hp => ?_
  exact ⟨_, (al_cons (as_for (vs := [2]) hp (ai_rngD z_range (ao_ex (ae_b2 ok_min2 (call_min2 rfl) z_min b_min (ao_ex (ae_b1 ok_len or_len z_len PySem.boot_len (ao_pl 0))) (ao_ex (ae_b1 ok_len or_len z_len PySem.boot_len (ao_pl 1))))) (ao_ex ae_int)) (ag_name 2 S.nd) (al_one (as_if (at_cmp ok_eq (or_eq hr.units) (ao_ex (ae_sl rfl (ao_pl 1) (ap_some (ae_bin ok_sub op_sub (ao_ex (ae_b1 ok_len or_len z_len PySem.boot_len (ao_pl 1))) (ao_pl 2))) ap_none)) (ao_ex (ae_sl rfl (ao_pl 0) ap_none (ap_some (ae_var 2))))) (al_one (as_ret (ae_move 2))) al_nil)))
      (al_one (as_ret ae_int)))⟩
abbrev s_stretched : Stmt := top 4
theorem sc_stretched : FnScope ["row", "mind", "call"] ["row", "mind", "call"] (defScope s_stretched) := ⟨rfl, rfl, rfl, by decide +kernel, rfl, by decide +kernel, by decide +kernel⟩
set_option maxHeartbeats 2000000 in
theorem ok_stretched {f : Addr} {fd : FuncData} (F : Fun Γ.K "stretched" "stretched" s_stretched f fd)
    (C_overlap : Cl Γ mg base 1 "overlap" 2 [] (d_overlap))
    (z_len : mg "len" = none) :
    FnOk Γ.prog Γ.w Γ.K mg base (L2.CX Γ.prog Γ.w) (1 + 1) f fd ["row", "mind", "call"] (spD Γ 3 (d_stretched)) := by
  have S := sc_stretched
  refine fn_def (pb := [true, true, true]) (m := 3) F S rfl rfl fun cdv A outer s H E hr tk hp => ?_
  exact ⟨_, (al_one (as_ret (ae_ifE (at_cmp ok_eq (or_eq hr.units) (ao_pl 1) (ao_ex (ae_b1 ok_len or_len z_len PySem.boot_len (ao_pl 0)))) (ae_var 1) (ae_call rfl rfl rfl C_overlap (hr.mono (by decide : 1 ≤ 1)) tk (aa_cons (ao_pl 0) (aa_cons (ao_ex (ae_bin ok_add or_add (ao_ex (ae_sl rfl (ao_pl 0) ap_none (ap_some (ae_var 1)))) (ao_ex (ae_tup (aa_cons (ao_ex (ae_var 2)) aa_nil))))) aa_nil))))))⟩
abbrev s_counted : Stmt := top 5
theorem sc_counted : FnScope ["plain", "mind", "call", "kind", "many"] ["plain", "mind", "call"] (defScope s_counted) := ⟨rfl, rfl, rfl, by decide +kernel, rfl, by decide +kernel, by decide +kernel⟩
set_option maxHeartbeats 2000000 in
theorem ok_counted {f : Addr} {fd : FuncData} (F : Fun Γ.K "counted" "counted" s_counted f fd) :
    FnOk Γ.prog Γ.w Γ.K mg base (L2.CX Γ.prog Γ.w) (0 + 1) f fd ["plain", "mind", "call"] (spD Γ 3 (d_counted)) := by
  have S := sc_counted
  refine fn_def (pb := [true, true, true]) (m := 5) F S rfl rfl fun cdv A outer s H E hr tk hp => ?_
  exact ⟨_, (al_cons (as_par 3 4 S.nd (ae_ix hr rfl (ao_pl 0) (ao_ex ae_int)) (ae_ix hr rfl (ao_pl 0) (ao_ex ae_int)))
      (al_cons (as_if (at_cmp ok_eq (or_eq hr.units) (ao_pl 1) (ao_ex (ae_bin ok_add or_add (ao_pl 4) (ao_ex ae_int)))) (al_one (as_ret (ae_var 1))) al_nil)
      (al_cons (as_if (at_cmp ok_eq (or_eq hr.units) (ao_pl 3) (ao_ex ae_str)) (al_one (as_ret (ae_ifE (at_cmp ok_eq (or_eq hr.units) (ao_pl 2) (ao_ex (ae_ix hr rfl (ao_pl 0) (ao_ex ae_int)))) (ae_bin ok_add or_add (ao_pl 1) (ao_ex ae_int)) (ae_ifE (at_cmp ok_in (or_in (room65 hr)) (ao_pl 2) (ao_ex (ae_ix hr rfl (ao_pl 0) (ao_ex ae_int)))) ae_int (ae_var 1))))) al_nil)
      (al_cons (as_if (at_cmp ok_eq (or_eq hr.units) (ao_pl 2) (ao_ex (ae_ix hr rfl (ao_pl 0) (ao_ex ae_int)))) (al_one (as_ret ae_int)) al_nil)
      (al_one (as_ret (ae_ifE (at_w (aw_or (at_cmp ok_gt or_gt (ao_pl 1) (ao_ex ae_int)) (aw_or1 (at_cmp ok_eq (or_eq hr.units) (ao_pl 2) (ao_ex (ae_ix hr rfl (ao_pl 0) (ao_ex ae_int))))))) (ae_bin ok_add or_add (ao_pl 1) (ao_ex ae_int)) ae_int)))))))⟩
abbrev s_behind_mind : Stmt := top 6
theorem sc_behind_mind : FnScope ["plain", "mind", "call", "kind"] ["plain", "mind", "call"] (defScope s_behind_mind) := ⟨rfl, rfl, rfl, by decide +kernel, rfl, by decide +kernel, by decide +kernel⟩
set_option maxHeartbeats 2000000 in
theorem ok_behind_mind {f : Addr} {fd : FuncData} (F : Fun Γ.K "behind_mind" "behind_mind" s_behind_mind f fd)
    (C_stretched : Cl Γ mg base 2 "stretched" 3 [] (d_stretched))
    (C_counted : Cl Γ mg base 1 "counted" 3 [] (d_counted))
    (z_len : mg "len" = none) :
    FnOk Γ.prog Γ.w Γ.K mg base (L2.CX Γ.prog Γ.w) (2 + 1) f fd ["plain", "mind", "call"] (spD Γ 3 (d_behind_mind)) := by
  have S := sc_behind_mind
  refine fn_def (pb := [true, true, true]) (m := 4) F S rfl rfl fun cdv A outer s H E hr tk hp => ?_
  exact ⟨_, (al_cons (as_set 3 S.nd (ae_ix hr rfl (ao_pl 0) (ao_ex ae_int)))
      (al_cons (as_if (at_cmp ok_eq (or_eq hr.units) (ao_pl 3) (ao_ex ae_str)) (al_one (as_ret (ae_call rfl rfl rfl C_stretched (hr.mono (by decide : 2 ≤ 2)) tk (aa_cons (ao_ex (ae_ix hr rfl (ao_pl 0) (ao_ex ae_int))) (aa_cons (ao_pl 1) (aa_cons (ao_pl 2) aa_nil)))))) al_nil)
      (al_cons (as_if (at_cmp ok_in (or_in (room65 hr)) (ao_pl 3) (ao_ex (ae_tup (aa_cons (ao_ex ae_str) (aa_cons (ao_ex ae_str) aa_nil))))) (al_one (as_ret (ae_call rfl rfl rfl C_counted (hr.mono (by decide : 1 ≤ 2)) tk (aa_cons (ao_pl 0) (aa_cons (ao_pl 1) (aa_cons (ao_pl 2) aa_nil)))))) al_nil)
      (al_cons (as_if (at_cmp ok_eq (or_eq hr.units) (ao_pl 3) (ao_ex ae_str)) (al_cons (as_if (at_w (aw_or (at_cmp ok_eq (or_eq hr.units) (ao_pl 1) (ao_ex (ae_b1 ok_len or_len z_len PySem.boot_len (ao_ex (ae_ix hr rfl (ao_pl 0) (ao_ex ae_int)))))) (aw_or1 (at_cmp ok_lt or_lt (ao_pl 1) (ao_ex ae_int))))) (al_one (as_ret (ae_var 1))) al_nil)
      (al_one (as_ret (ae_ifE (at_cmp ok_eq (or_eq hr.units) (ao_pl 2) (ao_ex (ae_ix hr rfl (ao_pl 0) (ao_ex ae_int)))) (ae_un ok_neg un_neg (ao_ex ae_int)) (ae_call rfl rfl rfl C_stretched (hr.mono (by decide : 2 ≤ 2)) tk (aa_cons (ao_ex (ae_ix hr rfl (ao_pl 0) (ao_ex ae_int))) (aa_cons (ao_pl 1) (aa_cons (ao_pl 2) aa_nil)))))))) al_nil)
      (al_cons (as_if (at_w (aw_or (at_cmp ok_notIn (or_notIn (room65 hr)) (ao_pl 2) (ao_ex (ae_sl rfl (ao_pl 0) (ap_some ae_int) ap_none))) (aw_or1 (at_cmp ok_eq (or_eq hr.units) (ao_pl 1) (ao_ex ae_int))))) (al_one (as_ret (ae_var 1))) al_nil)
      (al_cons (as_if (at_cmp ok_eq (or_eq hr.units) (ao_pl 3) (ao_ex ae_str)) (al_one (as_ret (ae_ifE (at_w (aw_or (at_cmp ok_eq (or_eq hr.units) (ao_pl 1) (ao_ex ae_int)) (aw_or1 (at_cmp ok_eq (or_eq hr.units) (ao_pl 2) (ao_ex (ae_ix hr rfl (ao_pl 0) (ao_ex ae_int))))))) ae_int ae_int))) al_nil)
      (al_one (as_ret (ae_ifE (at_cmp ok_eq (or_eq hr.units) (ao_pl 2) (ao_ex (ae_ix hr rfl (ao_pl 0) (ao_ex (ae_bin ok_add or_add (ao_ex ae_int) (ao_pl 1)))))) (ae_bin ok_sub op_sub (ao_ex ae_int) (ao_pl 1)) ae_int)))))))))⟩
abbrev s_end_mind : Stmt := top 7
theorem sc_end_mind : FnScope ["plain", "kind"] ["plain"] (defScope s_end_mind) := ⟨rfl, rfl, rfl, by decide +kernel, rfl, by decide +kernel, by decide +kernel⟩
set_option maxHeartbeats 2000000 in
theorem ok_end_mind {f : Addr} {fd : FuncData} (F : Fun Γ.K "end_mind" "end_mind" s_end_mind f fd)
    (z_len : mg "len" = none) :
    FnOk Γ.prog Γ.w Γ.K mg base (L2.CX Γ.prog Γ.w) (0 + 1) f fd ["plain"] (spD Γ 1 (d_end_mind)) := by
  have S := sc_end_mind
  refine fn_def (pb := [true]) (m := 2) F S rfl rfl fun cdv A outer s H E hr tk hp => ?_
  exact ⟨_, (al_cons (as_set 1 S.nd (ae_ix hr rfl (ao_pl 0) (ao_ex ae_int)))
      (al_cons (as_if (at_cmp ok_in (or_in (room65 hr)) (ao_pl 1) (ao_ex (ae_tup (aa_cons (ao_ex ae_str) (aa_cons (ao_ex ae_str) aa_nil))))) (al_one (as_ret (ae_b1 ok_len or_len z_len PySem.boot_len (ao_ex (ae_ix hr rfl (ao_pl 0) (ao_ex (ae_un ok_neg un_neg (ao_ex ae_int)))))))) al_nil)
      (al_one (as_ret (ae_ifE (at_cmp ok_in (or_in (room65 hr)) (ao_pl 1) (ao_ex (ae_tup (aa_cons (ao_ex ae_str) (aa_cons (ao_ex ae_str) aa_nil))))) (ae_bin ok_add or_add (ao_ex (ae_ix hr rfl (ao_pl 0) (ao_ex ae_int))) (ao_ex ae_int)) ae_int)))))⟩
abbrev s_breaks : Stmt := top 8
theorem sc_breaks : FnScope ["sentence", "minds", "found", "part"] ["sentence", "minds"] (defScope s_breaks) := ⟨rfl, rfl, rfl, by decide +kernel, rfl, by decide +kernel, by decide +kernel⟩
set_option maxHeartbeats 2000000 in
theorem ok_breaks {n : Nat} {f : Addr} {fd : FuncData} (F : Fun Γ.K "breaks" "breaks" s_breaks f fd)
    (C_end_mind : Cl Γ mg base 1 "end_mind" 1 [] (d_end_mind))
    (C_breaks : Cl Γ mg base (1 + n) "breaks" 2 [] (d_breaks n))
    (z_any : mg "any" = none)
    (z_all : mg "all" = none)
    {a_JOINTS : Addr} (g_JOINTS : GC Γ mg "JOINTS" (.ref a_JOINTS) c_JOINTS) :
    FnOk Γ.prog Γ.w Γ.K mg base (L2.CX Γ.prog Γ.w) (1 + n + 1) f fd ["sentence", "minds"] (spD Γ 2 (b_breaks (d_breaks n))) := by
  have S := sc_breaks
  refine fn_def (pb := [true, true]) (m := 4) F S rfl rfl fun cdv A outer s H E hr tk hp => ?_
  exact ⟨_, (al_cons (as_if (at_cmp ok_notIn (or_notIn (room65 hr)) (ao_ex (ae_ix hr rfl (ao_pl 0) (ao_ex ae_int))) (ao_ex (ae_gc g_JOINTS))) (al_one (as_ret (ae_cmp ok_eq (or_eq hr.units) (ao_ex (ae_meth 1 rfl m_popAt mt_popAt PySem.F.plainAttrs_list PySem.F.slot_list_pop PySem.F.type_list_pop (aa_cons (ao_ex ae_int) aa_nil))) (ao_ex (ae_call rfl rfl rfl C_end_mind (hr.mono (Nat.le_trans (by decide : 1 ≤ 1) (Nat.le_add_right _ _))) tk (aa_cons (ao_pl 0) aa_nil)))))) al_nil)
      (al_cons (as_setLc 2 [("part", 3)] S.nd (ai_any rfl (ae_fz (ae_ix hr rfl (ao_pl 0) (ao_ex ae_int)))) (fun _ _ _ _ _ => (ag_name 3 S.nd)) (fun _ _ _ _ _ => apt_nil) (fun _ _ _ _ _ => (ae_call rfl rfl rfl C_breaks (hr.mono (Nat.le_refl _)) takes0 (aa_cons (ao_pl 3) (aa_cons (ao_pl 1) aa_nil)))))
      (al_one (as_ret (ae_ifE (at_cmp ok_eq (or_eq hr.units) (ao_ex (ae_ix hr rfl (ao_pl 0) (ao_ex ae_int))) (ao_ex ae_str)) (ae_b1 ok_any (cr_any rfl) z_any b_any (ao_pl 2)) (ae_b1 ok_all (cr_all rfl) z_all b_all (ao_pl 2)))))))⟩
abbrev s_broken_at : Stmt := top 9
theorem sc_broken_at : FnScope ["sentence", "word", "plain", "minds", "at", "one", "mind"] ["sentence", "word"] (defScope s_broken_at) := ⟨rfl, rfl, rfl, by decide +kernel, rfl, by decide +kernel, by decide +kernel⟩
set_option maxHeartbeats 2000000 in
theorem ok_broken_at {f : Addr} {fd : FuncData} (F : Fun Γ.K "broken_at" "broken_at" s_broken_at f fd)
    (C_plain_of : Cl Γ mg base 8 "plain_of" 1 [] (d_plain_of 8))
    (C_breaks : Cl Γ mg base 9 "breaks" 2 [] (d_breaks 8))
    (C_behind_mind : Cl Γ mg base 3 "behind_mind" 3 [] (d_behind_mind))
    (z_list : mg "list" = none)
    (z_len : mg "len" = none)
    (z_zip : mg "zip" = none) :
    FnOk Γ.prog Γ.w Γ.K mg base (L2.CX Γ.prog Γ.w) (9 + 1) f fd ["sentence", "word"] (spD Γ 2 (d_broken_at)) := by
  have S := sc_broken_at
  refine fn_def (pb := [true, true]) (m := 7) F S rfl rfl fun cdv A outer s H E hr tk hp => ?_
  exact ⟨_, (al_cons (as_set 2 S.nd (ae_call rfl rfl rfl C_plain_of (hr.mono (by decide : 8 ≤ 9)) tk (aa_cons (ao_pl 0) aa_nil)))
      (al_cons (as_asg (vs := [3, 4]) (ae_tup (aa_cons (ao_fz (ae_lc [("one", 5)] S.nd (ai_any rfl (ae_var 2)) (fun _ _ _ _ _ => (ag_name 5 S.nd)) (fun _ _ _ _ _ => apt_nil) (fun _ _ _ _ _ => ae_int))) (aa_cons (ao_ex ae_int) aa_nil))) (ag_unp (n := 2) rfl (ags_cons (ag_name 3 S.nd) (ags_cons (ag_name 4 S.nd) ags_nil))))
      (al_cons (as_while hp (at_not (at_val (ae_call rfl rfl rfl C_breaks (hr.mono (by decide : 9 ≤ 9)) tk (aa_cons (ao_pl 0) (aa_cons (ao_ex (ae_t1 ok_list (or_list rfl) z_list boot_list (ao_pl 3))) aa_nil))))) (al_cons (as_if (at_cmp ok_eq (or_eq hr.units) (ao_pl 4) (ao_ex (ae_b1 ok_len or_len z_len PySem.boot_len (ao_pl 1)))) (al_one (as_ret ae_non)) al_nil)
      (al_cons (as_setLc 3 [("one", 5), ("mind", 6)] S.nd (ai_zip rfl z_zip (ae_var 2) (ae_var 3)) (fun _ _ _ _ _ => (ag_unp (n := 2) rfl (ags_cons (ag_name 5 S.nd) (ags_cons (ag_name 6 S.nd) ags_nil)))) (fun _ _ _ _ _ => apt_nil) (fun _ _ _ _ _ => (ae_call rfl rfl rfl C_behind_mind (hr.mono (by decide : 3 ≤ 9)) takes0 (aa_cons (ao_pl 5) (aa_cons (ao_pl 6) (aa_cons (ao_ex (ae_ix hr rfl (ao_pl 1) (ao_pl 4))) aa_nil))))))
      (al_one (as_aug 4 S.nd ok_addI ip_add ae_int)))))
      (al_one (as_ret (ae_move 4))))))⟩
abbrev s_is_broken : Stmt := top 10
theorem sc_is_broken : FnScope ["sentence", "word"] ["sentence", "word"] (defScope s_is_broken) := ⟨rfl, rfl, rfl, by decide +kernel, rfl, by decide +kernel, by decide +kernel⟩
set_option maxHeartbeats 2000000 in
theorem ok_is_broken {f : Addr} {fd : FuncData} (F : Fun Γ.K "is_broken" "is_broken" s_is_broken f fd)
    (C_broken_at : Cl Γ mg base 10 "broken_at" 2 [] (d_broken_at)) :
    FnOk Γ.prog Γ.w Γ.K mg base (L2.CX Γ.prog Γ.w) (10 + 1) f fd ["sentence", "word"] (spD Γ 2 (d_is_broken)) := by
  have S := sc_is_broken
  refine fn_def (pb := [true, true]) (m := 2) F S rfl rfl fun cdv A outer s H E hr tk hp => ?_
  exact ⟨_, (al_one (as_ret (ae_notN (ao_ex (ae_call rfl rfl rfl C_broken_at (hr.mono (by decide : 10 ≤ 10)) tk (aa_cons (ao_pl 0) (aa_cons (ao_pl 1) aa_nil)))))))⟩
abbrev s__law_pen : Stmt := top 12
theorem sc__law_pen : FnScope ["script", "fold", "cell"] ["script"] (defScope s__law_pen) := ⟨rfl, rfl, rfl, by decide +kernel, rfl, by decide +kernel, by decide +kernel⟩
set_option maxHeartbeats 2000000 in
theorem ok__law_pen {f : Addr} {fd : FuncData} (F : Fun Γ.K "_law_pen" "_law_pen" s__law_pen f fd)
    (z_int : mg "int" = none)
    (z_list : mg "list" = none) :
    FnOk Γ.prog Γ.w Γ.K mg base (L2.CX Γ.prog Γ.w) (0 + 1) f fd ["script"] (spD Γ 1 (d__law_pen)) := by
  have S := sc__law_pen
  refine fn_def (pb := [true]) (m := 3) F S rfl rfl fun cdv A outer s H E hr tk hp => ?_
  exact ⟨_, (al_cons (as_set 1 S.nd ae_int)
      (al_cons (as_for (vs := [2]) hp (ai_any rfl (ae_var 0)) (ag_name 2 S.nd) (al_one (as_set 1 S.nd (ae_bin ok_mod op_mod (ao_ex (ae_t1 ok_int or_int z_int boot_int (ao_ex (ae_bin ok_add or_add (ao_ex (ae_bin ok_mul or_mul (ao_pl 1) (ao_ex ae_int))) (ao_pl 2))))) (ao_ex ae_int)))))
      (al_one (as_ret (ae_disp (app_cons ae_str (ae_t1 ok_list (or_list rfl) z_list boot_list (ao_pl 0)) (app_cons ae_str ae_int (app_cons ae_str ae_int (app_cons ae_str ae_int (app_cons ae_str (ae_var 1) app_nil))))))))))⟩
abbrev s__law_draw : Stmt := top 13
theorem sc__law_draw : FnScope ["pen", "many", "blend", "cell", "digit"] ["pen", "many"] (defScope s__law_draw) := ⟨rfl, rfl, rfl, by decide +kernel, rfl, by decide +kernel, by decide +kernel⟩
set_option maxHeartbeats 2000000 in
theorem ok__law_draw {f : Addr} {fd : FuncData} (F : Fun Γ.K "_law_draw" "_law_draw" s__law_draw f fd)
    (z_len : mg "len" = none)
    (z_int : mg "int" = none) :
    FnOk Γ.prog Γ.w Γ.K mg base (L2.CX Γ.prog Γ.w) (0 + 1) f fd ["pen", "many"] (spD Γ 2 (d__law_draw)) := by
  have S := sc__law_draw
  refine fn_def (pb := [true, true]) (m := 5) F S rfl rfl fun cdv A outer s H E hr tk hp => ?_
  exact ⟨_, (al_cons (as_sub 0 hr (ae_bin ok_add or_add (ao_ex (ae_ix hr rfl (ao_pl 0) (ao_ex ae_str))) (ao_ex ae_int)) ae_str)
      (al_cons (as_if (at_w (aw_and (at_cmp ok_eq (or_eq hr.units) (ao_ex (ae_ix hr rfl (ao_pl 0) (ao_ex ae_str))) (ao_ex ae_int)) (aw_and1 (at_cmp ok_lt or_lt (ao_ex (ae_ix hr rfl (ao_pl 0) (ao_ex ae_str))) (ao_ex (ae_b1 ok_len or_len z_len PySem.boot_len (ao_ex (ae_ix hr rfl (ao_pl 0) (ao_ex ae_str))))))))) (al_cons (as_set 3 S.nd (ae_ix hr rfl (ao_ex (ae_ix hr rfl (ao_pl 0) (ao_ex ae_str))) (ao_ex (ae_ix hr rfl (ao_pl 0) (ao_ex ae_str)))))
      (al_cons (as_sub 0 hr (ae_bin ok_add or_add (ao_ex (ae_ix hr rfl (ao_pl 0) (ao_ex ae_str))) (ao_ex ae_int)) ae_str)
      (al_one (as_if (at_cmp ok_ge or_ge (ao_pl 3) (ao_ex (ae_bin ok_pow op_pow (ao_ex ae_int) (ao_ex ae_int)))) (al_one (as_sub 0 hr (ae_bin ok_sub op_sub (ao_pl 3) (ao_ex (ae_bin ok_pow op_pow (ao_ex ae_int) (ao_ex ae_int)))) ae_str)) (al_one (as_sub 0 hr (ae_bin ok_mod op_mod (ao_ex (ae_t1 ok_int or_int z_int boot_int (ao_ex (ae_bin ok_add or_add (ao_ex (ae_bin ok_mul or_mul (ao_ex (ae_ix hr rfl (ao_pl 0) (ao_ex ae_str))) (ao_ex ae_int))) (ao_pl 3))))) (ao_ex ae_int)) ae_str)))))) al_nil)
      (al_cons (as_if (at_cmp ok_gt or_gt (ao_ex (ae_ix hr rfl (ao_pl 0) (ao_ex ae_str))) (ao_ex ae_int)) (al_cons (as_set 4 S.nd (ae_bin ok_mod op_mod (ao_ex (ae_t1 ok_int or_int z_int boot_int (ao_ex (ae_ix hr rfl (ao_pl 0) (ao_ex ae_str))))) (ao_pl 1)))
      (al_cons (as_sub 0 hr (ae_bin ok_fdiv op_fdiv (ao_ex (ae_ix hr rfl (ao_pl 0) (ao_ex ae_str))) (ao_pl 1)) ae_str)
      (al_one (as_ret (ae_move 4))))) al_nil)
      (al_cons (as_set 2 S.nd (ae_bin ok_add or_add (ao_ex (ae_bin ok_add or_add (ao_ex (ae_ix hr rfl (ao_pl 0) (ao_ex ae_str))) (ao_ex (ae_bin ok_mul or_mul (ao_ex (ae_ix hr rfl (ao_pl 0) (ao_ex ae_str))) (ao_ex ae_int))))) (ao_ex ae_int)))
      (al_one (as_ret (ae_bin ok_mod op_mod (ao_ex (ae_bin ok_fdiv op_fdiv (ao_ex (ae_t1 ok_int or_int z_int boot_int (ao_ex (ae_bin ok_mod op_mod (ao_ex (ae_bin ok_pow op_pow (ao_pl 2) (ao_ex ae_int))) (ao_ex ae_int))))) (ao_ex ae_int))) (ao_pl 1))))))))⟩
abbrev s__law_pick : Stmt := top 14
theorem sc__law_pick : FnScope ["pen", "some"] ["pen", "some"] (defScope s__law_pick) := ⟨rfl, rfl, rfl, by decide +kernel, rfl, by decide +kernel, by decide +kernel⟩
set_option maxHeartbeats 2000000 in
theorem ok__law_pick {f : Addr} {fd : FuncData} (F : Fun Γ.K "_law_pick" "_law_pick" s__law_pick f fd)
    (C__law_draw : Cl Γ mg base 1 "_law_draw" 2 [] (d__law_draw))
    (z_len : mg "len" = none) :
    FnOk Γ.prog Γ.w Γ.K mg base (L2.CX Γ.prog Γ.w) (1 + 1) f fd ["pen", "some"] (spD Γ 2 (d__law_pick)) := by
  have S := sc__law_pick
  refine fn_def (pb := [true, true]) (m := 2) F S rfl rfl fun cdv A outer s H E hr tk hp => ?_
  exact ⟨_, (al_one (as_ret (ae_ix hr rfl (ao_pl 1) (ao_ex (ae_call rfl rfl rfl C__law_draw (hr.mono (by decide : 1 ≤ 1)) tk (aa_cons (ao_pl 0) (aa_cons (ao_ex (ae_b1 ok_len or_len z_len PySem.boot_len (ao_pl 1))) aa_nil)))))))⟩
abbrev s__law_shuffled : Stmt := top 15
theorem sc__law_shuffled : FnScope ["pen", "some", "lap", "left", "found"] ["pen", "some"] (defScope s__law_shuffled) := ⟨rfl, rfl, rfl, by decide +kernel, rfl, by decide +kernel, by decide +kernel⟩
set_option maxHeartbeats 2000000 in
theorem ok__law_shuffled {f : Addr} {fd : FuncData} (F : Fun Γ.K "_law_shuffled" "_law_shuffled" s__law_shuffled f fd)
    (C__law_draw : Cl Γ mg base 1 "_law_draw" 2 [] (d__law_draw))
    (z_list : mg "list" = none)
    (z_range : mg "range" = none)
    (z_len : mg "len" = none) :
    FnOk Γ.prog Γ.w Γ.K mg base (L2.CX Γ.prog Γ.w) (1 + 1) f fd ["pen", "some"] (spD Γ 2 (d__law_shuffled)) := by
  have S := sc__law_shuffled
  refine fn_def (pb := [true, true]) (m := 5) F S rfl rfl fun cdv A outer s H E hr tk hp => ?_
  exact ⟨_, (al_cons (as_par 3 4 S.nd (ae_t1 ok_list (or_list rfl) z_list boot_list (ao_pl 1)) (ae_lst aa_nil))
      (al_cons (as_for (vs := [2]) hp (ai_rng1 z_range (ae_b1 ok_len or_len z_len PySem.boot_len (ao_pl 1))) (ag_name 2 S.nd) (al_one (as_expr (ae_meth 4 rfl m_append mt_append PySem.F.plainAttrs_list PySem.F.slot_list_append PySem.F.type_list_append (aa_cons (ao_fz (ae_meth 3 rfl m_popAt mt_popAt PySem.F.plainAttrs_list PySem.F.slot_list_pop PySem.F.type_list_pop (aa_cons (ao_fz (ae_call rfl rfl rfl C__law_draw (hr.mono (by decide : 1 ≤ 1)) tk (aa_cons (ao_pl 0) (aa_cons (ao_ex (ae_b1 ok_len or_len z_len PySem.boot_len (ao_pl 3))) aa_nil)))) aa_nil))) aa_nil)))))
      (al_one (as_ret (ae_move 4)))))⟩
abbrev s__law_some : Stmt := top 16
theorem sc__law_some : FnScope ["pen", "some", "most"] ["pen", "some", "most"] (defScope s__law_some) := ⟨rfl, rfl, rfl, by decide +kernel, rfl, by decide +kernel, by decide +kernel⟩
set_option maxHeartbeats 2000000 in
theorem ok__law_some {f : Addr} {fd : FuncData} (F : Fun Γ.K "_law_some" "_law_some" s__law_some f fd)
    (C__law_shuffled : Cl Γ mg base 2 "_law_shuffled" 2 [] (d__law_shuffled))
    (C__law_draw : Cl Γ mg base 1 "_law_draw" 2 [] (d__law_draw))
    (z_len : mg "len" = none)
    (z_min : mg "min" = none) :
    FnOk Γ.prog Γ.w Γ.K mg base (L2.CX Γ.prog Γ.w) (2 + 1) f fd ["pen", "some", "most"] (spD Γ 3 (d__law_some)) := by
  have S := sc__law_some
  refine fn_def (pb := [true, true, true]) (m := 3) F S rfl rfl fun cdv A outer s H E hr tk hp => ?_
  exact ⟨_, (al_one (as_ret (ae_sl rfl (ao_ex (ae_call rfl rfl rfl C__law_shuffled (hr.mono (by decide : 2 ≤ 2)) tk (aa_cons (ao_pl 0) (aa_cons (ao_pl 1) aa_nil)))) ap_none (ap_some (ae_call rfl rfl rfl C__law_draw (hr.mono (by decide : 1 ≤ 2)) tk (aa_cons (ao_pl 0) (aa_cons (ao_ex (ae_bin ok_add or_add (ao_ex (ae_b2 ok_min2 (call_min2 rfl) z_min b_min (ao_pl 2) (ao_ex (ae_b1 ok_len or_len z_len PySem.boot_len (ao_pl 1))))) (ao_ex ae_int))) aa_nil)))))))⟩
abbrev s__law_name : Stmt := top 17
theorem sc__law_name : FnScope ["pen", "index", "word", "spot", "place"] ["pen", "index"] (defScope s__law_name) := ⟨rfl, rfl, rfl, by decide +kernel, rfl, by decide +kernel, by decide +kernel⟩
set_option maxHeartbeats 2000000 in
theorem ok__law_name {f : Addr} {fd : FuncData} (F : Fun Γ.K "_law_name" "_law_name" s__law_name f fd)
    (C__law_draw : Cl Γ mg base 1 "_law_draw" 2 [] (d__law_draw))
    (z_range : mg "range" = none)
    (z_len : mg "len" = none)
    (z_str : mg "str" = none) :
    FnOk Γ.prog Γ.w Γ.K mg base (L2.CX Γ.prog Γ.w) (1 + 1) f fd ["pen", "index"] (spD Γ 2 (d__law_name)) := by
  have S := sc__law_name
  refine fn_def (pb := [true, true]) (m := 5) F S rfl rfl fun cdv A outer s H E hr tk hp => ?_
  exact ⟨_, (al_cons (as_set 2 S.nd ae_str)
      (al_cons (as_for (vs := [3]) hp (ai_rng1 z_range (ae_bin ok_add or_add (ao_ex ae_int) (ao_ex (ae_call rfl rfl rfl C__law_draw (hr.mono (by decide : 1 ≤ 1)) tk (aa_cons (ao_pl 0) (aa_cons (ao_ex ae_int) aa_nil)))))) (ag_name 3 S.nd) (al_one (as_set 2 S.nd (ae_bin ok_add or_add (ao_pl 2) (ao_ex (ae_ix hr rfl (ao_ex ae_str) (ao_ex (ae_call rfl rfl rfl C__law_draw (hr.mono (by decide : 1 ≤ 1)) tk (aa_cons (ao_pl 0) (aa_cons (ao_ex ae_int) aa_nil))))))))))
      (al_cons (as_set 4 S.nd (ae_bin ok_add or_add (ao_ex ae_int) (ao_ex (ae_call rfl rfl rfl C__law_draw (hr.mono (by decide : 1 ≤ 1)) tk (aa_cons (ao_pl 0) (aa_cons (ao_ex (ae_b1 ok_len or_len z_len PySem.boot_len (ao_pl 2))) aa_nil))))))
      (al_one (as_ret (ae_bin ok_add or_add (ao_ex (ae_bin ok_add or_add (ao_ex (ae_sl rfl (ao_pl 2) ap_none (ap_some (ae_var 4)))) (ao_ex (ae_t1 ok_str or_str z_str boot_str (ao_pl 1))))) (ao_ex (ae_sl rfl (ao_pl 2) (ap_some (ae_var 4)) ap_none))))))))⟩
abbrev s__law_names : Stmt := top 18
theorem sc__law_names : FnScope ["pen", "many", "index"] ["pen", "many"] (defScope s__law_names) := ⟨rfl, rfl, rfl, by decide +kernel, rfl, by decide +kernel, by decide +kernel⟩
set_option maxHeartbeats 2000000 in
theorem ok__law_names {f : Addr} {fd : FuncData} (F : Fun Γ.K "_law_names" "_law_names" s__law_names f fd)
    (C__law_shuffled : Cl Γ mg base 2 "_law_shuffled" 2 [] (d__law_shuffled))
    (C__law_name : Cl Γ mg base 2 "_law_name" 2 [] (d__law_name))
    (z_range : mg "range" = none) :
    FnOk Γ.prog Γ.w Γ.K mg base (L2.CX Γ.prog Γ.w) (2 + 1) f fd ["pen", "many"] (spD Γ 2 (d__law_names)) := by
  have S := sc__law_names
  refine fn_def (pb := [true, true]) (m := 3) F S rfl rfl fun cdv A outer s H E hr tk hp => ?_
  exact ⟨_, (al_one (as_ret (ae_call rfl rfl rfl C__law_shuffled (hr.mono (by decide : 2 ≤ 2)) tk (aa_cons (ao_pl 0) (aa_cons (ao_ex (ae_lc [("index", 2)] S.nd (ai_rng1 z_range (ae_var 1)) (fun _ _ _ _ _ => (ag_name 2 S.nd)) (fun _ _ _ _ _ => apt_nil) (fun _ _ _ _ _ => (ae_call rfl rfl rfl C__law_name (hr.mono (by decide : 2 ≤ 2)) takes0 (aa_cons (ao_pl 0) (aa_cons (ao_pl 2) aa_nil)))))) aa_nil)))))⟩
abbrev s__law_same : Stmt := top 19
theorem sc__law_same : FnScope ["told", "due", "one", "two"] ["told", "due"] (defScope s__law_same) := ⟨rfl, rfl, rfl, by decide +kernel, rfl, by decide +kernel, by decide +kernel⟩
set_option maxHeartbeats 2000000 in
theorem ok__law_same {n : Nat} {f : Addr} {fd : FuncData} (F : Fun Γ.K "_law_same" "_law_same" s__law_same f fd)
    (C__law_same : Cl Γ mg base (0 + n) "_law_same" 2 [] (d__law_same n))
    (z_isinstance : mg "isinstance" = none)
    (z_tuple : mg "tuple" = none)
    (z_len : mg "len" = none)
    (z_zip : mg "zip" = none)
    (z_all : mg "all" = none)
    (z_int : mg "int" = none)
    (z_bool : mg "bool" = none)
    (z_str : mg "str" = none) :
    FnOk Γ.prog Γ.w Γ.K mg base (L2.CX Γ.prog Γ.w) (0 + n + 1) f fd ["told", "due"] (spD Γ 2 (b__law_same (d__law_same n))) := by
  have S := sc__law_same
  refine fn_def (pb := [true, true]) (m := 4) F S rfl rfl fun cdv A outer s H E hr tk hp => ?_
  exact ⟨_, (al_cons (as_if (at_val (ae_isi rfl z_isinstance (ao_pl 1) z_tuple boot_tuple)) (al_one (as_ret (ae_and2 (ae_isi rfl z_isinstance (ao_pl 0) z_tuple boot_tuple) (ae_and2 (ae_cmp ok_eq (or_eq hr.units) (ao_ex (ae_b1 ok_len or_len z_len PySem.boot_len (ao_pl 0))) (ao_ex (ae_b1 ok_len or_len z_len PySem.boot_len (ao_pl 1)))) (ae_one (ae_b1 ok_all (cr_all rfl) z_all b_all (ao_ex (ae_lc [("one", 2), ("two", 3)] S.nd (ai_zip rfl z_zip (ae_var 0) (ae_var 1)) (fun _ _ _ _ _ => (ag_unp (n := 2) rfl (ags_cons (ag_name 2 S.nd) (ags_cons (ag_name 3 S.nd) ags_nil)))) (fun _ _ _ _ _ => apt_nil) (fun _ _ _ _ _ => (ae_call rfl rfl rfl C__law_same (hr.mono (Nat.le_refl _)) takes0 (aa_cons (ao_pl 2) (aa_cons (ao_pl 3) aa_nil)))))))))))) al_nil)
      (al_cons (as_if (at_isN (ao_pl 1)) (al_one (as_ret (ae_isN (ao_pl 0)))) al_nil)
      (al_cons (as_if (at_isB (ao_pl 1)) (al_one (as_ret (ae_isB (ao_pl 0)))) al_nil)
      (al_cons (as_if (at_isB (ao_pl 1)) (al_one (as_ret (ae_isB (ao_pl 0)))) al_nil)
      (al_cons (as_if (at_val (ae_isi rfl z_isinstance (ao_pl 1) z_int boot_int)) (al_one (as_ret (ae_and2 (ae_isi rfl z_isinstance (ao_pl 0) z_int boot_int) (ae_and2 (ae_not (ae_isi rfl z_isinstance (ao_pl 0) z_bool boot_bool)) (ae_one (ae_cmp ok_eq (or_eq hr.units) (ao_pl 0) (ao_pl 1))))))) al_nil)
      (al_one (as_ret (ae_and2 (ae_isi rfl z_isinstance (ao_pl 0) z_str boot_str) (ae_one (ae_cmp ok_eq (or_eq hr.units) (ao_pl 0) (ao_pl 1)))))))))))⟩
abbrev s__law_calls : Stmt := top 20
theorem sc__law_calls : FnScope ["pen", "many"] ["pen", "many"] (defScope s__law_calls) := ⟨rfl, rfl, rfl, by decide +kernel, rfl, by decide +kernel, by decide +kernel⟩
set_option maxHeartbeats 2000000 in
theorem ok__law_calls {f : Addr} {fd : FuncData} (F : Fun Γ.K "_law_calls" "_law_calls" s__law_calls f fd)
    (C__law_names : Cl Γ mg base 3 "_law_names" 2 [] (d__law_names))
    (z_sorted : mg "sorted" = none)
    (z_tuple : mg "tuple" = none) :
    FnOk Γ.prog Γ.w Γ.K mg base (L2.CX Γ.prog Γ.w) (3 + 1) f fd ["pen", "many"] (spD Γ 2 (d__law_calls)) := by
  have S := sc__law_calls
  refine fn_def (pb := [true, true]) (m := 2) F S rfl rfl fun cdv A outer s H E hr tk hp => ?_
  exact ⟨_, (al_one (as_ret (ae_t1 ok_tuple call_tuple_of z_tuple boot_tuple (ao_ex (ae_b1 ok_sortedS cr_sortedS z_sorted b_sorted (ao_ex (ae_call rfl rfl rfl C__law_names (hr.mono (by decide : 3 ≤ 3)) tk (aa_cons (ao_pl 0) (aa_cons (ao_pl 1) aa_nil)))))))))⟩
abbrev s__law_some_word : Stmt := top 21
theorem sc__law_some_word : FnScope ["pen", "calls", "most", "spot"] ["pen", "calls", "most"] (defScope s__law_some_word) := ⟨rfl, rfl, rfl, by decide +kernel, rfl, by decide +kernel, by decide +kernel⟩
set_option maxHeartbeats 2000000 in
theorem ok__law_some_word {f : Addr} {fd : FuncData} (F : Fun Γ.K "_law_some_word" "_law_some_word" s__law_some_word f fd)
    (C__law_draw : Cl Γ mg base 1 "_law_draw" 2 [] (d__law_draw))
    (C__law_pick : Cl Γ mg base 2 "_law_pick" 2 [] (d__law_pick))
    (z_range : mg "range" = none)
    (z_tuple : mg "tuple" = none) :
    FnOk Γ.prog Γ.w Γ.K mg base (L2.CX Γ.prog Γ.w) (2 + 1) f fd ["pen", "calls", "most"] (spD Γ 3 (d__law_some_word)) := by
  have S := sc__law_some_word
  refine fn_def (pb := [true, true, true]) (m := 4) F S rfl rfl fun cdv A outer s H E hr tk hp => ?_
  exact ⟨_, (al_one (as_ret (ae_t1 ok_tuple call_tuple_of z_tuple boot_tuple (ao_ex (ae_lc [("spot", 3)] S.nd (ai_rng1 z_range (ae_call rfl rfl rfl C__law_draw (hr.mono (by decide : 1 ≤ 2)) tk (aa_cons (ao_pl 0) (aa_cons (ao_ex (ae_bin ok_add or_add (ao_pl 2) (ao_ex ae_int))) aa_nil)))) (fun _ _ _ _ _ => (ag_name 3 S.nd)) (fun _ _ _ _ _ => apt_nil) (fun _ _ _ _ _ => (ae_call rfl rfl rfl C__law_pick (hr.mono (by decide : 2 ≤ 2)) takes0 (aa_cons (ao_pl 0) (aa_cons (ao_pl 1) aa_nil)))))))))⟩
abbrev s__law_words_to : Stmt := top 22
theorem sc__law_words_to : FnScope ["calls", "most", "length", "found", "last", "longer", "word", "call"] ["calls", "most"] (defScope s__law_words_to) := ⟨rfl, rfl, rfl, by decide +kernel, rfl, by decide +kernel, by decide +kernel⟩
set_option maxHeartbeats 2000000 in
theorem ok__law_words_to {f : Addr} {fd : FuncData} (F : Fun Γ.K "_law_words_to" "_law_words_to" s__law_words_to f fd)
    (z_range : mg "range" = none) :
    FnOk Γ.prog Γ.w Γ.K mg base (L2.CX Γ.prog Γ.w) (0 + 1) f fd ["calls", "most"] (spD Γ 2 (d__law_words_to)) := by
  have S := sc__law_words_to
  refine fn_def (pb := [true, true]) (m := 8) F S rfl rfl fun cdv A outer s H E hr tk hp => ?_
  exact ⟨_, (al_cons (as_par 3 4 S.nd (ae_lst (aa_cons (ao_fz (ae_tup aa_nil)) aa_nil)) (ae_lst (aa_cons (ao_fz (ae_tup aa_nil)) aa_nil)))
      (al_cons (as_for (vs := [2]) hp (ai_rng1 z_range (ae_var 1)) (ag_name 2 S.nd) (al_cons (as_set 5 S.nd (ae_lst aa_nil))
      (al_cons (as_for (vs := [6]) hp (ai_any rfl (ae_var 4)) (ag_name 6 S.nd) (al_one (as_set 5 S.nd (ae_bin ok_add or_add (ao_pl 5) (ao_ex (ae_lc [("call", 7)] S.nd (ai_any rfl (ae_var 0)) (fun _ _ _ _ _ => (ag_name 7 S.nd)) (fun _ _ _ _ _ => apt_nil) (fun _ _ _ _ _ => (ae_bin ok_add or_add (ao_pl 6) (ao_ex (ae_tup (aa_cons (ao_ex (ae_var 7)) aa_nil)))))))))))
      (al_one (as_par 3 4 S.nd (ae_bin ok_add or_add (ao_pl 3) (ao_pl 5)) (ae_var 5))))))
      (al_one (as_ret (ae_move 3)))))⟩
abbrev s__law_some_plain : Stmt := top 23
theorem sc__law_some_plain : FnScope ["pen", "calls", "way", "rest", "many", "one", "other", "call", "spot"] ["pen", "calls"] (defScope s__law_some_plain) := ⟨rfl, rfl, rfl, by decide +kernel, rfl, by decide +kernel, by decide +kernel⟩
set_option maxHeartbeats 2000000 in
theorem ok__law_some_plain {f : Addr} {fd : FuncData} (F : Fun Γ.K "_law_some_plain" "_law_some_plain" s__law_some_plain f fd)
    (C__law_draw : Cl Γ mg base 1 "_law_draw" 2 [] (d__law_draw))
    (C__law_pick : Cl Γ mg base 2 "_law_pick" 2 [] (d__law_pick))
    (C__law_shuffled : Cl Γ mg base 2 "_law_shuffled" 2 [] (d__law_shuffled))
    (C__law_some : Cl Γ mg base 3 "_law_some" 3 [] (d__law_some))
    (z_len : mg "len" = none)
    (z_range : mg "range" = none)
    (z_tuple : mg "tuple" = none)
    (z_sorted : mg "sorted" = none) :
    FnOk Γ.prog Γ.w Γ.K mg base (L2.CX Γ.prog Γ.w) (3 + 1) f fd ["pen", "calls"] (spD Γ 2 (d__law_some_plain)) := by
  have S := sc__law_some_plain
  refine fn_def (pb := [true, true]) (m := 9) F S rfl rfl fun cdv A outer s H E hr tk hp => ?_
  exact ⟨_, (al_cons (as_set 2 S.nd (ae_ifE (at_cmp ok_gt or_gt (ao_ex (ae_b1 ok_len or_len z_len PySem.boot_len (ao_pl 1))) (ao_ex ae_int)) (ae_call rfl rfl rfl C__law_draw (hr.mono (by decide : 1 ≤ 3)) tk (aa_cons (ao_pl 0) (aa_cons (ao_ex ae_int) aa_nil))) (ae_call rfl rfl rfl C__law_pick (hr.mono (by decide : 2 ≤ 3)) tk (aa_cons (ao_pl 0) (aa_cons (ao_ex (ae_lst (aa_cons (ao_ex ae_int) (aa_cons (ao_ex ae_int) aa_nil)))) aa_nil)))))
      (al_cons (as_asg (vs := [5, 6]) (ae_ifE (at_cmp ok_gt or_gt (ao_ex (ae_b1 ok_len or_len z_len PySem.boot_len (ao_pl 1))) (ao_ex ae_int)) (ae_sl rfl (ao_ex (ae_call rfl rfl rfl C__law_shuffled (hr.mono (by decide : 2 ≤ 3)) tk (aa_cons (ao_pl 0) (aa_cons (ao_pl 1) aa_nil)))) ap_none (ap_some ae_int)) (ae_tup (aa_cons (ao_fz (ae_ix hr rfl (ao_pl 1) (ao_ex ae_int))) (aa_cons (ao_ex ae_non) aa_nil)))) (ag_unp (n := 2) rfl (ags_cons (ag_name 5 S.nd) (ags_cons (ag_name 6 S.nd) ags_nil))))
      (al_cons (as_set 3 S.nd (ae_lc [("call", 7)] S.nd (ai_any rfl (ae_var 1)) (fun _ _ _ _ _ => (ag_name 7 S.nd)) (fun _ _ _ _ _ => (apt_one (at_cmp ok_ne (or_ne hr.units) (ao_pl 7) (ao_pl 5)))) (fun _ _ _ _ _ => (ae_var 7))))
      (al_cons (as_set 4 S.nd (ae_bin ok_add or_add (ao_ex ae_int) (ao_ex (ae_call rfl rfl rfl C__law_draw (hr.mono (by decide : 1 ≤ 3)) tk (aa_cons (ao_pl 0) (aa_cons (ao_ex (ae_call rfl rfl rfl C__law_pick (hr.mono (by decide : 2 ≤ 3)) tk (aa_cons (ao_pl 0) (aa_cons (ao_ex (ae_lst (aa_cons (ao_ex ae_int) (aa_cons (ao_ex ae_int) (aa_cons (ao_ex ae_int) aa_nil))))) aa_nil)))) aa_nil))))))
      (al_cons (as_if (at_cmp ok_eq (or_eq hr.units) (ao_pl 2) (ao_ex ae_int)) (al_one (as_ret (ae_tup (aa_cons (ao_ex ae_str) (aa_cons (ao_fz (ae_t1 ok_tuple call_tuple_of z_tuple boot_tuple (ao_ex (ae_lc [("spot", 8)] S.nd (ai_rng1 z_range (ae_bin ok_add or_add (ao_ex ae_int) (ao_ex (ae_call rfl rfl rfl C__law_draw (hr.mono (by decide : 1 ≤ 3)) tk (aa_cons (ao_pl 0) (aa_cons (ao_ex (ae_call rfl rfl rfl C__law_pick (hr.mono (by decide : 2 ≤ 3)) tk (aa_cons (ao_pl 0) (aa_cons (ao_ex (ae_lst (aa_cons (ao_ex ae_int) (aa_cons (ao_ex ae_int) (aa_cons (ao_ex ae_int) aa_nil))))) aa_nil)))) aa_nil)))))) (fun _ _ _ _ _ => (ag_name 8 S.nd)) (fun _ _ _ _ _ => apt_nil) (fun _ _ _ _ _ => (ae_call rfl rfl rfl C__law_pick (hr.mono (by decide : 2 ≤ 3)) takes0 (aa_cons (ao_pl 0) (aa_cons (ao_pl 1) aa_nil)))))))) aa_nil))))) al_nil)
      (al_cons (as_if (at_cmp ok_eq (or_eq hr.units) (ao_pl 2) (ao_ex ae_int)) (al_one (as_ret (ae_tup (aa_cons (ao_ex ae_str) (aa_cons (ao_ex (ae_var 5)) (aa_cons (ao_fz (ae_t1 ok_tuple call_tuple_of z_tuple boot_tuple (ao_ex (ae_lc [("spot", 8)] S.nd (ai_rng1 z_range (ae_bin ok_add or_add (ao_ex ae_int) (ao_ex (ae_call rfl rfl rfl C__law_draw (hr.mono (by decide : 1 ≤ 3)) tk (aa_cons (ao_pl 0) (aa_cons (ao_ex ae_int) aa_nil)))))) (fun _ _ _ _ _ => (ag_name 8 S.nd)) (fun _ _ _ _ _ => apt_nil) (fun _ _ _ _ _ => (ae_call rfl rfl rfl C__law_pick (hr.mono (by decide : 2 ≤ 3)) takes0 (aa_cons (ao_pl 0) (aa_cons (ao_pl 3) aa_nil)))))))) aa_nil)))))) al_nil)
      (al_cons (as_if (at_cmp ok_eq (or_eq hr.units) (ao_pl 2) (ao_ex ae_int)) (al_one (as_ret (ae_tup (aa_cons (ao_ex ae_str) (aa_cons (ao_ex (ae_var 4)) (aa_cons (ao_ex (ae_var 5)) (aa_cons (ao_fz (ae_t1 ok_tuple call_tuple_of z_tuple boot_tuple (ao_ex (ae_b1 ok_sortedS cr_sortedS z_sorted b_sorted (ao_ex (ae_call rfl rfl rfl C__law_some (hr.mono (by decide : 3 ≤ 3)) tk (aa_cons (ao_pl 0) (aa_cons (ao_pl 3) (aa_cons (ao_ex ae_int) aa_nil))))))))) aa_nil))))))) al_nil)
      (al_one (as_ret (ae_ix hr rfl (ao_ex (ae_lst (aa_cons (ao_ex ae_non) (aa_cons (ao_ex ae_non) (aa_cons (ao_fz (ae_tup (aa_cons (ao_ex ae_str) (aa_cons (ao_ex (ae_var 5)) (aa_cons (ao_ex (ae_var 6)) aa_nil))))) (aa_cons (ao_fz (ae_tup (aa_cons (ao_ex ae_str) (aa_cons (ao_ex (ae_var 5)) (aa_cons (ao_ex (ae_var 6)) aa_nil))))) (aa_cons (ao_ex ae_non) (aa_cons (ao_fz (ae_tup (aa_cons (ao_ex ae_str) (aa_cons (ao_ex (ae_var 4)) (aa_cons (ao_ex (ae_var 5)) (aa_cons (ao_ex (ae_var 6)) aa_nil)))))) aa_nil)))))))) (ao_pl 2)))))))))))⟩
abbrev s__law_some_sentence : Stmt := top 24
theorem sc__law_some_sentence : FnScope ["pen", "calls", "many", "deep", "parts", "left", "size", "spot"] ["pen", "calls", "many", "deep"] (defScope s__law_some_sentence) := ⟨rfl, rfl, rfl, by decide +kernel, rfl, by decide +kernel, by decide +kernel⟩
set_option maxHeartbeats 2000000 in
theorem ok__law_some_sentence {n : Nat} {f : Addr} {fd : FuncData} (F : Fun Γ.K "_law_some_sentence" "_law_some_sentence" s__law_some_sentence f fd)
    (C__law_some_plain : Cl Γ mg base 4 "_law_some_plain" 2 [] (d__law_some_plain))
    (C__law_pick : Cl Γ mg base 2 "_law_pick" 2 [] (d__law_pick))
    (C__law_draw : Cl Γ mg base 1 "_law_draw" 2 [] (d__law_draw))
    (C__law_some_sentence : Cl Γ mg base (4 + n) "_law_some_sentence" 4 [] (d__law_some_sentence n))
    (z_range : mg "range" = none)
    (z_min : mg "min" = none)
    (z_len : mg "len" = none)
    (z_tuple : mg "tuple" = none) :
    FnOk Γ.prog Γ.w Γ.K mg base (L2.CX Γ.prog Γ.w) (4 + n + 1) f fd ["pen", "calls", "many", "deep"] (spD Γ 4 (b__law_some_sentence (d__law_some_sentence n))) := by
  have S := sc__law_some_sentence
  refine fn_def (pb := [true, true, true, true]) (m := 8) F S rfl rfl fun cdv A outer s H E hr tk hp => ?_
  exact ⟨_, (al_cons (as_if (at_w (aw_or (at_cmp ok_eq (or_eq hr.units) (ao_pl 2) (ao_ex ae_int)) (aw_or1 (at_cmp ok_eq (or_eq hr.units) (ao_pl 3) (ao_ex ae_int))))) (al_cons (as_setLc 4 [("spot", 7)] S.nd (ai_rng1 z_range (ae_b2 ok_min2 (call_min2 rfl) z_min b_min (ao_pl 2) (ao_ex ae_int))) (fun _ _ _ _ _ => (ag_name 7 S.nd)) (fun _ _ _ _ _ => apt_nil) (fun _ _ _ _ _ => (ae_call rfl rfl rfl C__law_some_plain (hr.mono (Nat.le_trans (by decide : 4 ≤ 4) (Nat.le_add_right _ _))) takes0 (aa_cons (ao_pl 0) (aa_cons (ao_pl 1) aa_nil)))))
      (al_one (as_ret (ae_ifE (at_cmp ok_eq (or_eq hr.units) (ao_ex (ae_b1 ok_len or_len z_len PySem.boot_len (ao_pl 4))) (ao_ex ae_int)) (ae_ix hr rfl (ao_pl 4) (ao_ex ae_int)) (ae_tup (aa_cons (ao_fz (ae_call rfl rfl rfl C__law_pick (hr.mono (Nat.le_trans (by decide : 2 ≤ 4) (Nat.le_add_right _ _))) tk (aa_cons (ao_pl 0) (aa_cons (ao_ex (ae_lst (aa_cons (ao_ex ae_str) (aa_cons (ao_ex ae_str) aa_nil)))) aa_nil)))) (aa_cons (ao_fz (ae_t1 ok_tuple call_tuple_of z_tuple boot_tuple (ao_pl 4))) aa_nil))))))) al_nil)
      (al_cons (as_par 4 5 S.nd (ae_lst aa_nil) (ae_var 2))
      (al_cons (as_while hp (at_cmp ok_gt or_gt (ao_pl 5) (ao_ex ae_int)) (al_cons (as_set 6 S.nd (ae_ifE (at_cmp ok_eq (or_eq hr.units) (ao_ex (ae_b1 ok_len or_len z_len PySem.boot_len (ao_pl 4))) (ao_ex ae_int)) (ae_var 5) (ae_bin ok_add or_add (ao_ex ae_int) (ao_ex (ae_call rfl rfl rfl C__law_draw (hr.mono (Nat.le_trans (by decide : 1 ≤ 4) (Nat.le_add_right _ _))) tk (aa_cons (ao_pl 0) (aa_cons (ao_ex (ae_ifE (at_cmp ok_ne (or_ne hr.units) (ao_pl 4) (ao_ex (ae_lst aa_nil))) (ae_var 5) (ae_bin ok_sub op_sub (ao_pl 5) (ao_ex ae_int)))) aa_nil)))))))
      (al_cons (as_expr (ae_meth 4 rfl m_append mt_append PySem.F.plainAttrs_list PySem.F.slot_list_append PySem.F.type_list_append (aa_cons (ao_fz (ae_call rfl rfl rfl C__law_some_sentence (hr.mono (Nat.le_refl _)) tk (aa_cons (ao_pl 0) (aa_cons (ao_pl 1) (aa_cons (ao_pl 6) (aa_cons (ao_ex (ae_bin ok_sub op_sub (ao_pl 3) (ao_ex ae_int))) aa_nil)))))) aa_nil)))
      (al_one (as_set 5 S.nd (ae_bin ok_sub op_sub (ao_pl 5) (ao_pl 6)))))))
      (al_one (as_ret (ae_tup (aa_cons (ao_fz (ae_call rfl rfl rfl C__law_pick (hr.mono (Nat.le_trans (by decide : 2 ≤ 4) (Nat.le_add_right _ _))) tk (aa_cons (ao_pl 0) (aa_cons (ao_ex (ae_lst (aa_cons (ao_ex ae_str) (aa_cons (ao_ex ae_str) aa_nil)))) aa_nil)))) (aa_cons (ao_fz (ae_t1 ok_tuple call_tuple_of z_tuple boot_tuple (ao_pl 4))) aa_nil))))))))⟩
abbrev s__law_ends_so : Stmt := top 25
theorem sc__law_ends_so : FnScope ["word", "row"] ["word", "row"] (defScope s__law_ends_so) := ⟨rfl, rfl, rfl, by decide +kernel, rfl, by decide +kernel, by decide +kernel⟩
set_option maxHeartbeats 2000000 in
theorem ok__law_ends_so {f : Addr} {fd : FuncData} (F : Fun Γ.K "_law_ends_so" "_law_ends_so" s__law_ends_so f fd)
    (z_len : mg "len" = none) :
    FnOk Γ.prog Γ.w Γ.K mg base (L2.CX Γ.prog Γ.w) (0 + 1) f fd ["word", "row"] (spD Γ 2 (d__law_ends_so)) := by
  have S := sc__law_ends_so
  refine fn_def (pb := [true, true]) (m := 2) F S rfl rfl fun cdv A outer s H E hr tk hp => ?_
  exact ⟨_, (al_one (as_ret (ae_and2 (ae_cmp ok_ge or_ge (ao_ex (ae_b1 ok_len or_len z_len PySem.boot_len (ao_pl 0))) (ao_ex (ae_b1 ok_len or_len z_len PySem.boot_len (ao_pl 1)))) (ae_one (ae_cmp ok_eq (or_eq hr.units) (ao_ex (ae_sl rfl (ao_pl 0) (ap_some (ae_bin ok_sub op_sub (ao_ex (ae_b1 ok_len or_len z_len PySem.boot_len (ao_pl 0))) (ao_ex (ae_b1 ok_len or_len z_len PySem.boot_len (ao_pl 1))))) ap_none)) (ao_pl 1))))))⟩
abbrev s__law_fresh_break : Stmt := top 26
theorem sc__law_fresh_break : FnScope ["plain", "word", "spot", "kind", "last", "some", "cuts", "rest", "call", "at"] ["plain", "word"] (defScope s__law_fresh_break) := ⟨rfl, rfl, rfl, by decide +kernel, rfl, by decide +kernel, by decide +kernel⟩
set_option maxHeartbeats 2000000 in
theorem ok__law_fresh_break {f : Addr} {fd : FuncData} (F : Fun Γ.K "_law_fresh_break" "_law_fresh_break" s__law_fresh_break f fd)
    (C__law_ends_so : Cl Γ mg base 1 "_law_ends_so" 2 [] (d__law_ends_so))
    (z_len : mg "len" = none)
    (z_range : mg "range" = none) :
    FnOk Γ.prog Γ.w Γ.K mg base (L2.CX Γ.prog Γ.w) (1 + 1) f fd ["plain", "word"] (spD Γ 2 (d__law_fresh_break)) := by
  have S := sc__law_fresh_break
  refine fn_def (pb := [true, true]) (m := 10) F S rfl rfl fun cdv A outer s H E hr tk hp => ?_
  exact ⟨_, (al_cons (as_par 3 4 S.nd (ae_ix hr rfl (ao_pl 0) (ao_ex ae_int)) (ae_bin ok_sub op_sub (ao_ex (ae_b1 ok_len or_len z_len PySem.boot_len (ao_pl 1))) (ao_ex ae_int)))
      (al_cons (as_if (at_cmp ok_eq (or_eq hr.units) (ao_pl 3) (ao_ex ae_str)) (al_one (as_ret (ae_call rfl rfl rfl C__law_ends_so (hr.mono (by decide : 1 ≤ 1)) tk (aa_cons (ao_pl 1) (aa_cons (ao_ex (ae_ix hr rfl (ao_pl 0) (ao_ex ae_int))) aa_nil))))) al_nil)
      (al_cons (as_if (at_cmp ok_eq (or_eq hr.units) (ao_pl 3) (ao_ex ae_str)) (al_one (as_ret (ae_and2 (ae_call rfl rfl rfl C__law_ends_so (hr.mono (by decide : 1 ≤ 1)) tk (aa_cons (ao_pl 1) (aa_cons (ao_ex (ae_ix hr rfl (ao_pl 0) (ao_ex ae_int))) aa_nil))) (ae_one (ae_cmp ok_notIn (or_notIn (room65 hr)) (ao_ex (ae_ix hr rfl (ao_pl 0) (ao_ex ae_int))) (ao_pl 1)))))) al_nil)
      (al_cons (as_if (at_cmp ok_eq (or_eq hr.units) (ao_pl 3) (ao_ex ae_str)) (al_one (as_ret (ae_and2 (ae_cmp ok_eq (or_eq hr.units) (ao_ex (ae_ix hr rfl (ao_pl 1) (ao_pl 4))) (ao_ex (ae_ix hr rfl (ao_pl 0) (ao_ex ae_int)))) (ae_one (ae_cmp ok_notIn (or_notIn (room65 hr)) (ao_ex (ae_ix hr rfl (ao_pl 0) (ao_ex ae_int))) (ao_ex (ae_sl rfl (ao_pl 1) ap_none (ap_some (ae_var 4))))))))) al_nil)
      (al_cons (as_if (at_cmp ok_eq (or_eq hr.units) (ao_pl 3) (ao_ex ae_str)) (al_cons (as_setLc 5 [("call", 8)] S.nd (ai_any rfl (ae_var 1)) (fun _ _ _ _ _ => (ag_name 8 S.nd)) (fun _ _ _ _ _ => (apt_one (at_cmp ok_in (or_in (room65 hr)) (ao_pl 8) (ao_ex (ae_sl rfl (ao_pl 0) (ap_some ae_int) ap_none))))) (fun _ _ _ _ _ => (ae_var 8)))
      (al_one (as_ret (ae_and2 (ae_cmp ok_in (or_in (room65 hr)) (ao_ex (ae_ix hr rfl (ao_pl 1) (ao_pl 4))) (ao_ex (ae_sl rfl (ao_pl 0) (ap_some ae_int) ap_none))) (ae_one (ae_or2 (ae_cmp ok_eq (or_eq hr.units) (ao_ex (ae_sl rfl (ao_pl 5) (ap_some (ae_un ok_neg un_neg (ao_ex ae_int))) ap_none)) (ao_ex (ae_bin ok_mul or_mul (ao_ex (ae_lst (aa_cons (ao_fz (ae_ix hr rfl (ao_pl 1) (ao_pl 4))) aa_nil))) (ao_ex ae_int)))) (ae_one (ae_cmp ok_eq (or_eq hr.units) (ao_pl 5) (ao_ex (ae_lst (aa_cons (ao_fz (ae_ix hr rfl (ao_pl 0) (ao_ex ae_int))) aa_nil))))))))))) al_nil)
      (al_cons (as_if (at_cmp ok_eq (or_eq hr.units) (ao_pl 3) (ao_ex ae_str)) (al_cons (as_setLc 6 [("at", 9)] S.nd (ai_rng1 z_range (ae_b1 ok_len or_len z_len PySem.boot_len (ao_pl 1))) (fun _ _ _ _ _ => (ag_name 9 S.nd)) (fun _ _ _ _ _ => (apt_one (at_cmp ok_in (or_in (room65 hr)) (ao_ex (ae_ix hr rfl (ao_pl 1) (ao_pl 9))) (ao_ex (ae_ix hr rfl (ao_pl 0) (ao_ex ae_int)))))) (fun _ _ _ _ _ => (ae_var 9)))
      (al_cons (as_set 7 S.nd (ae_ifE (at_cmp ok_ne (or_ne hr.units) (ao_pl 6) (ao_ex (ae_lst aa_nil))) (ae_sl rfl (ao_pl 1) (ap_some (ae_bin ok_add or_add (ao_ex (ae_ix hr rfl (ao_pl 6) (ao_ex (ae_un ok_neg un_neg (ao_ex ae_int))))) (ao_ex ae_int))) ap_none) (ae_var 1)))
      (al_one (as_ret (ae_and2 (ae_cmp ok_eq (or_eq hr.units) (ao_ex (ae_ix hr rfl (ao_pl 1) (ao_pl 4))) (ao_ex (ae_ix hr rfl (ao_pl 0) (ao_ex ae_int)))) (ae_one (ae_cmp ok_gt or_gt (ao_ex (ae_b1 ok_len or_len z_len PySem.boot_len (ao_ex (ae_lc [("call", 8)] S.nd (ai_any rfl (ae_var 7)) (fun _ _ _ _ _ => (ag_name 8 S.nd)) (fun _ _ _ _ _ => (apt_one (at_cmp ok_eq (or_eq hr.units) (ao_pl 8) (ao_ex (ae_ix hr rfl (ao_pl 0) (ao_ex ae_int)))))) (fun _ _ _ _ _ => (ae_var 8)))))) (ao_ex (ae_ix hr rfl (ao_pl 0) (ao_ex ae_int)))))))))) al_nil)
      (al_cons (as_set 2 S.nd (ae_bin ok_sub op_sub (ao_pl 4) (ao_ex (ae_ix hr rfl (ao_pl 0) (ao_ex ae_int)))))
      (al_one (as_ret (ae_and2 (ae_cmp ok_ge or_ge (ao_pl 2) (ao_ex ae_int)) (ae_and2 (ae_cmp ok_eq (or_eq hr.units) (ao_ex (ae_ix hr rfl (ao_pl 1) (ao_pl 2))) (ao_ex (ae_ix hr rfl (ao_pl 0) (ao_ex ae_int)))) (ae_one (ae_cmp ok_notIn (or_notIn (room65 hr)) (ao_ex (ae_ix hr rfl (ao_pl 0) (ao_ex ae_int))) (ao_ex (ae_sl rfl (ao_pl 1) (ap_some (ae_bin ok_add or_add (ao_pl 2) (ao_ex ae_int))) ap_none)))))))))))))))⟩
abbrev s__law_plain_at : Stmt := top 27
theorem sc__law_plain_at : FnScope ["plain", "word", "many"] ["plain", "word"] (defScope s__law_plain_at) := ⟨rfl, rfl, rfl, by decide +kernel, rfl, by decide +kernel, by decide +kernel⟩
set_option maxHeartbeats 2000000 in
theorem ok__law_plain_at {f : Addr} {fd : FuncData} (F : Fun Γ.K "_law_plain_at" "_law_plain_at" s__law_plain_at f fd)
    (C__law_fresh_break : Cl Γ mg base 2 "_law_fresh_break" 2 [] (d__law_fresh_break))
    (z_range : mg "range" = none)
    (z_len : mg "len" = none) :
    FnOk Γ.prog Γ.w Γ.K mg base (L2.CX Γ.prog Γ.w) (2 + 1) f fd ["plain", "word"] (spD Γ 2 (d__law_plain_at)) := by
  have S := sc__law_plain_at
  refine fn_def (pb := [true, true]) (m := 3) F S rfl rfl fun cdv A outer s H E hr tk hp => ?_
  exact ⟨_, (al_cons (as_for (vs := [2]) hp (ai_rng2 z_range (ao_ex ae_int) (ao_ex (ae_bin ok_add or_add (ao_ex (ae_b1 ok_len or_len z_len PySem.boot_len (ao_pl 1))) (ao_ex ae_int)))) (ag_name 2 S.nd) (al_one (as_if (at_val (ae_call rfl rfl rfl C__law_fresh_break (hr.mono (by decide : 2 ≤ 2)) tk (aa_cons (ao_pl 0) (aa_cons (ao_ex (ae_sl rfl (ao_pl 1) ap_none (ap_some (ae_var 2)))) aa_nil)))) (al_one (as_ret (ae_move 2))) al_nil)))
      (al_one (as_ret (ae_bin ok_pow op_pow (ao_ex ae_int) (ao_ex ae_int)))))⟩
abbrev s__law_sentence_at : Stmt := top 28
theorem sc__law_sentence_at : FnScope ["sentence", "word", "found", "part"] ["sentence", "word"] (defScope s__law_sentence_at) := ⟨rfl, rfl, rfl, by decide +kernel, rfl, by decide +kernel, by decide +kernel⟩
set_option maxHeartbeats 2000000 in
theorem ok__law_sentence_at {n : Nat} {f : Addr} {fd : FuncData} (F : Fun Γ.K "_law_sentence_at" "_law_sentence_at" s__law_sentence_at f fd)
    (C__law_plain_at : Cl Γ mg base 3 "_law_plain_at" 2 [] (d__law_plain_at))
    (C__law_sentence_at : Cl Γ mg base (3 + n) "_law_sentence_at" 2 [] (d__law_sentence_at n))
    (z_min : mg "min" = none)
    (z_max : mg "max" = none) :
    FnOk Γ.prog Γ.w Γ.K mg base (L2.CX Γ.prog Γ.w) (3 + n + 1) f fd ["sentence", "word"] (spD Γ 2 (b__law_sentence_at (d__law_sentence_at n))) := by
  have S := sc__law_sentence_at
  refine fn_def (pb := [true, true]) (m := 4) F S rfl rfl fun cdv A outer s H E hr tk hp => ?_
  exact ⟨_, (al_cons (as_if (at_cmp ok_notIn (or_notIn (room65 hr)) (ao_ex (ae_ix hr rfl (ao_pl 0) (ao_ex ae_int))) (ao_ex (ae_lst (aa_cons (ao_ex ae_str) (aa_cons (ao_ex ae_str) aa_nil))))) (al_one (as_ret (ae_call rfl rfl rfl C__law_plain_at (hr.mono (Nat.le_trans (by decide : 3 ≤ 3) (Nat.le_add_right _ _))) tk (aa_cons (ao_pl 0) (aa_cons (ao_pl 1) aa_nil))))) al_nil)
      (al_cons (as_setLc 2 [("part", 3)] S.nd (ai_any rfl (ae_fz (ae_ix hr rfl (ao_pl 0) (ao_ex ae_int)))) (fun _ _ _ _ _ => (ag_name 3 S.nd)) (fun _ _ _ _ _ => apt_nil) (fun _ _ _ _ _ => (ae_call rfl rfl rfl C__law_sentence_at (hr.mono (Nat.le_refl _)) takes0 (aa_cons (ao_pl 3) (aa_cons (ao_pl 1) aa_nil)))))
      (al_one (as_ret (ae_ifE (at_cmp ok_eq (or_eq hr.units) (ao_ex (ae_ix hr rfl (ao_pl 0) (ao_ex ae_int))) (ao_ex ae_str)) (ae_b1 ok_minL (cr_min rfl) z_min b_min (ao_pl 2)) (ae_b1 ok_maxL (cr_max rfl) z_max b_max (ao_pl 2)))))))⟩
abbrev s_law : Stmt := top 29
theorem sc_law : FnScope ["script", "pen", "lap", "told", "calls", "sentence", "some", "word", "at", "due", "turn"] ["script"] (defScope s_law) := ⟨rfl, rfl, rfl, by decide +kernel, rfl, by decide +kernel, by decide +kernel⟩
set_option maxHeartbeats 2000000 in
theorem ok_law {f : Addr} {fd : FuncData} (F : Fun Γ.K "law" "law" s_law f fd)
    (C__law_pen : Cl Γ mg base 1 "_law_pen" 1 [] (d__law_pen))
    (C__law_calls : Cl Γ mg base 4 "_law_calls" 2 [] (d__law_calls))
    (C__law_draw : Cl Γ mg base 1 "_law_draw" 2 [] (d__law_draw))
    (C__law_some_sentence : Cl Γ mg base 12 "_law_some_sentence" 4 [] (d__law_some_sentence 8))
    (C__law_pick : Cl Γ mg base 2 "_law_pick" 2 [] (d__law_pick))
    (C__law_words_to : Cl Γ mg base 1 "_law_words_to" 2 [] (d__law_words_to))
    (C__law_some_word : Cl Γ mg base 3 "_law_some_word" 3 [] (d__law_some_word))
    (C__law_sentence_at : Cl Γ mg base 11 "_law_sentence_at" 2 [] (d__law_sentence_at 8))
    (C__law_same : Cl Γ mg base 8 "_law_same" 2 [] (d__law_same 8))
    (C_broken_at : Cl Γ mg base 10 "broken_at" 2 [] (d_broken_at))
    (C_is_broken : Cl Γ mg base 11 "is_broken" 2 [] (d_is_broken))
    (z_range : mg "range" = none)
    (z_len : mg "len" = none)
    (z_list : mg "list" = none) :
    FnOk Γ.prog Γ.w Γ.K mg base (L2.CX Γ.prog Γ.w) (12 + 1) f fd ["script"] (spD Γ 1 (d_law)) := by
  have S := sc_law
  refine fn_def (pb := [true]) (m := 11) F S rfl rfl fun cdv A outer s H E hr tk hp => ?_
  exact ⟨_, (al_cons (as_set 1 S.nd (ae_call rfl rfl rfl C__law_pen (hr.mono (by decide : 1 ≤ 12)) tk (aa_cons (ao_pl 0) aa_nil)))
      (al_cons (as_for (vs := [2]) hp (ai_rng1 z_range ae_int) (ag_name 2 S.nd) (al_cons (as_set 4 S.nd (ae_call rfl rfl rfl C__law_calls (hr.mono (by decide : 4 ≤ 12)) tk (aa_cons (ao_pl 1) (aa_cons (ao_ex (ae_bin ok_add or_add (ao_ex ae_int) (ao_ex (ae_call rfl rfl rfl C__law_draw (hr.mono (by decide : 1 ≤ 12)) tk (aa_cons (ao_pl 1) (aa_cons (ao_ex ae_int) aa_nil)))))) aa_nil))))
      (al_cons (as_set 5 S.nd (ae_call rfl rfl rfl C__law_some_sentence (hr.mono (by decide : 12 ≤ 12)) tk (aa_cons (ao_pl 1) (aa_cons (ao_pl 4) (aa_cons (ao_ex (ae_call rfl rfl rfl C__law_pick (hr.mono (by decide : 2 ≤ 12)) tk (aa_cons (ao_pl 1) (aa_cons (ao_ex (ae_lst (aa_cons (ao_ex ae_int) (aa_cons (ao_ex ae_int) (aa_cons (ao_ex ae_int) (aa_cons (ao_ex ae_int) (aa_cons (ao_ex ae_int) (aa_cons (ao_ex ae_int) aa_nil)))))))) aa_nil)))) (aa_cons (ao_ex (ae_bin ok_add or_add (ao_ex ae_int) (ao_ex (ae_call rfl rfl rfl C__law_draw (hr.mono (by decide : 1 ≤ 12)) tk (aa_cons (ao_pl 1) (aa_cons (ao_ex ae_int) aa_nil)))))) aa_nil))))))
      (al_cons (as_set 6 S.nd (ae_call rfl rfl rfl C__law_words_to (hr.mono (by decide : 1 ≤ 12)) tk (aa_cons (ao_pl 4) (aa_cons (ao_ex (ae_ifE (at_cmp ok_lt or_lt (ao_ex (ae_b1 ok_len or_len z_len PySem.boot_len (ao_pl 4))) (ao_ex ae_int)) ae_int ae_int)) aa_nil))))
      (al_one (as_for (vs := [7]) hp (ai_any rfl (ae_fz (ae_bin ok_add or_add (ao_pl 6) (ao_ex (ae_lc [("turn", 10)] S.nd (ai_rng1 z_range ae_int) (fun _ _ _ _ _ => (ag_name 10 S.nd)) (fun _ _ _ _ _ => apt_nil) (fun _ _ _ _ _ => (ae_call rfl rfl rfl C__law_some_word (hr.mono (by decide : 3 ≤ 12)) takes0 (aa_cons (ao_pl 1) (aa_cons (ao_ex (ae_bin ok_add or_add (ao_pl 4) (ao_ex (ae_tup (aa_cons (ao_ex ae_str) aa_nil))))) (aa_cons (ao_ex ae_int) aa_nil)))))))))) (ag_name 7 S.nd) (al_cons (as_set 8 S.nd (ae_call rfl rfl rfl C__law_sentence_at (hr.mono (by decide : 11 ≤ 12)) tk (aa_cons (ao_pl 5) (aa_cons (ao_pl 7) aa_nil))))
      (al_cons (as_set 9 S.nd (ae_ifE (at_cmp ok_lt or_lt (ao_pl 8) (ao_ex (ae_bin ok_pow op_pow (ao_ex ae_int) (ao_ex ae_int)))) (ae_var 8) ae_non))
      (al_cons (as_if (at_not (at_val (ae_call rfl rfl rfl C__law_same (hr.mono (by decide : 8 ≤ 12)) tk (aa_cons (ao_ex (ae_tup (aa_cons (ao_fz (ae_call rfl rfl rfl C_broken_at (hr.mono (by decide : 10 ≤ 12)) tk (aa_cons (ao_pl 5) (aa_cons (ao_pl 7) aa_nil)))) (aa_cons (ao_fz (ae_call rfl rfl rfl C_is_broken (hr.mono (by decide : 11 ≤ 12)) tk (aa_cons (ao_pl 5) (aa_cons (ao_pl 7) aa_nil)))) aa_nil)))) (aa_cons (ao_ex (ae_tup (aa_cons (ao_ex (ae_var 9)) (aa_cons (ao_fz (ae_notN (ao_pl 9))) aa_nil)))) aa_nil))))) (al_one (as_ret ae_bl)) al_nil)
      (al_one (as_if (at_w (aw_or (at_cmp ok_ne (or_ne hr.units) (ao_ex (ae_call rfl rfl rfl C_broken_at (hr.mono (by decide : 10 ≤ 12)) tk (aa_cons (ao_pl 5) (aa_cons (ao_ex (ae_t1 ok_list (or_list rfl) z_list boot_list (ao_pl 7))) aa_nil)))) (ao_pl 9)) (aw_or1 (at_w (aw_and (at_notN (ao_pl 9)) (aw_and1 (at_cmp ok_ne (or_ne hr.units) (ao_ex (ae_call rfl rfl rfl C_broken_at (hr.mono (by decide : 10 ≤ 12)) tk (aa_cons (ao_pl 5) (aa_cons (ao_ex (ae_bin ok_add or_add (ao_ex (ae_bin ok_add or_add (ao_pl 7) (ao_ex (ae_tup (aa_cons (ao_ex ae_str) aa_nil))))) (ao_pl 4))) aa_nil)))) (ao_pl 9)))))))) (al_one (as_ret ae_bl)) al_nil)))))))))))
      (al_cons (as_set 3 S.nd (ae_tup (aa_cons (ao_ex ae_str) (aa_cons (ao_fz (ae_tup (aa_cons (ao_fz (ae_tup (aa_cons (ao_ex ae_str) (aa_cons (ao_fz (ae_tup (aa_cons (ao_ex ae_str) aa_nil))) aa_nil)))) (aa_cons (ao_fz (ae_tup (aa_cons (ao_ex ae_str) (aa_cons (ao_ex ae_str) (aa_cons (ao_fz (ae_tup (aa_cons (ao_ex ae_str) (aa_cons (ao_ex ae_str) aa_nil)))) aa_nil))))) aa_nil)))) aa_nil))))
      (al_one (as_ret (ae_cmp ok_eq (or_eq hr.units) (ao_ex (ae_lc [("word", 7)] S.nd (ai_any rfl (ae_fz (ae_lst (aa_cons (ao_fz (ae_tup (aa_cons (ao_ex ae_str) aa_nil))) (aa_cons (ao_fz (ae_tup (aa_cons (ao_ex ae_str) (aa_cons (ao_ex ae_str) (aa_cons (ao_ex ae_str) aa_nil))))) (aa_cons (ao_fz (ae_tup (aa_cons (ao_ex ae_str) (aa_cons (ao_ex ae_str) aa_nil)))) (aa_cons (ao_fz (ae_tup (aa_cons (ao_ex ae_str) (aa_cons (ao_ex ae_str) (aa_cons (ao_ex ae_str) aa_nil))))) aa_nil))))))) (fun _ _ _ _ _ => (ag_name 7 S.nd)) (fun _ _ _ _ _ => apt_nil) (fun _ _ _ _ _ => (ae_call rfl rfl rfl C_broken_at (hr.mono (by decide : 10 ≤ 12)) takes0 (aa_cons (ao_pl 3) (aa_cons (ao_pl 7) aa_nil)))))) (ao_ex (ae_lst (aa_cons (ao_ex ae_non) (aa_cons (ao_ex ae_int) (aa_cons (ao_ex ae_int) (aa_cons (ao_ex ae_non) aa_nil))))))))))))⟩
theorem all_mk {l : PySem.W.OpenLaw} {w : World} {K : PySem.W.Frag} {h : Heap} {mg : Str → Option Value} {fa : Addr} (X : K.In h) (G : h.Ns mainGlobals mg) (hfa : mg "law" = some (.ref fa))
    {f_plain_of : Addr} {od_plain_of an_plain_of : Option Addr} {sl_plain_of : Array (Option Value)} {oc_plain_of kV_plain_of dc_plain_of pm_plain_of cd_plain_of ct_plain_of : Value}
    (a_plain_of : PySem.W.nsIn K mainGlobals "plain_of" = some (some (.ref f_plain_of)))
    (l_plain_of : K.lookup f_plain_of = some ⟨oc_plain_of, od_plain_of, .func (PySem.W.fnOf "plain_of" "plain_of" (defArgs s_plain_of) (defBody s_plain_of) (defScope s_plain_of) .none kV_plain_of dc_plain_of pm_plain_of an_plain_of cd_plain_of ct_plain_of), sl_plain_of⟩)
    (c_plain_of : PySem.W.codeIn K cd_plain_of "plain_of" = true) (k_plain_of : PySem.W.keepIn K (.ref f_plain_of) = true)
    {f_overlap : Addr} {od_overlap an_overlap : Option Addr} {sl_overlap : Array (Option Value)} {oc_overlap kV_overlap dc_overlap pm_overlap cd_overlap ct_overlap : Value}
    (a_overlap : PySem.W.nsIn K mainGlobals "overlap" = some (some (.ref f_overlap)))
    (l_overlap : K.lookup f_overlap = some ⟨oc_overlap, od_overlap, .func (PySem.W.fnOf "overlap" "overlap" (defArgs s_overlap) (defBody s_overlap) (defScope s_overlap) .none kV_overlap dc_overlap pm_overlap an_overlap cd_overlap ct_overlap), sl_overlap⟩)
    (c_overlap : PySem.W.codeIn K cd_overlap "overlap" = true) (k_overlap : PySem.W.keepIn K (.ref f_overlap) = true)
    {f_stretched : Addr} {od_stretched an_stretched : Option Addr} {sl_stretched : Array (Option Value)} {oc_stretched kV_stretched dc_stretched pm_stretched cd_stretched ct_stretched : Value}
    (a_stretched : PySem.W.nsIn K mainGlobals "stretched" = some (some (.ref f_stretched)))
    (l_stretched : K.lookup f_stretched = some ⟨oc_stretched, od_stretched, .func (PySem.W.fnOf "stretched" "stretched" (defArgs s_stretched) (defBody s_stretched) (defScope s_stretched) .none kV_stretched dc_stretched pm_stretched an_stretched cd_stretched ct_stretched), sl_stretched⟩)
    (c_stretched : PySem.W.codeIn K cd_stretched "stretched" = true) (k_stretched : PySem.W.keepIn K (.ref f_stretched) = true)
    {f_counted : Addr} {od_counted an_counted : Option Addr} {sl_counted : Array (Option Value)} {oc_counted kV_counted dc_counted pm_counted cd_counted ct_counted : Value}
    (a_counted : PySem.W.nsIn K mainGlobals "counted" = some (some (.ref f_counted)))
    (l_counted : K.lookup f_counted = some ⟨oc_counted, od_counted, .func (PySem.W.fnOf "counted" "counted" (defArgs s_counted) (defBody s_counted) (defScope s_counted) .none kV_counted dc_counted pm_counted an_counted cd_counted ct_counted), sl_counted⟩)
    (c_counted : PySem.W.codeIn K cd_counted "counted" = true) (k_counted : PySem.W.keepIn K (.ref f_counted) = true)
    {f_behind_mind : Addr} {od_behind_mind an_behind_mind : Option Addr} {sl_behind_mind : Array (Option Value)} {oc_behind_mind kV_behind_mind dc_behind_mind pm_behind_mind cd_behind_mind ct_behind_mind : Value}
    (a_behind_mind : PySem.W.nsIn K mainGlobals "behind_mind" = some (some (.ref f_behind_mind)))
    (l_behind_mind : K.lookup f_behind_mind = some ⟨oc_behind_mind, od_behind_mind, .func (PySem.W.fnOf "behind_mind" "behind_mind" (defArgs s_behind_mind) (defBody s_behind_mind) (defScope s_behind_mind) .none kV_behind_mind dc_behind_mind pm_behind_mind an_behind_mind cd_behind_mind ct_behind_mind), sl_behind_mind⟩)
    (c_behind_mind : PySem.W.codeIn K cd_behind_mind "behind_mind" = true) (k_behind_mind : PySem.W.keepIn K (.ref f_behind_mind) = true)
    {f_end_mind : Addr} {od_end_mind an_end_mind : Option Addr} {sl_end_mind : Array (Option Value)} {oc_end_mind kV_end_mind dc_end_mind pm_end_mind cd_end_mind ct_end_mind : Value}
    (a_end_mind : PySem.W.nsIn K mainGlobals "end_mind" = some (some (.ref f_end_mind)))
    (l_end_mind : K.lookup f_end_mind = some ⟨oc_end_mind, od_end_mind, .func (PySem.W.fnOf "end_mind" "end_mind" (defArgs s_end_mind) (defBody s_end_mind) (defScope s_end_mind) .none kV_end_mind dc_end_mind pm_end_mind an_end_mind cd_end_mind ct_end_mind), sl_end_mind⟩)
    (c_end_mind : PySem.W.codeIn K cd_end_mind "end_mind" = true) (k_end_mind : PySem.W.keepIn K (.ref f_end_mind) = true)
    {f_breaks : Addr} {od_breaks an_breaks : Option Addr} {sl_breaks : Array (Option Value)} {oc_breaks kV_breaks dc_breaks pm_breaks cd_breaks ct_breaks : Value}
    (a_breaks : PySem.W.nsIn K mainGlobals "breaks" = some (some (.ref f_breaks)))
    (l_breaks : K.lookup f_breaks = some ⟨oc_breaks, od_breaks, .func (PySem.W.fnOf "breaks" "breaks" (defArgs s_breaks) (defBody s_breaks) (defScope s_breaks) .none kV_breaks dc_breaks pm_breaks an_breaks cd_breaks ct_breaks), sl_breaks⟩)
    (c_breaks : PySem.W.codeIn K cd_breaks "breaks" = true) (k_breaks : PySem.W.keepIn K (.ref f_breaks) = true)
    {f_broken_at : Addr} {od_broken_at an_broken_at : Option Addr} {sl_broken_at : Array (Option Value)} {oc_broken_at kV_broken_at dc_broken_at pm_broken_at cd_broken_at ct_broken_at : Value}
    (a_broken_at : PySem.W.nsIn K mainGlobals "broken_at" = some (some (.ref f_broken_at)))
    (l_broken_at : K.lookup f_broken_at = some ⟨oc_broken_at, od_broken_at, .func (PySem.W.fnOf "broken_at" "broken_at" (defArgs s_broken_at) (defBody s_broken_at) (defScope s_broken_at) .none kV_broken_at dc_broken_at pm_broken_at an_broken_at cd_broken_at ct_broken_at), sl_broken_at⟩)
    (c_broken_at : PySem.W.codeIn K cd_broken_at "broken_at" = true) (k_broken_at : PySem.W.keepIn K (.ref f_broken_at) = true)
    {f_is_broken : Addr} {od_is_broken an_is_broken : Option Addr} {sl_is_broken : Array (Option Value)} {oc_is_broken kV_is_broken dc_is_broken pm_is_broken cd_is_broken ct_is_broken : Value}
    (a_is_broken : PySem.W.nsIn K mainGlobals "is_broken" = some (some (.ref f_is_broken)))
    (l_is_broken : K.lookup f_is_broken = some ⟨oc_is_broken, od_is_broken, .func (PySem.W.fnOf "is_broken" "is_broken" (defArgs s_is_broken) (defBody s_is_broken) (defScope s_is_broken) .none kV_is_broken dc_is_broken pm_is_broken an_is_broken cd_is_broken ct_is_broken), sl_is_broken⟩)
    (c_is_broken : PySem.W.codeIn K cd_is_broken "is_broken" = true) (k_is_broken : PySem.W.keepIn K (.ref f_is_broken) = true)
    {f__law_pen : Addr} {od__law_pen an__law_pen : Option Addr} {sl__law_pen : Array (Option Value)} {oc__law_pen kV__law_pen dc__law_pen pm__law_pen cd__law_pen ct__law_pen : Value}
    (a__law_pen : PySem.W.nsIn K mainGlobals "_law_pen" = some (some (.ref f__law_pen)))
    (l__law_pen : K.lookup f__law_pen = some ⟨oc__law_pen, od__law_pen, .func (PySem.W.fnOf "_law_pen" "_law_pen" (defArgs s__law_pen) (defBody s__law_pen) (defScope s__law_pen) .none kV__law_pen dc__law_pen pm__law_pen an__law_pen cd__law_pen ct__law_pen), sl__law_pen⟩)
    (c__law_pen : PySem.W.codeIn K cd__law_pen "_law_pen" = true) (k__law_pen : PySem.W.keepIn K (.ref f__law_pen) = true)
    {f__law_draw : Addr} {od__law_draw an__law_draw : Option Addr} {sl__law_draw : Array (Option Value)} {oc__law_draw kV__law_draw dc__law_draw pm__law_draw cd__law_draw ct__law_draw : Value}
    (a__law_draw : PySem.W.nsIn K mainGlobals "_law_draw" = some (some (.ref f__law_draw)))
    (l__law_draw : K.lookup f__law_draw = some ⟨oc__law_draw, od__law_draw, .func (PySem.W.fnOf "_law_draw" "_law_draw" (defArgs s__law_draw) (defBody s__law_draw) (defScope s__law_draw) .none kV__law_draw dc__law_draw pm__law_draw an__law_draw cd__law_draw ct__law_draw), sl__law_draw⟩)
    (c__law_draw : PySem.W.codeIn K cd__law_draw "_law_draw" = true) (k__law_draw : PySem.W.keepIn K (.ref f__law_draw) = true)
    {f__law_pick : Addr} {od__law_pick an__law_pick : Option Addr} {sl__law_pick : Array (Option Value)} {oc__law_pick kV__law_pick dc__law_pick pm__law_pick cd__law_pick ct__law_pick : Value}
    (a__law_pick : PySem.W.nsIn K mainGlobals "_law_pick" = some (some (.ref f__law_pick)))
    (l__law_pick : K.lookup f__law_pick = some ⟨oc__law_pick, od__law_pick, .func (PySem.W.fnOf "_law_pick" "_law_pick" (defArgs s__law_pick) (defBody s__law_pick) (defScope s__law_pick) .none kV__law_pick dc__law_pick pm__law_pick an__law_pick cd__law_pick ct__law_pick), sl__law_pick⟩)
    (c__law_pick : PySem.W.codeIn K cd__law_pick "_law_pick" = true) (k__law_pick : PySem.W.keepIn K (.ref f__law_pick) = true)
    {f__law_shuffled : Addr} {od__law_shuffled an__law_shuffled : Option Addr} {sl__law_shuffled : Array (Option Value)} {oc__law_shuffled kV__law_shuffled dc__law_shuffled pm__law_shuffled cd__law_shuffled ct__law_shuffled : Value}
    (a__law_shuffled : PySem.W.nsIn K mainGlobals "_law_shuffled" = some (some (.ref f__law_shuffled)))
    (l__law_shuffled : K.lookup f__law_shuffled = some ⟨oc__law_shuffled, od__law_shuffled, .func (PySem.W.fnOf "_law_shuffled" "_law_shuffled" (defArgs s__law_shuffled) (defBody s__law_shuffled) (defScope s__law_shuffled) .none kV__law_shuffled dc__law_shuffled pm__law_shuffled an__law_shuffled cd__law_shuffled ct__law_shuffled), sl__law_shuffled⟩)
    (c__law_shuffled : PySem.W.codeIn K cd__law_shuffled "_law_shuffled" = true) (k__law_shuffled : PySem.W.keepIn K (.ref f__law_shuffled) = true)
    {f__law_some : Addr} {od__law_some an__law_some : Option Addr} {sl__law_some : Array (Option Value)} {oc__law_some kV__law_some dc__law_some pm__law_some cd__law_some ct__law_some : Value}
    (a__law_some : PySem.W.nsIn K mainGlobals "_law_some" = some (some (.ref f__law_some)))
    (l__law_some : K.lookup f__law_some = some ⟨oc__law_some, od__law_some, .func (PySem.W.fnOf "_law_some" "_law_some" (defArgs s__law_some) (defBody s__law_some) (defScope s__law_some) .none kV__law_some dc__law_some pm__law_some an__law_some cd__law_some ct__law_some), sl__law_some⟩)
    (c__law_some : PySem.W.codeIn K cd__law_some "_law_some" = true) (k__law_some : PySem.W.keepIn K (.ref f__law_some) = true)
    {f__law_name : Addr} {od__law_name an__law_name : Option Addr} {sl__law_name : Array (Option Value)} {oc__law_name kV__law_name dc__law_name pm__law_name cd__law_name ct__law_name : Value}
    (a__law_name : PySem.W.nsIn K mainGlobals "_law_name" = some (some (.ref f__law_name)))
    (l__law_name : K.lookup f__law_name = some ⟨oc__law_name, od__law_name, .func (PySem.W.fnOf "_law_name" "_law_name" (defArgs s__law_name) (defBody s__law_name) (defScope s__law_name) .none kV__law_name dc__law_name pm__law_name an__law_name cd__law_name ct__law_name), sl__law_name⟩)
    (c__law_name : PySem.W.codeIn K cd__law_name "_law_name" = true) (k__law_name : PySem.W.keepIn K (.ref f__law_name) = true)
    {f__law_names : Addr} {od__law_names an__law_names : Option Addr} {sl__law_names : Array (Option Value)} {oc__law_names kV__law_names dc__law_names pm__law_names cd__law_names ct__law_names : Value}
    (a__law_names : PySem.W.nsIn K mainGlobals "_law_names" = some (some (.ref f__law_names)))
    (l__law_names : K.lookup f__law_names = some ⟨oc__law_names, od__law_names, .func (PySem.W.fnOf "_law_names" "_law_names" (defArgs s__law_names) (defBody s__law_names) (defScope s__law_names) .none kV__law_names dc__law_names pm__law_names an__law_names cd__law_names ct__law_names), sl__law_names⟩)
    (c__law_names : PySem.W.codeIn K cd__law_names "_law_names" = true) (k__law_names : PySem.W.keepIn K (.ref f__law_names) = true)
    {f__law_same : Addr} {od__law_same an__law_same : Option Addr} {sl__law_same : Array (Option Value)} {oc__law_same kV__law_same dc__law_same pm__law_same cd__law_same ct__law_same : Value}
    (a__law_same : PySem.W.nsIn K mainGlobals "_law_same" = some (some (.ref f__law_same)))
    (l__law_same : K.lookup f__law_same = some ⟨oc__law_same, od__law_same, .func (PySem.W.fnOf "_law_same" "_law_same" (defArgs s__law_same) (defBody s__law_same) (defScope s__law_same) .none kV__law_same dc__law_same pm__law_same an__law_same cd__law_same ct__law_same), sl__law_same⟩)
    (c__law_same : PySem.W.codeIn K cd__law_same "_law_same" = true) (k__law_same : PySem.W.keepIn K (.ref f__law_same) = true)
    {f__law_calls : Addr} {od__law_calls an__law_calls : Option Addr} {sl__law_calls : Array (Option Value)} {oc__law_calls kV__law_calls dc__law_calls pm__law_calls cd__law_calls ct__law_calls : Value}
    (a__law_calls : PySem.W.nsIn K mainGlobals "_law_calls" = some (some (.ref f__law_calls)))
    (l__law_calls : K.lookup f__law_calls = some ⟨oc__law_calls, od__law_calls, .func (PySem.W.fnOf "_law_calls" "_law_calls" (defArgs s__law_calls) (defBody s__law_calls) (defScope s__law_calls) .none kV__law_calls dc__law_calls pm__law_calls an__law_calls cd__law_calls ct__law_calls), sl__law_calls⟩)
    (c__law_calls : PySem.W.codeIn K cd__law_calls "_law_calls" = true) (k__law_calls : PySem.W.keepIn K (.ref f__law_calls) = true)
    {f__law_some_word : Addr} {od__law_some_word an__law_some_word : Option Addr} {sl__law_some_word : Array (Option Value)} {oc__law_some_word kV__law_some_word dc__law_some_word pm__law_some_word cd__law_some_word ct__law_some_word : Value}
    (a__law_some_word : PySem.W.nsIn K mainGlobals "_law_some_word" = some (some (.ref f__law_some_word)))
    (l__law_some_word : K.lookup f__law_some_word = some ⟨oc__law_some_word, od__law_some_word, .func (PySem.W.fnOf "_law_some_word" "_law_some_word" (defArgs s__law_some_word) (defBody s__law_some_word) (defScope s__law_some_word) .none kV__law_some_word dc__law_some_word pm__law_some_word an__law_some_word cd__law_some_word ct__law_some_word), sl__law_some_word⟩)
    (c__law_some_word : PySem.W.codeIn K cd__law_some_word "_law_some_word" = true) (k__law_some_word : PySem.W.keepIn K (.ref f__law_some_word) = true)
    {f__law_words_to : Addr} {od__law_words_to an__law_words_to : Option Addr} {sl__law_words_to : Array (Option Value)} {oc__law_words_to kV__law_words_to dc__law_words_to pm__law_words_to cd__law_words_to ct__law_words_to : Value}
    (a__law_words_to : PySem.W.nsIn K mainGlobals "_law_words_to" = some (some (.ref f__law_words_to)))
    (l__law_words_to : K.lookup f__law_words_to = some ⟨oc__law_words_to, od__law_words_to, .func (PySem.W.fnOf "_law_words_to" "_law_words_to" (defArgs s__law_words_to) (defBody s__law_words_to) (defScope s__law_words_to) .none kV__law_words_to dc__law_words_to pm__law_words_to an__law_words_to cd__law_words_to ct__law_words_to), sl__law_words_to⟩)
    (c__law_words_to : PySem.W.codeIn K cd__law_words_to "_law_words_to" = true) (k__law_words_to : PySem.W.keepIn K (.ref f__law_words_to) = true)
    {f__law_some_plain : Addr} {od__law_some_plain an__law_some_plain : Option Addr} {sl__law_some_plain : Array (Option Value)} {oc__law_some_plain kV__law_some_plain dc__law_some_plain pm__law_some_plain cd__law_some_plain ct__law_some_plain : Value}
    (a__law_some_plain : PySem.W.nsIn K mainGlobals "_law_some_plain" = some (some (.ref f__law_some_plain)))
    (l__law_some_plain : K.lookup f__law_some_plain = some ⟨oc__law_some_plain, od__law_some_plain, .func (PySem.W.fnOf "_law_some_plain" "_law_some_plain" (defArgs s__law_some_plain) (defBody s__law_some_plain) (defScope s__law_some_plain) .none kV__law_some_plain dc__law_some_plain pm__law_some_plain an__law_some_plain cd__law_some_plain ct__law_some_plain), sl__law_some_plain⟩)
    (c__law_some_plain : PySem.W.codeIn K cd__law_some_plain "_law_some_plain" = true) (k__law_some_plain : PySem.W.keepIn K (.ref f__law_some_plain) = true)
    {f__law_some_sentence : Addr} {od__law_some_sentence an__law_some_sentence : Option Addr} {sl__law_some_sentence : Array (Option Value)} {oc__law_some_sentence kV__law_some_sentence dc__law_some_sentence pm__law_some_sentence cd__law_some_sentence ct__law_some_sentence : Value}
    (a__law_some_sentence : PySem.W.nsIn K mainGlobals "_law_some_sentence" = some (some (.ref f__law_some_sentence)))
    (l__law_some_sentence : K.lookup f__law_some_sentence = some ⟨oc__law_some_sentence, od__law_some_sentence, .func (PySem.W.fnOf "_law_some_sentence" "_law_some_sentence" (defArgs s__law_some_sentence) (defBody s__law_some_sentence) (defScope s__law_some_sentence) .none kV__law_some_sentence dc__law_some_sentence pm__law_some_sentence an__law_some_sentence cd__law_some_sentence ct__law_some_sentence), sl__law_some_sentence⟩)
    (c__law_some_sentence : PySem.W.codeIn K cd__law_some_sentence "_law_some_sentence" = true) (k__law_some_sentence : PySem.W.keepIn K (.ref f__law_some_sentence) = true)
    {f__law_ends_so : Addr} {od__law_ends_so an__law_ends_so : Option Addr} {sl__law_ends_so : Array (Option Value)} {oc__law_ends_so kV__law_ends_so dc__law_ends_so pm__law_ends_so cd__law_ends_so ct__law_ends_so : Value}
    (a__law_ends_so : PySem.W.nsIn K mainGlobals "_law_ends_so" = some (some (.ref f__law_ends_so)))
    (l__law_ends_so : K.lookup f__law_ends_so = some ⟨oc__law_ends_so, od__law_ends_so, .func (PySem.W.fnOf "_law_ends_so" "_law_ends_so" (defArgs s__law_ends_so) (defBody s__law_ends_so) (defScope s__law_ends_so) .none kV__law_ends_so dc__law_ends_so pm__law_ends_so an__law_ends_so cd__law_ends_so ct__law_ends_so), sl__law_ends_so⟩)
    (c__law_ends_so : PySem.W.codeIn K cd__law_ends_so "_law_ends_so" = true) (k__law_ends_so : PySem.W.keepIn K (.ref f__law_ends_so) = true)
    {f__law_fresh_break : Addr} {od__law_fresh_break an__law_fresh_break : Option Addr} {sl__law_fresh_break : Array (Option Value)} {oc__law_fresh_break kV__law_fresh_break dc__law_fresh_break pm__law_fresh_break cd__law_fresh_break ct__law_fresh_break : Value}
    (a__law_fresh_break : PySem.W.nsIn K mainGlobals "_law_fresh_break" = some (some (.ref f__law_fresh_break)))
    (l__law_fresh_break : K.lookup f__law_fresh_break = some ⟨oc__law_fresh_break, od__law_fresh_break, .func (PySem.W.fnOf "_law_fresh_break" "_law_fresh_break" (defArgs s__law_fresh_break) (defBody s__law_fresh_break) (defScope s__law_fresh_break) .none kV__law_fresh_break dc__law_fresh_break pm__law_fresh_break an__law_fresh_break cd__law_fresh_break ct__law_fresh_break), sl__law_fresh_break⟩)
    (c__law_fresh_break : PySem.W.codeIn K cd__law_fresh_break "_law_fresh_break" = true) (k__law_fresh_break : PySem.W.keepIn K (.ref f__law_fresh_break) = true)
    {f__law_plain_at : Addr} {od__law_plain_at an__law_plain_at : Option Addr} {sl__law_plain_at : Array (Option Value)} {oc__law_plain_at kV__law_plain_at dc__law_plain_at pm__law_plain_at cd__law_plain_at ct__law_plain_at : Value}
    (a__law_plain_at : PySem.W.nsIn K mainGlobals "_law_plain_at" = some (some (.ref f__law_plain_at)))
    (l__law_plain_at : K.lookup f__law_plain_at = some ⟨oc__law_plain_at, od__law_plain_at, .func (PySem.W.fnOf "_law_plain_at" "_law_plain_at" (defArgs s__law_plain_at) (defBody s__law_plain_at) (defScope s__law_plain_at) .none kV__law_plain_at dc__law_plain_at pm__law_plain_at an__law_plain_at cd__law_plain_at ct__law_plain_at), sl__law_plain_at⟩)
    (c__law_plain_at : PySem.W.codeIn K cd__law_plain_at "_law_plain_at" = true) (k__law_plain_at : PySem.W.keepIn K (.ref f__law_plain_at) = true)
    {f__law_sentence_at : Addr} {od__law_sentence_at an__law_sentence_at : Option Addr} {sl__law_sentence_at : Array (Option Value)} {oc__law_sentence_at kV__law_sentence_at dc__law_sentence_at pm__law_sentence_at cd__law_sentence_at ct__law_sentence_at : Value}
    (a__law_sentence_at : PySem.W.nsIn K mainGlobals "_law_sentence_at" = some (some (.ref f__law_sentence_at)))
    (l__law_sentence_at : K.lookup f__law_sentence_at = some ⟨oc__law_sentence_at, od__law_sentence_at, .func (PySem.W.fnOf "_law_sentence_at" "_law_sentence_at" (defArgs s__law_sentence_at) (defBody s__law_sentence_at) (defScope s__law_sentence_at) .none kV__law_sentence_at dc__law_sentence_at pm__law_sentence_at an__law_sentence_at cd__law_sentence_at ct__law_sentence_at), sl__law_sentence_at⟩)
    (c__law_sentence_at : PySem.W.codeIn K cd__law_sentence_at "_law_sentence_at" = true) (k__law_sentence_at : PySem.W.keepIn K (.ref f__law_sentence_at) = true)
    {f_law : Addr} {od_law an_law : Option Addr} {sl_law : Array (Option Value)} {oc_law kV_law dc_law pm_law cd_law ct_law : Value}
    (a_law : PySem.W.nsIn K mainGlobals "law" = some (some (.ref f_law)))
    (l_law : K.lookup f_law = some ⟨oc_law, od_law, .func (PySem.W.fnOf "law" "law" (defArgs s_law) (defBody s_law) (defScope s_law) .none kV_law dc_law pm_law an_law cd_law ct_law), sl_law⟩)
    (c_law : PySem.W.codeIn K cd_law "law" = true) (k_law : PySem.W.keepIn K (.ref f_law) = true)
    (n_range : PySem.W.nsIn K mainGlobals "range" = some none)
    (n_len : PySem.W.nsIn K mainGlobals "len" = some none)
    (n_min : PySem.W.nsIn K mainGlobals "min" = some none)
    (n_any : PySem.W.nsIn K mainGlobals "any" = some none)
    (n_all : PySem.W.nsIn K mainGlobals "all" = some none)
    (n_list : PySem.W.nsIn K mainGlobals "list" = some none)
    (n_zip : PySem.W.nsIn K mainGlobals "zip" = some none)
    (n_int : PySem.W.nsIn K mainGlobals "int" = some none)
    (n_str : PySem.W.nsIn K mainGlobals "str" = some none)
    (n_isinstance : PySem.W.nsIn K mainGlobals "isinstance" = some none)
    (n_tuple : PySem.W.nsIn K mainGlobals "tuple" = some none)
    (n_bool : PySem.W.nsIn K mainGlobals "bool" = some none)
    (n_sorted : PySem.W.nsIn K mainGlobals "sorted" = some none)
    (n_max : PySem.W.nsIn K mainGlobals "max" = some none)
    {a_JOINTS : Addr} {dd_JOINTS : Option Addr} {n_JOINTS : Nat} {sl_JOINTS : Array (Option Value)} {t_JOINTS_0 t_JOINTS_1 : Tok} (q_JOINTS : PySem.W.nsIn K mainGlobals "JOINTS" = some (some (.ref a_JOINTS)))
    (w_JOINTS : K.lookup a_JOINTS = some ⟨.type "tuple", dd_JOINTS, .seq #[(Value.str "and" t_JOINTS_0), (Value.str "or" t_JOINTS_1)] n_JOINTS, sl_JOINTS⟩)
    {cls : Nat → Addr} : ∃ fd : FuncData, (∀ (s : Shared) (v : Value), BindsTo s fd ⟨[v], []⟩ [("script", v)]) ∧ ∀ base : Heap, K.In base → base.Ns mainGlobals mg → FnOk l.prog w K mg base (L2.CX l.prog w) 13 fa fd ["script"] (spD ⟨l.prog, w, K, cls⟩ 1 d_law) := by
  have e := hfa.symm.trans (PySem.W.mg_of X G a_law)
  cases e
  let Γ : Gb := ⟨l.prog, w, K, cls⟩
  have g_JOINTS : GC Γ mg "JOINTS" (.ref a_JOINTS) c_JOINTS := gc_tup (PySem.W.mg_of X G q_JOINTS) w_JOINTS rfl (by exact (.cons ⟨_, rfl⟩ (.cons ⟨_, rfl⟩ .nil))) (by rw [sizeLine_eq]; exact (by decide : 2 ≤ 16777216))
  have z_range : mg "range" = none := PySem.W.mg_none_of X G n_range
  have z_len : mg "len" = none := PySem.W.mg_none_of X G n_len
  have z_min : mg "min" = none := PySem.W.mg_none_of X G n_min
  have z_any : mg "any" = none := PySem.W.mg_none_of X G n_any
  have z_all : mg "all" = none := PySem.W.mg_none_of X G n_all
  have z_list : mg "list" = none := PySem.W.mg_none_of X G n_list
  have z_zip : mg "zip" = none := PySem.W.mg_none_of X G n_zip
  have z_int : mg "int" = none := PySem.W.mg_none_of X G n_int
  have z_str : mg "str" = none := PySem.W.mg_none_of X G n_str
  have z_isinstance : mg "isinstance" = none := PySem.W.mg_none_of X G n_isinstance
  have z_tuple : mg "tuple" = none := PySem.W.mg_none_of X G n_tuple
  have z_bool : mg "bool" = none := PySem.W.mg_none_of X G n_bool
  have z_sorted : mg "sorted" = none := PySem.W.mg_none_of X G n_sorted
  have z_max : mg "max" = none := PySem.W.mg_none_of X G n_max
  have F_plain_of : Fun Γ.K "plain_of" "plain_of" s_plain_of _ _ := fun_mk (st := s_plain_of) l_plain_of c_plain_of k_plain_of
  have B_plain_of := F_plain_of.binds (ps := ["sentence"]) fun _ _ _ _ _ _ us hl => match us, hl with | [_], _ => rfl
  have F_overlap : Fun Γ.K "overlap" "overlap" s_overlap _ _ := fun_mk (st := s_overlap) l_overlap c_overlap k_overlap
  have B_overlap := F_overlap.binds (ps := ["row", "word"]) fun _ _ _ _ _ _ us hl => match us, hl with | [_, _], _ => rfl
  have F_stretched : Fun Γ.K "stretched" "stretched" s_stretched _ _ := fun_mk (st := s_stretched) l_stretched c_stretched k_stretched
  have B_stretched := F_stretched.binds (ps := ["row", "mind", "call"]) fun _ _ _ _ _ _ us hl => match us, hl with | [_, _, _], _ => rfl
  have F_counted : Fun Γ.K "counted" "counted" s_counted _ _ := fun_mk (st := s_counted) l_counted c_counted k_counted
  have B_counted := F_counted.binds (ps := ["plain", "mind", "call"]) fun _ _ _ _ _ _ us hl => match us, hl with | [_, _, _], _ => rfl
  have F_behind_mind : Fun Γ.K "behind_mind" "behind_mind" s_behind_mind _ _ := fun_mk (st := s_behind_mind) l_behind_mind c_behind_mind k_behind_mind
  have B_behind_mind := F_behind_mind.binds (ps := ["plain", "mind", "call"]) fun _ _ _ _ _ _ us hl => match us, hl with | [_, _, _], _ => rfl
  have F_end_mind : Fun Γ.K "end_mind" "end_mind" s_end_mind _ _ := fun_mk (st := s_end_mind) l_end_mind c_end_mind k_end_mind
  have B_end_mind := F_end_mind.binds (ps := ["plain"]) fun _ _ _ _ _ _ us hl => match us, hl with | [_], _ => rfl
  have F_breaks : Fun Γ.K "breaks" "breaks" s_breaks _ _ := fun_mk (st := s_breaks) l_breaks c_breaks k_breaks
  have B_breaks := F_breaks.binds (ps := ["sentence", "minds"]) fun _ _ _ _ _ _ us hl => match us, hl with | [_, _], _ => rfl
  have F_broken_at : Fun Γ.K "broken_at" "broken_at" s_broken_at _ _ := fun_mk (st := s_broken_at) l_broken_at c_broken_at k_broken_at
  have B_broken_at := F_broken_at.binds (ps := ["sentence", "word"]) fun _ _ _ _ _ _ us hl => match us, hl with | [_, _], _ => rfl
  have F_is_broken : Fun Γ.K "is_broken" "is_broken" s_is_broken _ _ := fun_mk (st := s_is_broken) l_is_broken c_is_broken k_is_broken
  have B_is_broken := F_is_broken.binds (ps := ["sentence", "word"]) fun _ _ _ _ _ _ us hl => match us, hl with | [_, _], _ => rfl
  have F__law_pen : Fun Γ.K "_law_pen" "_law_pen" s__law_pen _ _ := fun_mk (st := s__law_pen) l__law_pen c__law_pen k__law_pen
  have B__law_pen := F__law_pen.binds (ps := ["script"]) fun _ _ _ _ _ _ us hl => match us, hl with | [_], _ => rfl
  have F__law_draw : Fun Γ.K "_law_draw" "_law_draw" s__law_draw _ _ := fun_mk (st := s__law_draw) l__law_draw c__law_draw k__law_draw
  have B__law_draw := F__law_draw.binds (ps := ["pen", "many"]) fun _ _ _ _ _ _ us hl => match us, hl with | [_, _], _ => rfl
  have F__law_pick : Fun Γ.K "_law_pick" "_law_pick" s__law_pick _ _ := fun_mk (st := s__law_pick) l__law_pick c__law_pick k__law_pick
  have B__law_pick := F__law_pick.binds (ps := ["pen", "some"]) fun _ _ _ _ _ _ us hl => match us, hl with | [_, _], _ => rfl
  have F__law_shuffled : Fun Γ.K "_law_shuffled" "_law_shuffled" s__law_shuffled _ _ := fun_mk (st := s__law_shuffled) l__law_shuffled c__law_shuffled k__law_shuffled
  have B__law_shuffled := F__law_shuffled.binds (ps := ["pen", "some"]) fun _ _ _ _ _ _ us hl => match us, hl with | [_, _], _ => rfl
  have F__law_some : Fun Γ.K "_law_some" "_law_some" s__law_some _ _ := fun_mk (st := s__law_some) l__law_some c__law_some k__law_some
  have B__law_some := F__law_some.binds (ps := ["pen", "some", "most"]) fun _ _ _ _ _ _ us hl => match us, hl with | [_, _, _], _ => rfl
  have F__law_name : Fun Γ.K "_law_name" "_law_name" s__law_name _ _ := fun_mk (st := s__law_name) l__law_name c__law_name k__law_name
  have B__law_name := F__law_name.binds (ps := ["pen", "index"]) fun _ _ _ _ _ _ us hl => match us, hl with | [_, _], _ => rfl
  have F__law_names : Fun Γ.K "_law_names" "_law_names" s__law_names _ _ := fun_mk (st := s__law_names) l__law_names c__law_names k__law_names
  have B__law_names := F__law_names.binds (ps := ["pen", "many"]) fun _ _ _ _ _ _ us hl => match us, hl with | [_, _], _ => rfl
  have F__law_same : Fun Γ.K "_law_same" "_law_same" s__law_same _ _ := fun_mk (st := s__law_same) l__law_same c__law_same k__law_same
  have B__law_same := F__law_same.binds (ps := ["told", "due"]) fun _ _ _ _ _ _ us hl => match us, hl with | [_, _], _ => rfl
  have F__law_calls : Fun Γ.K "_law_calls" "_law_calls" s__law_calls _ _ := fun_mk (st := s__law_calls) l__law_calls c__law_calls k__law_calls
  have B__law_calls := F__law_calls.binds (ps := ["pen", "many"]) fun _ _ _ _ _ _ us hl => match us, hl with | [_, _], _ => rfl
  have F__law_some_word : Fun Γ.K "_law_some_word" "_law_some_word" s__law_some_word _ _ := fun_mk (st := s__law_some_word) l__law_some_word c__law_some_word k__law_some_word
  have B__law_some_word := F__law_some_word.binds (ps := ["pen", "calls", "most"]) fun _ _ _ _ _ _ us hl => match us, hl with | [_, _, _], _ => rfl
  have F__law_words_to : Fun Γ.K "_law_words_to" "_law_words_to" s__law_words_to _ _ := fun_mk (st := s__law_words_to) l__law_words_to c__law_words_to k__law_words_to
  have B__law_words_to := F__law_words_to.binds (ps := ["calls", "most"]) fun _ _ _ _ _ _ us hl => match us, hl with | [_, _], _ => rfl
  have F__law_some_plain : Fun Γ.K "_law_some_plain" "_law_some_plain" s__law_some_plain _ _ := fun_mk (st := s__law_some_plain) l__law_some_plain c__law_some_plain k__law_some_plain
  have B__law_some_plain := F__law_some_plain.binds (ps := ["pen", "calls"]) fun _ _ _ _ _ _ us hl => match us, hl with | [_, _], _ => rfl
  have F__law_some_sentence : Fun Γ.K "_law_some_sentence" "_law_some_sentence" s__law_some_sentence _ _ := fun_mk (st := s__law_some_sentence) l__law_some_sentence c__law_some_sentence k__law_some_sentence
  have B__law_some_sentence := F__law_some_sentence.binds (ps := ["pen", "calls", "many", "deep"]) fun _ _ _ _ _ _ us hl => match us, hl with | [_, _, _, _], _ => rfl
  have F__law_ends_so : Fun Γ.K "_law_ends_so" "_law_ends_so" s__law_ends_so _ _ := fun_mk (st := s__law_ends_so) l__law_ends_so c__law_ends_so k__law_ends_so
  have B__law_ends_so := F__law_ends_so.binds (ps := ["word", "row"]) fun _ _ _ _ _ _ us hl => match us, hl with | [_, _], _ => rfl
  have F__law_fresh_break : Fun Γ.K "_law_fresh_break" "_law_fresh_break" s__law_fresh_break _ _ := fun_mk (st := s__law_fresh_break) l__law_fresh_break c__law_fresh_break k__law_fresh_break
  have B__law_fresh_break := F__law_fresh_break.binds (ps := ["plain", "word"]) fun _ _ _ _ _ _ us hl => match us, hl with | [_, _], _ => rfl
  have F__law_plain_at : Fun Γ.K "_law_plain_at" "_law_plain_at" s__law_plain_at _ _ := fun_mk (st := s__law_plain_at) l__law_plain_at c__law_plain_at k__law_plain_at
  have B__law_plain_at := F__law_plain_at.binds (ps := ["plain", "word"]) fun _ _ _ _ _ _ us hl => match us, hl with | [_, _], _ => rfl
  have F__law_sentence_at : Fun Γ.K "_law_sentence_at" "_law_sentence_at" s__law_sentence_at _ _ := fun_mk (st := s__law_sentence_at) l__law_sentence_at c__law_sentence_at k__law_sentence_at
  have B__law_sentence_at := F__law_sentence_at.binds (ps := ["sentence", "word"]) fun _ _ _ _ _ _ us hl => match us, hl with | [_, _], _ => rfl
  have F_law : Fun Γ.K "law" "law" s_law _ _ := fun_mk (st := s_law) l_law c_law k_law
  refine ⟨PySem.W.fnOf "law" "law" (defArgs s_law) (defBody s_law) (defScope s_law) .none kV_law dc_law pm_law an_law cd_law ct_law, fun s v => .of_eq rfl, fun base _ _ => ?_⟩
  have C_plain_of : Cl Γ mg base 8 "plain_of" 1 [] (d_plain_of 8) := by
    have all : ∀ n, Cl Γ mg base (0 + n) "plain_of" 1 [] (d_plain_of n) := fun n => by
      induction n with
      | zero => exact cl_mk0 (ps := ["sentence"]) (fn_stuck rfl) (PySem.W.mg_of X G a_plain_of) k_plain_of B_plain_of
      | succ n ih => exact cl_mk0 (ok_plain_of (Γ := Γ) (base := base) F_plain_of ih g_JOINTS) (PySem.W.mg_of X G a_plain_of) k_plain_of B_plain_of
    exact all 8
  have C_overlap : Cl Γ mg base 1 "overlap" 2 [] (d_overlap) := cl_mk0 (ok_overlap (Γ := Γ) (base := base) F_overlap z_range z_len z_min) (PySem.W.mg_of X G a_overlap) k_overlap B_overlap
  have C_stretched : Cl Γ mg base 2 "stretched" 3 [] (d_stretched) := cl_mk0 (ok_stretched (Γ := Γ) (base := base) F_stretched C_overlap z_len) (PySem.W.mg_of X G a_stretched) k_stretched B_stretched
  have C_counted : Cl Γ mg base 1 "counted" 3 [] (d_counted) := cl_mk0 (ok_counted (Γ := Γ) (base := base) F_counted) (PySem.W.mg_of X G a_counted) k_counted B_counted
  have C_behind_mind : Cl Γ mg base 3 "behind_mind" 3 [] (d_behind_mind) := cl_mk0 (ok_behind_mind (Γ := Γ) (base := base) F_behind_mind C_stretched C_counted z_len) (PySem.W.mg_of X G a_behind_mind) k_behind_mind B_behind_mind
  have C_end_mind : Cl Γ mg base 1 "end_mind" 1 [] (d_end_mind) := cl_mk0 (ok_end_mind (Γ := Γ) (base := base) F_end_mind z_len) (PySem.W.mg_of X G a_end_mind) k_end_mind B_end_mind
  have C_breaks : Cl Γ mg base 9 "breaks" 2 [] (d_breaks 8) := by
    have all : ∀ n, Cl Γ mg base (1 + n) "breaks" 2 [] (d_breaks n) := fun n => by
      induction n with
      | zero => exact cl_mk0 (ps := ["sentence", "minds"]) (fn_stuck rfl) (PySem.W.mg_of X G a_breaks) k_breaks B_breaks
      | succ n ih => exact cl_mk0 (ok_breaks (Γ := Γ) (base := base) F_breaks C_end_mind ih z_any z_all g_JOINTS) (PySem.W.mg_of X G a_breaks) k_breaks B_breaks
    exact all 8
  have C_broken_at : Cl Γ mg base 10 "broken_at" 2 [] (d_broken_at) := cl_mk0 (ok_broken_at (Γ := Γ) (base := base) F_broken_at C_plain_of C_breaks C_behind_mind z_list z_len z_zip) (PySem.W.mg_of X G a_broken_at) k_broken_at B_broken_at
  have C_is_broken : Cl Γ mg base 11 "is_broken" 2 [] (d_is_broken) := cl_mk0 (ok_is_broken (Γ := Γ) (base := base) F_is_broken C_broken_at) (PySem.W.mg_of X G a_is_broken) k_is_broken B_is_broken
  have C__law_pen : Cl Γ mg base 1 "_law_pen" 1 [] (d__law_pen) := cl_mk0 (ok__law_pen (Γ := Γ) (base := base) F__law_pen z_int z_list) (PySem.W.mg_of X G a__law_pen) k__law_pen B__law_pen
  have C__law_draw : Cl Γ mg base 1 "_law_draw" 2 [] (d__law_draw) := cl_mk0 (ok__law_draw (Γ := Γ) (base := base) F__law_draw z_len z_int) (PySem.W.mg_of X G a__law_draw) k__law_draw B__law_draw
  have C__law_pick : Cl Γ mg base 2 "_law_pick" 2 [] (d__law_pick) := cl_mk0 (ok__law_pick (Γ := Γ) (base := base) F__law_pick C__law_draw z_len) (PySem.W.mg_of X G a__law_pick) k__law_pick B__law_pick
  have C__law_shuffled : Cl Γ mg base 2 "_law_shuffled" 2 [] (d__law_shuffled) := cl_mk0 (ok__law_shuffled (Γ := Γ) (base := base) F__law_shuffled C__law_draw z_list z_range z_len) (PySem.W.mg_of X G a__law_shuffled) k__law_shuffled B__law_shuffled
  have C__law_some : Cl Γ mg base 3 "_law_some" 3 [] (d__law_some) := cl_mk0 (ok__law_some (Γ := Γ) (base := base) F__law_some C__law_shuffled C__law_draw z_len z_min) (PySem.W.mg_of X G a__law_some) k__law_some B__law_some
  have C__law_name : Cl Γ mg base 2 "_law_name" 2 [] (d__law_name) := cl_mk0 (ok__law_name (Γ := Γ) (base := base) F__law_name C__law_draw z_range z_len z_str) (PySem.W.mg_of X G a__law_name) k__law_name B__law_name
  have C__law_names : Cl Γ mg base 3 "_law_names" 2 [] (d__law_names) := cl_mk0 (ok__law_names (Γ := Γ) (base := base) F__law_names C__law_shuffled C__law_name z_range) (PySem.W.mg_of X G a__law_names) k__law_names B__law_names
  have C__law_same : Cl Γ mg base 8 "_law_same" 2 [] (d__law_same 8) := by
    have all : ∀ n, Cl Γ mg base (0 + n) "_law_same" 2 [] (d__law_same n) := fun n => by
      induction n with
      | zero => exact cl_mk0 (ps := ["told", "due"]) (fn_stuck rfl) (PySem.W.mg_of X G a__law_same) k__law_same B__law_same
      | succ n ih => exact cl_mk0 (ok__law_same (Γ := Γ) (base := base) F__law_same ih z_isinstance z_tuple z_len z_zip z_all z_int z_bool z_str) (PySem.W.mg_of X G a__law_same) k__law_same B__law_same
    exact all 8
  have C__law_calls : Cl Γ mg base 4 "_law_calls" 2 [] (d__law_calls) := cl_mk0 (ok__law_calls (Γ := Γ) (base := base) F__law_calls C__law_names z_sorted z_tuple) (PySem.W.mg_of X G a__law_calls) k__law_calls B__law_calls
  have C__law_some_word : Cl Γ mg base 3 "_law_some_word" 3 [] (d__law_some_word) := cl_mk0 (ok__law_some_word (Γ := Γ) (base := base) F__law_some_word C__law_draw C__law_pick z_range z_tuple) (PySem.W.mg_of X G a__law_some_word) k__law_some_word B__law_some_word
  have C__law_words_to : Cl Γ mg base 1 "_law_words_to" 2 [] (d__law_words_to) := cl_mk0 (ok__law_words_to (Γ := Γ) (base := base) F__law_words_to z_range) (PySem.W.mg_of X G a__law_words_to) k__law_words_to B__law_words_to
  have C__law_some_plain : Cl Γ mg base 4 "_law_some_plain" 2 [] (d__law_some_plain) := cl_mk0 (ok__law_some_plain (Γ := Γ) (base := base) F__law_some_plain C__law_draw C__law_pick C__law_shuffled C__law_some z_len z_range z_tuple z_sorted) (PySem.W.mg_of X G a__law_some_plain) k__law_some_plain B__law_some_plain
  have C__law_some_sentence : Cl Γ mg base 12 "_law_some_sentence" 4 [] (d__law_some_sentence 8) := by
    have all : ∀ n, Cl Γ mg base (4 + n) "_law_some_sentence" 4 [] (d__law_some_sentence n) := fun n => by
      induction n with
      | zero => exact cl_mk0 (ps := ["pen", "calls", "many", "deep"]) (fn_stuck rfl) (PySem.W.mg_of X G a__law_some_sentence) k__law_some_sentence B__law_some_sentence
      | succ n ih => exact cl_mk0 (ok__law_some_sentence (Γ := Γ) (base := base) F__law_some_sentence C__law_some_plain C__law_pick C__law_draw ih z_range z_min z_len z_tuple) (PySem.W.mg_of X G a__law_some_sentence) k__law_some_sentence B__law_some_sentence
    exact all 8
  have C__law_ends_so : Cl Γ mg base 1 "_law_ends_so" 2 [] (d__law_ends_so) := cl_mk0 (ok__law_ends_so (Γ := Γ) (base := base) F__law_ends_so z_len) (PySem.W.mg_of X G a__law_ends_so) k__law_ends_so B__law_ends_so
  have C__law_fresh_break : Cl Γ mg base 2 "_law_fresh_break" 2 [] (d__law_fresh_break) := cl_mk0 (ok__law_fresh_break (Γ := Γ) (base := base) F__law_fresh_break C__law_ends_so z_len z_range) (PySem.W.mg_of X G a__law_fresh_break) k__law_fresh_break B__law_fresh_break
  have C__law_plain_at : Cl Γ mg base 3 "_law_plain_at" 2 [] (d__law_plain_at) := cl_mk0 (ok__law_plain_at (Γ := Γ) (base := base) F__law_plain_at C__law_fresh_break z_range z_len) (PySem.W.mg_of X G a__law_plain_at) k__law_plain_at B__law_plain_at
  have C__law_sentence_at : Cl Γ mg base 11 "_law_sentence_at" 2 [] (d__law_sentence_at 8) := by
    have all : ∀ n, Cl Γ mg base (3 + n) "_law_sentence_at" 2 [] (d__law_sentence_at n) := fun n => by
      induction n with
      | zero => exact cl_mk0 (ps := ["sentence", "word"]) (fn_stuck rfl) (PySem.W.mg_of X G a__law_sentence_at) k__law_sentence_at B__law_sentence_at
      | succ n ih => exact cl_mk0 (ok__law_sentence_at (Γ := Γ) (base := base) F__law_sentence_at C__law_plain_at ih z_min z_max) (PySem.W.mg_of X G a__law_sentence_at) k__law_sentence_at B__law_sentence_at
    exact all 8
  exact ok_law (Γ := Γ) (base := base) F_law C__law_pen C__law_calls C__law_draw C__law_some_sentence C__law_pick C__law_words_to C__law_some_word C__law_sentence_at C__law_same C_broken_at C_is_broken z_range z_len z_list
end
end Lw
end
section
open PySem L2 Den
namespace Lw
/-! ### a plain sentence -/
inductive Pl where
  | never (r : List Str) | until (a : Str) (r : List Str) | after (a b : Str) | turns (a b : Str) | most (n : Nat) (a : Str) (cs : List Str) | within (n : Nat) (a b : Str)
def Pl.d : Pl → D
  | .never r => .tup [.str "never", tS r]
  | .until a r => .tup [.str "until", .str a, tS r]
  | .after a b => .tup [.str "after", .str a, .str b]
  | .turns a b => .tup [.str "turns", .str a, .str b]
  | .most n a cs => .tup [.str "most", .int n, .str a, tS cs]
  | .within n a b => .tup [.str "within", .int n, .str a, .str b]
def Pl.ok : Pl → Prop
  | .never r => okSs r ∧ r ≠ [] ∧ r.length ≤ 1000
  | .until a r => okSs (a :: r) ∧ r ≠ [] ∧ r.length ≤ 1000
  | .after a b => okSs [a, b] ∧ a ≠ b
  | .turns a b => okSs [a, b] ∧ a ≠ b
  | .most n a cs => okSs (a :: cs) ∧ a ∉ cs ∧ cs.length ≤ 1000 ∧ 0 < n
  | .within n a b => okSs [a, b] ∧ a ≠ b ∧ 0 < n
/-- the longest beginning of row, of at most many, that ends word -/
def ovl (row word : List Str) : Nat → Nat
  | 0 => 0
  | m + 1 => if word.drop (word.length - (m + 1)) = row.take (m + 1) then m + 1 else ovl row word m
def ov (row word : List Str) : Nat := ovl row word (min row.length word.length)
theorem dwn_zero (n : Nat) : dwnD n ((n : Int) - 0).toNat = (List.range n).map fun i : Nat => D.int ((n : Int) + (i : Int) * (-1)) := by
  unfold dwnD
  have : ((n : Int) - 0).toNat = n := by omega
  rw [this]
theorem dwn_succ (n : Nat) : ((List.range (n + 1)).map fun i : Nat => D.int (((n + 1 : Nat) : Int) + (i : Int) * (-1))) = D.int ((n + 1 : Nat) : Int) :: (List.range n).map fun i : Nat => D.int ((n : Int) + (i : Int) * (-1)) := by
  rw [List.range_succ_eq_map, List.map_cons, List.map_map]
  congr 1
  · simp
    omega
theorem okS_drop {xs : List Str} (h : okSs xs) (n : Nat) : okSs (xs.drop n) := fun x hx => h x (List.mem_of_mem_drop hx)
theorem okS_take {xs : List Str} (h : okSs xs) (n : Nat) : okSs (xs.take n) := fun x hx => h x (List.mem_of_mem_take hx)
theorem t_overlap {row word : List Str} (h1 : okSs row) (h2 : okSs word) (n1 : row.length ≤ 100000) (n2 : word.length ≤ 100000) : d_overlap [.sh (tS row), .sh (tS word)] = .ret (.sh (.int (ov row word))) [.sh (tS row), .sh (tS word)] := by
  have key : ∀ m : Nat, m ≤ row.length → m ≤ word.length → ∀ x : Option O, ∃ y, forD (aN 2) (sIf (aB (aOp [.ex (aSl (.pl 1) (some (aOp [.ex (aOp [.pl 1] (l1 gLen)), .pl 2] (l2 Den.gSub))) none gSl), .ex (aSl (.pl 0) none (some (aVar 2)) gSl)] (l2 gEq))) (sRet (aMove 2)) sNext) ((List.range m).map fun i : Nat => D.int ((m : Int) + (i : Int) * (-1))) [some (.sh (tS row)), some (.sh (tS word)), x] =
      if ovl row word m = 0 then .nx [some (.sh (tS row)), some (.sh (tS word)), y] else .ret (.sh (.int (ovl row word m))) [some (.sh (tS row)), some (.sh (tS word)), y] := by
    intro m
    induction m with
    | zero => exact fun _ _ x => ⟨x, rfl⟩
    | succ m ih =>
      intro hr hw x
      rw [dwn_succ, forD, aN_in (by simp)]
      have e1 : (word.length : Int) - ((m + 1 : Nat) : Int) = ((word.length - (m + 1) : Nat) : Int) := by omega
      simp only [aDef, pre, outs, List.map_cons, List.map_nil, List.replicate, List.cons_append, List.nil_append, List.length_cons, List.length_nil, sSeq, sSet, sRet, sRetN, sIf, sDrop, sPar, sAsg, sNext, aB, aC, aVar, aMove, aFz, aTV, aNot, aAnd, aOr, aIfE, aAndV, aOrV, aOp, aSl, aP, evA, rsv, l1, l2, Res.bind, Res.out, List.getElem?_cons_zero, List.getElem?_cons_succ, List.set_cons_zero, List.set_cons_succ, Option.map_some, Option.map_none, fz, shs, if_true, if_false, ite_true, ite_false, Bool.false_eq_true, reduceIte, reduceCtorEq, Nat.reduceAdd, Nat.reduceSub, Nat.reduceLT, Nat.reduceLeDiff, Nat.reduceEqDiff, Bool.not_true, Bool.not_false, Nat.sub_self, Nat.zero_add, and_self, true_and, and_true, Nat.lt_add_one, decide_true, decide_false, decide_eq_true_eq , gSl_tS, gLen_tS, gLen_lS, gTup_str, gIn_tS, gNotIn_tS, gIn_lS, gNotIn_lS, gEq_int, gEq_str, gNe_int, gNe_str, cut_from, cut_to , gTup_str2, gIx_tup, atI_0, atI_1, atI_2, atI_3, gSl_tup, List.mem_cons, List.not_mem_nil, or_false, false_or, true_or, or_true, not_true_eq_false, not_false_eq_true , aCall, tak, giv, List.append_nil, aMeth, Den.gSub, e1]
      have q := gEq_tS (xs := word.drop (word.length - (m + 1))) (ys := row.take (m + 1)) (okS_drop h2 _) (okS_take h1 _)
      simp only [q, ovl, aDef, pre, outs, List.map_cons, List.map_nil, List.replicate, List.cons_append, List.nil_append, List.length_cons, List.length_nil, sSeq, sSet, sRet, sRetN, sIf, sDrop, sPar, sAsg, sNext, aB, aC, aVar, aMove, aFz, aTV, aNot, aAnd, aOr, aIfE, aAndV, aOrV, aOp, aSl, aP, evA, rsv, l1, l2, Res.bind, Res.out, List.getElem?_cons_zero, List.getElem?_cons_succ, List.set_cons_zero, List.set_cons_succ, Option.map_some, Option.map_none, fz, shs, if_true, if_false, ite_true, ite_false, Bool.false_eq_true, reduceIte, reduceCtorEq, Nat.reduceAdd, Nat.reduceSub, Nat.reduceLT, Nat.reduceLeDiff, Nat.reduceEqDiff, Bool.not_true, Bool.not_false, Nat.sub_self, Nat.zero_add, and_self, true_and, and_true, Nat.lt_add_one, decide_true, decide_false, decide_eq_true_eq , gSl_tS, gLen_tS, gLen_lS, gTup_str, gIn_tS, gNotIn_tS, gIn_lS, gNotIn_lS, gEq_int, gEq_str, gNe_int, gNe_str, cut_from, cut_to , gTup_str2, gIx_tup, atI_0, atI_1, atI_2, atI_3, gSl_tup, List.mem_cons, List.not_mem_nil, or_false, false_or, true_or, or_true, not_true_eq_false, not_false_eq_true , aCall, tak, giv, List.append_nil, aMeth]
      by_cases hc : word.drop (word.length - (m + 1)) = row.take (m + 1)
      · refine ⟨some (.sh (.int ((m + 1 : Nat) : Int))), ?_⟩
        simp only [hc, aDef, pre, outs, List.map_cons, List.map_nil, List.replicate, List.cons_append, List.nil_append, List.length_cons, List.length_nil, sSeq, sSet, sRet, sRetN, sIf, sDrop, sPar, sAsg, sNext, aB, aC, aVar, aMove, aFz, aTV, aNot, aAnd, aOr, aIfE, aAndV, aOrV, aOp, aSl, aP, evA, rsv, l1, l2, Res.bind, Res.out, List.getElem?_cons_zero, List.getElem?_cons_succ, List.set_cons_zero, List.set_cons_succ, Option.map_some, Option.map_none, fz, shs, if_true, if_false, ite_true, ite_false, Bool.false_eq_true, reduceIte, reduceCtorEq, Nat.reduceAdd, Nat.reduceSub, Nat.reduceLT, Nat.reduceLeDiff, Nat.reduceEqDiff, Bool.not_true, Bool.not_false, Nat.sub_self, Nat.zero_add, and_self, true_and, and_true, Nat.lt_add_one, decide_true, decide_false, decide_eq_true_eq , gSl_tS, gLen_tS, gLen_lS, gTup_str, gIn_tS, gNotIn_tS, gIn_lS, gNotIn_lS, gEq_int, gEq_str, gNe_int, gNe_str, cut_from, cut_to , gTup_str2, gIx_tup, atI_0, atI_1, atI_2, atI_3, gSl_tup, List.mem_cons, List.not_mem_nil, or_false, false_or, true_or, or_true, not_true_eq_false, not_false_eq_true , aCall, tak, giv, List.append_nil, aMeth]
      · obtain ⟨y, hy⟩ := ih (by omega) (by omega) (some (.sh (.int ((m + 1 : Nat) : Int))))
        refine ⟨y, ?_⟩
        simp only [hc, aDef, pre, outs, List.map_cons, List.map_nil, List.replicate, List.cons_append, List.nil_append, List.length_cons, List.length_nil, sSeq, sSet, sRet, sRetN, sIf, sDrop, sPar, sAsg, sNext, aB, aC, aVar, aMove, aFz, aTV, aNot, aAnd, aOr, aIfE, aAndV, aOrV, aOp, aSl, aP, evA, rsv, l1, l2, Res.bind, Res.out, List.getElem?_cons_zero, List.getElem?_cons_succ, List.set_cons_zero, List.set_cons_succ, Option.map_some, Option.map_none, fz, shs, if_true, if_false, ite_true, ite_false, Bool.false_eq_true, reduceIte, reduceCtorEq, Nat.reduceAdd, Nat.reduceSub, Nat.reduceLT, Nat.reduceLeDiff, Nat.reduceEqDiff, Bool.not_true, Bool.not_false, Nat.sub_self, Nat.zero_add, and_self, true_and, and_true, Nat.lt_add_one, decide_true, decide_false, decide_eq_true_eq , gSl_tS, gLen_tS, gLen_lS, gTup_str, gIn_tS, gNotIn_tS, gIn_lS, gNotIn_lS, gEq_int, gEq_str, gNe_int, gNe_str, cut_from, cut_to , gTup_str2, gIx_tup, atI_0, atI_1, atI_2, atI_3, gSl_tup, List.mem_cons, List.not_mem_nil, or_false, false_or, true_or, or_true, not_true_eq_false, not_false_eq_true , aCall, tak, giv, List.append_nil, aMeth]
        exact hy
  obtain ⟨y, hy⟩ := key (min row.length word.length) (Nat.min_le_left _ _) (Nat.min_le_right _ _) none
  unfold d_overlap
  simp only [aDef, pre, outs, List.map_cons, List.map_nil, List.replicate, List.cons_append, List.nil_append, List.length_cons, List.length_nil, sSeq, sSet, sRet, sRetN, sIf, sDrop, sPar, sAsg, sNext, aB, aC, aVar, aMove, aFz, aTV, aNot, aAnd, aOr, aIfE, aAndV, aOrV, aOp, aSl, aP, evA, rsv, l1, l2, Res.bind, Res.out, List.getElem?_cons_zero, List.getElem?_cons_succ, List.set_cons_zero, List.set_cons_succ, Option.map_some, Option.map_none, fz, shs, if_true, if_false, ite_true, ite_false, Bool.false_eq_true, reduceIte, reduceCtorEq, Nat.reduceAdd, Nat.reduceSub, Nat.reduceLT, Nat.reduceLeDiff, Nat.reduceEqDiff, Bool.not_true, Bool.not_false, Nat.sub_self, Nat.zero_add, and_self, true_and, and_true, Nat.lt_add_one, decide_true, decide_false, decide_eq_true_eq , gSl_tS, gLen_tS, gLen_lS, gTup_str, gIn_tS, gNotIn_tS, gIn_lS, gNotIn_lS, gEq_int, gEq_str, gNe_int, gNe_str, cut_from, cut_to , gTup_str2, gIx_tup, atI_0, atI_1, atI_2, atI_3, gSl_tup, List.mem_cons, List.not_mem_nil, or_false, false_or, true_or, or_true, not_true_eq_false, not_false_eq_true , aCall, tak, giv, List.append_nil, aMeth, sFor, aRngD, gMin2]
  have e2 : (if (word.length : Int) < (row.length : Int) then (word.length : Int) else (row.length : Int)) = ((min row.length word.length : Nat) : Int) := by
    split <;> omega
  simp only [e2]
  rw [if_pos (by omega)]
  simp only [Res.out, dwn_zero]
  rw [hy]
  by_cases hz : ovl row word (min row.length word.length) = 0
  · simp only [hz, aDef, pre, outs, List.map_cons, List.map_nil, List.replicate, List.cons_append, List.nil_append, List.length_cons, List.length_nil, sSeq, sSet, sRet, sRetN, sIf, sDrop, sPar, sAsg, sNext, aB, aC, aVar, aMove, aFz, aTV, aNot, aAnd, aOr, aIfE, aAndV, aOrV, aOp, aSl, aP, evA, rsv, l1, l2, Res.bind, Res.out, List.getElem?_cons_zero, List.getElem?_cons_succ, List.set_cons_zero, List.set_cons_succ, Option.map_some, Option.map_none, fz, shs, if_true, if_false, ite_true, ite_false, Bool.false_eq_true, reduceIte, reduceCtorEq, Nat.reduceAdd, Nat.reduceSub, Nat.reduceLT, Nat.reduceLeDiff, Nat.reduceEqDiff, Bool.not_true, Bool.not_false, Nat.sub_self, Nat.zero_add, and_self, true_and, and_true, Nat.lt_add_one, decide_true, decide_false, decide_eq_true_eq , gSl_tS, gLen_tS, gLen_lS, gTup_str, gIn_tS, gNotIn_tS, gIn_lS, gNotIn_lS, gEq_int, gEq_str, gNe_int, gNe_str, cut_from, cut_to , gTup_str2, gIx_tup, atI_0, atI_1, atI_2, atI_3, gSl_tup, List.mem_cons, List.not_mem_nil, or_false, false_or, true_or, or_true, not_true_eq_false, not_false_eq_true , aCall, tak, giv, List.append_nil, aMeth, ov]
    rfl
  · simp only [hz, aDef, pre, outs, List.map_cons, List.map_nil, List.replicate, List.cons_append, List.nil_append, List.length_cons, List.length_nil, sSeq, sSet, sRet, sRetN, sIf, sDrop, sPar, sAsg, sNext, aB, aC, aVar, aMove, aFz, aTV, aNot, aAnd, aOr, aIfE, aAndV, aOrV, aOp, aSl, aP, evA, rsv, l1, l2, Res.bind, Res.out, List.getElem?_cons_zero, List.getElem?_cons_succ, List.set_cons_zero, List.set_cons_succ, Option.map_some, Option.map_none, fz, shs, if_true, if_false, ite_true, ite_false, Bool.false_eq_true, reduceIte, reduceCtorEq, Nat.reduceAdd, Nat.reduceSub, Nat.reduceLT, Nat.reduceLeDiff, Nat.reduceEqDiff, Bool.not_true, Bool.not_false, Nat.sub_self, Nat.zero_add, and_self, true_and, and_true, Nat.lt_add_one, decide_true, decide_false, decide_eq_true_eq , gSl_tS, gLen_tS, gLen_lS, gTup_str, gIn_tS, gNotIn_tS, gIn_lS, gNotIn_lS, gEq_int, gEq_str, gNe_int, gNe_str, cut_from, cut_to , gTup_str2, gIx_tup, atI_0, atI_1, atI_2, atI_3, gSl_tup, List.mem_cons, List.not_mem_nil, or_false, false_or, true_or, or_true, not_true_eq_false, not_false_eq_true , aCall, tak, giv, List.append_nil, aMeth, ov]
theorem k_never_until : ¬ (("never" : Str) = "until") := by decide +kernel
theorem k_never_after : ¬ (("never" : Str) = "after") := by decide +kernel
theorem k_never_turns : ¬ (("never" : Str) = "turns") := by decide +kernel
theorem k_never_most : ¬ (("never" : Str) = "most") := by decide +kernel
theorem k_never_within : ¬ (("never" : Str) = "within") := by decide +kernel
theorem k_never_and : ¬ (("never" : Str) = "and") := by decide +kernel
theorem k_never_or : ¬ (("never" : Str) = "or") := by decide +kernel
theorem k_until_never : ¬ (("until" : Str) = "never") := by decide +kernel
theorem k_until_after : ¬ (("until" : Str) = "after") := by decide +kernel
theorem k_until_turns : ¬ (("until" : Str) = "turns") := by decide +kernel
theorem k_until_most : ¬ (("until" : Str) = "most") := by decide +kernel
theorem k_until_within : ¬ (("until" : Str) = "within") := by decide +kernel
theorem k_until_and : ¬ (("until" : Str) = "and") := by decide +kernel
theorem k_until_or : ¬ (("until" : Str) = "or") := by decide +kernel
theorem k_after_never : ¬ (("after" : Str) = "never") := by decide +kernel
theorem k_after_until : ¬ (("after" : Str) = "until") := by decide +kernel
theorem k_after_turns : ¬ (("after" : Str) = "turns") := by decide +kernel
theorem k_after_most : ¬ (("after" : Str) = "most") := by decide +kernel
theorem k_after_within : ¬ (("after" : Str) = "within") := by decide +kernel
theorem k_after_and : ¬ (("after" : Str) = "and") := by decide +kernel
theorem k_after_or : ¬ (("after" : Str) = "or") := by decide +kernel
theorem k_turns_never : ¬ (("turns" : Str) = "never") := by decide +kernel
theorem k_turns_until : ¬ (("turns" : Str) = "until") := by decide +kernel
theorem k_turns_after : ¬ (("turns" : Str) = "after") := by decide +kernel
theorem k_turns_most : ¬ (("turns" : Str) = "most") := by decide +kernel
theorem k_turns_within : ¬ (("turns" : Str) = "within") := by decide +kernel
theorem k_turns_and : ¬ (("turns" : Str) = "and") := by decide +kernel
theorem k_turns_or : ¬ (("turns" : Str) = "or") := by decide +kernel
theorem k_most_never : ¬ (("most" : Str) = "never") := by decide +kernel
theorem k_most_until : ¬ (("most" : Str) = "until") := by decide +kernel
theorem k_most_after : ¬ (("most" : Str) = "after") := by decide +kernel
theorem k_most_turns : ¬ (("most" : Str) = "turns") := by decide +kernel
theorem k_most_within : ¬ (("most" : Str) = "within") := by decide +kernel
theorem k_most_and : ¬ (("most" : Str) = "and") := by decide +kernel
theorem k_most_or : ¬ (("most" : Str) = "or") := by decide +kernel
theorem k_within_never : ¬ (("within" : Str) = "never") := by decide +kernel
theorem k_within_until : ¬ (("within" : Str) = "until") := by decide +kernel
theorem k_within_after : ¬ (("within" : Str) = "after") := by decide +kernel
theorem k_within_turns : ¬ (("within" : Str) = "turns") := by decide +kernel
theorem k_within_most : ¬ (("within" : Str) = "most") := by decide +kernel
theorem k_within_and : ¬ (("within" : Str) = "and") := by decide +kernel
theorem k_within_or : ¬ (("within" : Str) = "or") := by decide +kernel
theorem k_and_never : ¬ (("and" : Str) = "never") := by decide +kernel
theorem k_and_until : ¬ (("and" : Str) = "until") := by decide +kernel
theorem k_and_after : ¬ (("and" : Str) = "after") := by decide +kernel
theorem k_and_turns : ¬ (("and" : Str) = "turns") := by decide +kernel
theorem k_and_most : ¬ (("and" : Str) = "most") := by decide +kernel
theorem k_and_within : ¬ (("and" : Str) = "within") := by decide +kernel
theorem k_and_or : ¬ (("and" : Str) = "or") := by decide +kernel
theorem k_or_never : ¬ (("or" : Str) = "never") := by decide +kernel
theorem k_or_until : ¬ (("or" : Str) = "until") := by decide +kernel
theorem k_or_after : ¬ (("or" : Str) = "after") := by decide +kernel
theorem k_or_turns : ¬ (("or" : Str) = "turns") := by decide +kernel
theorem k_or_most : ¬ (("or" : Str) = "most") := by decide +kernel
theorem k_or_within : ¬ (("or" : Str) = "within") := by decide +kernel
theorem k_or_and : ¬ (("or" : Str) = "and") := by decide +kernel
def strch (row : List Str) (m : Nat) (c : Str) : Nat := if m = row.length then m else ov row (row.take m ++ [c])
theorem t_stretched {row : List Str} {m : Nat} {c : Str} (h1 : okSs row) (h2 : okS c) (n1 : row.length ≤ 1000) (hm : m ≤ row.length) : d_stretched [.sh (tS row), .sh (.int m), .sh (.str c)] = .ret (.sh (.int (strch row m c))) [.sh (tS row), .sh (.int m), .sh (.str c)] := by
  unfold d_stretched strch
  simp only [aDef, pre, outs, List.map_cons, List.map_nil, List.replicate, List.cons_append, List.nil_append, List.length_cons, List.length_nil, sSeq, sSet, sRet, sRetN, sIf, sDrop, sPar, sAsg, sNext, aB, aC, aVar, aMove, aFz, aTV, aNot, aAnd, aOr, aIfE, aAndV, aOrV, aOp, aSl, aP, evA, rsv, l1, l2, Res.bind, Res.out, List.getElem?_cons_zero, List.getElem?_cons_succ, List.set_cons_zero, List.set_cons_succ, Option.map_some, Option.map_none, fz, shs, if_true, if_false, ite_true, ite_false, Bool.false_eq_true, reduceIte, reduceCtorEq, Nat.reduceAdd, Nat.reduceSub, Nat.reduceLT, Nat.reduceLeDiff, Nat.reduceEqDiff, Bool.not_true, Bool.not_false, Nat.sub_self, Nat.zero_add, and_self, true_and, and_true, Nat.lt_add_one, decide_true, decide_false, decide_eq_true_eq , gSl_tS, gLen_tS, gLen_lS, gTup_str, gIn_tS, gNotIn_tS, gIn_lS, gNotIn_lS, gEq_int, gEq_str, gNe_int, gNe_str, cut_from, cut_to , gTup_str2, gIx_tup, atI_0, atI_1, atI_2, atI_3, gSl_tup, List.mem_cons, List.not_mem_nil, or_false, false_or, true_or, or_true, not_true_eq_false, not_false_eq_true , aCall, tak, giv, List.append_nil, aMeth]
  by_cases h : m = row.length
  · simp only [h, aDef, pre, outs, List.map_cons, List.map_nil, List.replicate, List.cons_append, List.nil_append, List.length_cons, List.length_nil, sSeq, sSet, sRet, sRetN, sIf, sDrop, sPar, sAsg, sNext, aB, aC, aVar, aMove, aFz, aTV, aNot, aAnd, aOr, aIfE, aAndV, aOrV, aOp, aSl, aP, evA, rsv, l1, l2, Res.bind, Res.out, List.getElem?_cons_zero, List.getElem?_cons_succ, List.set_cons_zero, List.set_cons_succ, Option.map_some, Option.map_none, fz, shs, if_true, if_false, ite_true, ite_false, Bool.false_eq_true, reduceIte, reduceCtorEq, Nat.reduceAdd, Nat.reduceSub, Nat.reduceLT, Nat.reduceLeDiff, Nat.reduceEqDiff, Bool.not_true, Bool.not_false, Nat.sub_self, Nat.zero_add, and_self, true_and, and_true, Nat.lt_add_one, decide_true, decide_false, decide_eq_true_eq , gSl_tS, gLen_tS, gLen_lS, gTup_str, gIn_tS, gNotIn_tS, gIn_lS, gNotIn_lS, gEq_int, gEq_str, gNe_int, gNe_str, cut_from, cut_to , gTup_str2, gIx_tup, atI_0, atI_1, atI_2, atI_3, gSl_tup, List.mem_cons, List.not_mem_nil, or_false, false_or, true_or, or_true, not_true_eq_false, not_false_eq_true , aCall, tak, giv, List.append_nil, aMeth]
  · have h' : ¬ ((m : Int) = (row.length : Int)) := by omega
    have hl : (row.take m).length = m := by rw [List.length_take]; omega
    have e := t_overlap (row := row) (word := row.take m ++ [c]) h1 (fun x hx => by
      rcases List.mem_append.mp hx with q | q
      · exact h1 x (List.mem_of_mem_take q)
      · rw [List.mem_singleton.mp q]; exact h2) (by omega) (by rw [List.length_append, hl]; simp; omega)
    simp only [h, h', aDef, pre, outs, List.map_cons, List.map_nil, List.replicate, List.cons_append, List.nil_append, List.length_cons, List.length_nil, sSeq, sSet, sRet, sRetN, sIf, sDrop, sPar, sAsg, sNext, aB, aC, aVar, aMove, aFz, aTV, aNot, aAnd, aOr, aIfE, aAndV, aOrV, aOp, aSl, aP, evA, rsv, l1, l2, Res.bind, Res.out, List.getElem?_cons_zero, List.getElem?_cons_succ, List.set_cons_zero, List.set_cons_succ, Option.map_some, Option.map_none, fz, shs, if_true, if_false, ite_true, ite_false, Bool.false_eq_true, reduceIte, reduceCtorEq, Nat.reduceAdd, Nat.reduceSub, Nat.reduceLT, Nat.reduceLeDiff, Nat.reduceEqDiff, Bool.not_true, Bool.not_false, Nat.sub_self, Nat.zero_add, and_self, true_and, and_true, Nat.lt_add_one, decide_true, decide_false, decide_eq_true_eq , gSl_tS, gLen_tS, gLen_lS, gTup_str, gIn_tS, gNotIn_tS, gIn_lS, gNotIn_lS, gEq_int, gEq_str, gNe_int, gNe_str, cut_from, cut_to , gTup_str2, gIx_tup, atI_0, atI_1, atI_2, atI_3, gSl_tup, List.mem_cons, List.not_mem_nil, or_false, false_or, true_or, or_true, not_true_eq_false, not_false_eq_true , aCall, tak, giv, List.append_nil, aMeth, aCall, gAdd_tS (show (row.take m).length + [c].length ≤ 16000000 by rw [hl]; simp; omega), tak, giv, e, List.append_nil]
def step : Pl → Int → Str → Int
  | .never r, m, c => strch r m.toNat c
  | .until a r, m, c => if m = r.length ∨ m < 0 then m else if c = a then -1 else strch r m.toNat c
  | .after a b, m, c => if ¬ (c = a ∨ c = b) ∨ m = 2 then m else if m = 1 ∨ c = a then 1 else 2
  | .turns a b, m, c => if ¬ (c = a ∨ c = b) ∨ m = 2 then m else if c = (if m = 0 then a else b) then 1 - m else 2
  | .most n a cs, m, c => if m = n + 1 then m else if c = a then m + 1 else if c ∈ cs then 0 else m
  | .within n a b, m, c => if m = n + 1 then m else if c = b then 0 else if 0 < m ∨ c = a then m + 1 else 0
def endm : Pl → Int
  | .never r => r.length
  | .until _ r => r.length
  | .after _ _ => 2
  | .turns _ _ => 2
  | .most n _ _ => n + 1
  | .within n _ _ => n + 1
def Pl.val : Pl → Int → Prop
  | .never r, m => 0 ≤ m ∧ m ≤ r.length
  | .until _ r, m => -1 ≤ m ∧ m ≤ r.length
  | .after _ _, m => m = 0 ∨ m = 1 ∨ m = 2
  | .turns _ _, m => m = 0 ∨ m = 1 ∨ m = 2
  | .most n _ _, m => 0 ≤ m ∧ m ≤ n + 1
  | .within n _ _, m => 0 ≤ m ∧ m ≤ n + 1
theorem ifbl (p : Prop) [Decidable p] : (if p then True else False) = p := by by_cases h : p <;> simp [h]
theorem t_counted_most {n : Nat} {a c : Str} {cs : List Str} {m : Int} : d_counted [.sh (Pl.most n a cs).d, .sh (.int m), .sh (.str c)] = .ret (.sh (.int (step (.most n a cs) m c))) [.sh (Pl.most n a cs).d, .sh (.int m), .sh (.str c)] := by
  unfold d_counted step Pl.d
  simp only [aDef, pre, outs, List.map_cons, List.map_nil, List.replicate, List.cons_append, List.nil_append, List.length_cons, List.length_nil, sSeq, sSet, sRet, sRetN, sIf, sDrop, sPar, sAsg, sNext, aB, aC, aVar, aMove, aFz, aTV, aNot, aAnd, aOr, aIfE, aAndV, aOrV, aOp, aSl, aP, evA, rsv, l1, l2, Res.bind, Res.out, List.getElem?_cons_zero, List.getElem?_cons_succ, List.set_cons_zero, List.set_cons_succ, Option.map_some, Option.map_none, fz, shs, if_true, if_false, ite_true, ite_false, Bool.false_eq_true, reduceIte, reduceCtorEq, Nat.reduceAdd, Nat.reduceSub, Nat.reduceLT, Nat.reduceLeDiff, Nat.reduceEqDiff, Bool.not_true, Bool.not_false, Nat.sub_self, Nat.zero_add, and_self, true_and, and_true, Nat.lt_add_one, decide_true, decide_false, decide_eq_true_eq , gSl_tS, gLen_tS, gLen_lS, gTup_str, gIn_tS, gNotIn_tS, gIn_lS, gNotIn_lS, gEq_int, gEq_str, gNe_int, gNe_str, cut_from, cut_to , gTup_str2, gIx_tup, atI_0, atI_1, atI_2, atI_3, gSl_tup, List.mem_cons, List.not_mem_nil, or_false, false_or, true_or, or_true, not_true_eq_false, not_false_eq_true , aCall, tak, giv, List.append_nil, aMeth, k_never_until, k_never_after, k_never_turns, k_never_most, k_never_within, k_never_and, k_never_or, k_until_never, k_until_after, k_until_turns, k_until_most, k_until_within, k_until_and, k_until_or, k_after_never, k_after_until, k_after_turns, k_after_most, k_after_within, k_after_and, k_after_or, k_turns_never, k_turns_until, k_turns_after, k_turns_most, k_turns_within, k_turns_and, k_turns_or, k_most_never, k_most_until, k_most_after, k_most_turns, k_most_within, k_most_and, k_most_or, k_within_never, k_within_until, k_within_after, k_within_turns, k_within_most, k_within_and, k_within_or, k_and_never, k_and_until, k_and_after, k_and_turns, k_and_most, k_and_within, k_and_or, k_or_never, k_or_until, k_or_after, k_or_turns, k_or_most, k_or_within, k_or_and, gAdd]
  by_cases h1 : m = n + 1
  · simp only [h1, aDef, pre, outs, List.map_cons, List.map_nil, List.replicate, List.cons_append, List.nil_append, List.length_cons, List.length_nil, sSeq, sSet, sRet, sRetN, sIf, sDrop, sPar, sAsg, sNext, aB, aC, aVar, aMove, aFz, aTV, aNot, aAnd, aOr, aIfE, aAndV, aOrV, aOp, aSl, aP, evA, rsv, l1, l2, Res.bind, Res.out, List.getElem?_cons_zero, List.getElem?_cons_succ, List.set_cons_zero, List.set_cons_succ, Option.map_some, Option.map_none, fz, shs, if_true, if_false, ite_true, ite_false, Bool.false_eq_true, reduceIte, reduceCtorEq, Nat.reduceAdd, Nat.reduceSub, Nat.reduceLT, Nat.reduceLeDiff, Nat.reduceEqDiff, Bool.not_true, Bool.not_false, Nat.sub_self, Nat.zero_add, and_self, true_and, and_true, Nat.lt_add_one, decide_true, decide_false, decide_eq_true_eq , gSl_tS, gLen_tS, gLen_lS, gTup_str, gIn_tS, gNotIn_tS, gIn_lS, gNotIn_lS, gEq_int, gEq_str, gNe_int, gNe_str, cut_from, cut_to , gTup_str2, gIx_tup, atI_0, atI_1, atI_2, atI_3, gSl_tup, List.mem_cons, List.not_mem_nil, or_false, false_or, true_or, or_true, not_true_eq_false, not_false_eq_true , aCall, tak, giv, List.append_nil, aMeth, k_never_until, k_never_after, k_never_turns, k_never_most, k_never_within, k_never_and, k_never_or, k_until_never, k_until_after, k_until_turns, k_until_most, k_until_within, k_until_and, k_until_or, k_after_never, k_after_until, k_after_turns, k_after_most, k_after_within, k_after_and, k_after_or, k_turns_never, k_turns_until, k_turns_after, k_turns_most, k_turns_within, k_turns_and, k_turns_or, k_most_never, k_most_until, k_most_after, k_most_turns, k_most_within, k_most_and, k_most_or, k_within_never, k_within_until, k_within_after, k_within_turns, k_within_most, k_within_and, k_within_or, k_and_never, k_and_until, k_and_after, k_and_turns, k_and_most, k_and_within, k_and_or, k_or_never, k_or_until, k_or_after, k_or_turns, k_or_most, k_or_within, k_or_and]
  · by_cases h2 : c = a
    · simp only [h1, h2, aDef, pre, outs, List.map_cons, List.map_nil, List.replicate, List.cons_append, List.nil_append, List.length_cons, List.length_nil, sSeq, sSet, sRet, sRetN, sIf, sDrop, sPar, sAsg, sNext, aB, aC, aVar, aMove, aFz, aTV, aNot, aAnd, aOr, aIfE, aAndV, aOrV, aOp, aSl, aP, evA, rsv, l1, l2, Res.bind, Res.out, List.getElem?_cons_zero, List.getElem?_cons_succ, List.set_cons_zero, List.set_cons_succ, Option.map_some, Option.map_none, fz, shs, if_true, if_false, ite_true, ite_false, Bool.false_eq_true, reduceIte, reduceCtorEq, Nat.reduceAdd, Nat.reduceSub, Nat.reduceLT, Nat.reduceLeDiff, Nat.reduceEqDiff, Bool.not_true, Bool.not_false, Nat.sub_self, Nat.zero_add, and_self, true_and, and_true, Nat.lt_add_one, decide_true, decide_false, decide_eq_true_eq , gSl_tS, gLen_tS, gLen_lS, gTup_str, gIn_tS, gNotIn_tS, gIn_lS, gNotIn_lS, gEq_int, gEq_str, gNe_int, gNe_str, cut_from, cut_to , gTup_str2, gIx_tup, atI_0, atI_1, atI_2, atI_3, gSl_tup, List.mem_cons, List.not_mem_nil, or_false, false_or, true_or, or_true, not_true_eq_false, not_false_eq_true , aCall, tak, giv, List.append_nil, aMeth, k_never_until, k_never_after, k_never_turns, k_never_most, k_never_within, k_never_and, k_never_or, k_until_never, k_until_after, k_until_turns, k_until_most, k_until_within, k_until_and, k_until_or, k_after_never, k_after_until, k_after_turns, k_after_most, k_after_within, k_after_and, k_after_or, k_turns_never, k_turns_until, k_turns_after, k_turns_most, k_turns_within, k_turns_and, k_turns_or, k_most_never, k_most_until, k_most_after, k_most_turns, k_most_within, k_most_and, k_most_or, k_within_never, k_within_until, k_within_after, k_within_turns, k_within_most, k_within_and, k_within_or, k_and_never, k_and_until, k_and_after, k_and_turns, k_and_most, k_and_within, k_and_or, k_or_never, k_or_until, k_or_after, k_or_turns, k_or_most, k_or_within, k_or_and]
    · by_cases h3 : c ∈ cs
      · simp only [h1, h2, h3, aDef, pre, outs, List.map_cons, List.map_nil, List.replicate, List.cons_append, List.nil_append, List.length_cons, List.length_nil, sSeq, sSet, sRet, sRetN, sIf, sDrop, sPar, sAsg, sNext, aB, aC, aVar, aMove, aFz, aTV, aNot, aAnd, aOr, aIfE, aAndV, aOrV, aOp, aSl, aP, evA, rsv, l1, l2, Res.bind, Res.out, List.getElem?_cons_zero, List.getElem?_cons_succ, List.set_cons_zero, List.set_cons_succ, Option.map_some, Option.map_none, fz, shs, if_true, if_false, ite_true, ite_false, Bool.false_eq_true, reduceIte, reduceCtorEq, Nat.reduceAdd, Nat.reduceSub, Nat.reduceLT, Nat.reduceLeDiff, Nat.reduceEqDiff, Bool.not_true, Bool.not_false, Nat.sub_self, Nat.zero_add, and_self, true_and, and_true, Nat.lt_add_one, decide_true, decide_false, decide_eq_true_eq , gSl_tS, gLen_tS, gLen_lS, gTup_str, gIn_tS, gNotIn_tS, gIn_lS, gNotIn_lS, gEq_int, gEq_str, gNe_int, gNe_str, cut_from, cut_to , gTup_str2, gIx_tup, atI_0, atI_1, atI_2, atI_3, gSl_tup, List.mem_cons, List.not_mem_nil, or_false, false_or, true_or, or_true, not_true_eq_false, not_false_eq_true , aCall, tak, giv, List.append_nil, aMeth, k_never_until, k_never_after, k_never_turns, k_never_most, k_never_within, k_never_and, k_never_or, k_until_never, k_until_after, k_until_turns, k_until_most, k_until_within, k_until_and, k_until_or, k_after_never, k_after_until, k_after_turns, k_after_most, k_after_within, k_after_and, k_after_or, k_turns_never, k_turns_until, k_turns_after, k_turns_most, k_turns_within, k_turns_and, k_turns_or, k_most_never, k_most_until, k_most_after, k_most_turns, k_most_within, k_most_and, k_most_or, k_within_never, k_within_until, k_within_after, k_within_turns, k_within_most, k_within_and, k_within_or, k_and_never, k_and_until, k_and_after, k_and_turns, k_and_most, k_and_within, k_and_or, k_or_never, k_or_until, k_or_after, k_or_turns, k_or_most, k_or_within, k_or_and]
      · simp only [h1, h2, h3, aDef, pre, outs, List.map_cons, List.map_nil, List.replicate, List.cons_append, List.nil_append, List.length_cons, List.length_nil, sSeq, sSet, sRet, sRetN, sIf, sDrop, sPar, sAsg, sNext, aB, aC, aVar, aMove, aFz, aTV, aNot, aAnd, aOr, aIfE, aAndV, aOrV, aOp, aSl, aP, evA, rsv, l1, l2, Res.bind, Res.out, List.getElem?_cons_zero, List.getElem?_cons_succ, List.set_cons_zero, List.set_cons_succ, Option.map_some, Option.map_none, fz, shs, if_true, if_false, ite_true, ite_false, Bool.false_eq_true, reduceIte, reduceCtorEq, Nat.reduceAdd, Nat.reduceSub, Nat.reduceLT, Nat.reduceLeDiff, Nat.reduceEqDiff, Bool.not_true, Bool.not_false, Nat.sub_self, Nat.zero_add, and_self, true_and, and_true, Nat.lt_add_one, decide_true, decide_false, decide_eq_true_eq , gSl_tS, gLen_tS, gLen_lS, gTup_str, gIn_tS, gNotIn_tS, gIn_lS, gNotIn_lS, gEq_int, gEq_str, gNe_int, gNe_str, cut_from, cut_to , gTup_str2, gIx_tup, atI_0, atI_1, atI_2, atI_3, gSl_tup, List.mem_cons, List.not_mem_nil, or_false, false_or, true_or, or_true, not_true_eq_false, not_false_eq_true , aCall, tak, giv, List.append_nil, aMeth, k_never_until, k_never_after, k_never_turns, k_never_most, k_never_within, k_never_and, k_never_or, k_until_never, k_until_after, k_until_turns, k_until_most, k_until_within, k_until_and, k_until_or, k_after_never, k_after_until, k_after_turns, k_after_most, k_after_within, k_after_and, k_after_or, k_turns_never, k_turns_until, k_turns_after, k_turns_most, k_turns_within, k_turns_and, k_turns_or, k_most_never, k_most_until, k_most_after, k_most_turns, k_most_within, k_most_and, k_most_or, k_within_never, k_within_until, k_within_after, k_within_turns, k_within_most, k_within_and, k_within_or, k_and_never, k_and_until, k_and_after, k_and_turns, k_and_most, k_and_within, k_and_or, k_or_never, k_or_until, k_or_after, k_or_turns, k_or_most, k_or_within, k_or_and]
theorem t_counted_within {n : Nat} {a b c : Str} {m : Int} : d_counted [.sh (Pl.within n a b).d, .sh (.int m), .sh (.str c)] = .ret (.sh (.int (step (.within n a b) m c))) [.sh (Pl.within n a b).d, .sh (.int m), .sh (.str c)] := by
  unfold d_counted step Pl.d
  simp only [aDef, pre, outs, List.map_cons, List.map_nil, List.replicate, List.cons_append, List.nil_append, List.length_cons, List.length_nil, sSeq, sSet, sRet, sRetN, sIf, sDrop, sPar, sAsg, sNext, aB, aC, aVar, aMove, aFz, aTV, aNot, aAnd, aOr, aIfE, aAndV, aOrV, aOp, aSl, aP, evA, rsv, l1, l2, Res.bind, Res.out, List.getElem?_cons_zero, List.getElem?_cons_succ, List.set_cons_zero, List.set_cons_succ, Option.map_some, Option.map_none, fz, shs, if_true, if_false, ite_true, ite_false, Bool.false_eq_true, reduceIte, reduceCtorEq, Nat.reduceAdd, Nat.reduceSub, Nat.reduceLT, Nat.reduceLeDiff, Nat.reduceEqDiff, Bool.not_true, Bool.not_false, Nat.sub_self, Nat.zero_add, and_self, true_and, and_true, Nat.lt_add_one, decide_true, decide_false, decide_eq_true_eq , gSl_tS, gLen_tS, gLen_lS, gTup_str, gIn_tS, gNotIn_tS, gIn_lS, gNotIn_lS, gEq_int, gEq_str, gNe_int, gNe_str, cut_from, cut_to , gTup_str2, gIx_tup, atI_0, atI_1, atI_2, atI_3, gSl_tup, List.mem_cons, List.not_mem_nil, or_false, false_or, true_or, or_true, not_true_eq_false, not_false_eq_true , aCall, tak, giv, List.append_nil, aMeth, k_never_until, k_never_after, k_never_turns, k_never_most, k_never_within, k_never_and, k_never_or, k_until_never, k_until_after, k_until_turns, k_until_most, k_until_within, k_until_and, k_until_or, k_after_never, k_after_until, k_after_turns, k_after_most, k_after_within, k_after_and, k_after_or, k_turns_never, k_turns_until, k_turns_after, k_turns_most, k_turns_within, k_turns_and, k_turns_or, k_most_never, k_most_until, k_most_after, k_most_turns, k_most_within, k_most_and, k_most_or, k_within_never, k_within_until, k_within_after, k_within_turns, k_within_most, k_within_and, k_within_or, k_and_never, k_and_until, k_and_after, k_and_turns, k_and_most, k_and_within, k_and_or, k_or_never, k_or_until, k_or_after, k_or_turns, k_or_most, k_or_within, k_or_and, gAdd, gGt]
  by_cases h1 : m = n + 1
  · simp only [h1, aDef, pre, outs, List.map_cons, List.map_nil, List.replicate, List.cons_append, List.nil_append, List.length_cons, List.length_nil, sSeq, sSet, sRet, sRetN, sIf, sDrop, sPar, sAsg, sNext, aB, aC, aVar, aMove, aFz, aTV, aNot, aAnd, aOr, aIfE, aAndV, aOrV, aOp, aSl, aP, evA, rsv, l1, l2, Res.bind, Res.out, List.getElem?_cons_zero, List.getElem?_cons_succ, List.set_cons_zero, List.set_cons_succ, Option.map_some, Option.map_none, fz, shs, if_true, if_false, ite_true, ite_false, Bool.false_eq_true, reduceIte, reduceCtorEq, Nat.reduceAdd, Nat.reduceSub, Nat.reduceLT, Nat.reduceLeDiff, Nat.reduceEqDiff, Bool.not_true, Bool.not_false, Nat.sub_self, Nat.zero_add, and_self, true_and, and_true, Nat.lt_add_one, decide_true, decide_false, decide_eq_true_eq , gSl_tS, gLen_tS, gLen_lS, gTup_str, gIn_tS, gNotIn_tS, gIn_lS, gNotIn_lS, gEq_int, gEq_str, gNe_int, gNe_str, cut_from, cut_to , gTup_str2, gIx_tup, atI_0, atI_1, atI_2, atI_3, gSl_tup, List.mem_cons, List.not_mem_nil, or_false, false_or, true_or, or_true, not_true_eq_false, not_false_eq_true , aCall, tak, giv, List.append_nil, aMeth, k_never_until, k_never_after, k_never_turns, k_never_most, k_never_within, k_never_and, k_never_or, k_until_never, k_until_after, k_until_turns, k_until_most, k_until_within, k_until_and, k_until_or, k_after_never, k_after_until, k_after_turns, k_after_most, k_after_within, k_after_and, k_after_or, k_turns_never, k_turns_until, k_turns_after, k_turns_most, k_turns_within, k_turns_and, k_turns_or, k_most_never, k_most_until, k_most_after, k_most_turns, k_most_within, k_most_and, k_most_or, k_within_never, k_within_until, k_within_after, k_within_turns, k_within_most, k_within_and, k_within_or, k_and_never, k_and_until, k_and_after, k_and_turns, k_and_most, k_and_within, k_and_or, k_or_never, k_or_until, k_or_after, k_or_turns, k_or_most, k_or_within, k_or_and]
  · by_cases h2 : c = b
    · simp only [h1, h2, aDef, pre, outs, List.map_cons, List.map_nil, List.replicate, List.cons_append, List.nil_append, List.length_cons, List.length_nil, sSeq, sSet, sRet, sRetN, sIf, sDrop, sPar, sAsg, sNext, aB, aC, aVar, aMove, aFz, aTV, aNot, aAnd, aOr, aIfE, aAndV, aOrV, aOp, aSl, aP, evA, rsv, l1, l2, Res.bind, Res.out, List.getElem?_cons_zero, List.getElem?_cons_succ, List.set_cons_zero, List.set_cons_succ, Option.map_some, Option.map_none, fz, shs, if_true, if_false, ite_true, ite_false, Bool.false_eq_true, reduceIte, reduceCtorEq, Nat.reduceAdd, Nat.reduceSub, Nat.reduceLT, Nat.reduceLeDiff, Nat.reduceEqDiff, Bool.not_true, Bool.not_false, Nat.sub_self, Nat.zero_add, and_self, true_and, and_true, Nat.lt_add_one, decide_true, decide_false, decide_eq_true_eq , gSl_tS, gLen_tS, gLen_lS, gTup_str, gIn_tS, gNotIn_tS, gIn_lS, gNotIn_lS, gEq_int, gEq_str, gNe_int, gNe_str, cut_from, cut_to , gTup_str2, gIx_tup, atI_0, atI_1, atI_2, atI_3, gSl_tup, List.mem_cons, List.not_mem_nil, or_false, false_or, true_or, or_true, not_true_eq_false, not_false_eq_true , aCall, tak, giv, List.append_nil, aMeth, k_never_until, k_never_after, k_never_turns, k_never_most, k_never_within, k_never_and, k_never_or, k_until_never, k_until_after, k_until_turns, k_until_most, k_until_within, k_until_and, k_until_or, k_after_never, k_after_until, k_after_turns, k_after_most, k_after_within, k_after_and, k_after_or, k_turns_never, k_turns_until, k_turns_after, k_turns_most, k_turns_within, k_turns_and, k_turns_or, k_most_never, k_most_until, k_most_after, k_most_turns, k_most_within, k_most_and, k_most_or, k_within_never, k_within_until, k_within_after, k_within_turns, k_within_most, k_within_and, k_within_or, k_and_never, k_and_until, k_and_after, k_and_turns, k_and_most, k_and_within, k_and_or, k_or_never, k_or_until, k_or_after, k_or_turns, k_or_most, k_or_within, k_or_and]
    · by_cases h3 : 0 < m
      · simp only [h1, h2, h3, aDef, pre, outs, List.map_cons, List.map_nil, List.replicate, List.cons_append, List.nil_append, List.length_cons, List.length_nil, sSeq, sSet, sRet, sRetN, sIf, sDrop, sPar, sAsg, sNext, aB, aC, aVar, aMove, aFz, aTV, aNot, aAnd, aOr, aIfE, aAndV, aOrV, aOp, aSl, aP, evA, rsv, l1, l2, Res.bind, Res.out, List.getElem?_cons_zero, List.getElem?_cons_succ, List.set_cons_zero, List.set_cons_succ, Option.map_some, Option.map_none, fz, shs, if_true, if_false, ite_true, ite_false, Bool.false_eq_true, reduceIte, reduceCtorEq, Nat.reduceAdd, Nat.reduceSub, Nat.reduceLT, Nat.reduceLeDiff, Nat.reduceEqDiff, Bool.not_true, Bool.not_false, Nat.sub_self, Nat.zero_add, and_self, true_and, and_true, Nat.lt_add_one, decide_true, decide_false, decide_eq_true_eq , gSl_tS, gLen_tS, gLen_lS, gTup_str, gIn_tS, gNotIn_tS, gIn_lS, gNotIn_lS, gEq_int, gEq_str, gNe_int, gNe_str, cut_from, cut_to , gTup_str2, gIx_tup, atI_0, atI_1, atI_2, atI_3, gSl_tup, List.mem_cons, List.not_mem_nil, or_false, false_or, true_or, or_true, not_true_eq_false, not_false_eq_true , aCall, tak, giv, List.append_nil, aMeth, k_never_until, k_never_after, k_never_turns, k_never_most, k_never_within, k_never_and, k_never_or, k_until_never, k_until_after, k_until_turns, k_until_most, k_until_within, k_until_and, k_until_or, k_after_never, k_after_until, k_after_turns, k_after_most, k_after_within, k_after_and, k_after_or, k_turns_never, k_turns_until, k_turns_after, k_turns_most, k_turns_within, k_turns_and, k_turns_or, k_most_never, k_most_until, k_most_after, k_most_turns, k_most_within, k_most_and, k_most_or, k_within_never, k_within_until, k_within_after, k_within_turns, k_within_most, k_within_and, k_within_or, k_and_never, k_and_until, k_and_after, k_and_turns, k_and_most, k_and_within, k_and_or, k_or_never, k_or_until, k_or_after, k_or_turns, k_or_most, k_or_within, k_or_and]
      · by_cases h4 : c = a
        · subst h4
          simp only [h1, h2, h3, aDef, pre, outs, List.map_cons, List.map_nil, List.replicate, List.cons_append, List.nil_append, List.length_cons, List.length_nil, sSeq, sSet, sRet, sRetN, sIf, sDrop, sPar, sAsg, sNext, aB, aC, aVar, aMove, aFz, aTV, aNot, aAnd, aOr, aIfE, aAndV, aOrV, aOp, aSl, aP, evA, rsv, l1, l2, Res.bind, Res.out, List.getElem?_cons_zero, List.getElem?_cons_succ, List.set_cons_zero, List.set_cons_succ, Option.map_some, Option.map_none, fz, shs, if_true, if_false, ite_true, ite_false, Bool.false_eq_true, reduceIte, reduceCtorEq, Nat.reduceAdd, Nat.reduceSub, Nat.reduceLT, Nat.reduceLeDiff, Nat.reduceEqDiff, Bool.not_true, Bool.not_false, Nat.sub_self, Nat.zero_add, and_self, true_and, and_true, Nat.lt_add_one, decide_true, decide_false, decide_eq_true_eq , gSl_tS, gLen_tS, gLen_lS, gTup_str, gIn_tS, gNotIn_tS, gIn_lS, gNotIn_lS, gEq_int, gEq_str, gNe_int, gNe_str, cut_from, cut_to , gTup_str2, gIx_tup, atI_0, atI_1, atI_2, atI_3, gSl_tup, List.mem_cons, List.not_mem_nil, or_false, false_or, true_or, or_true, not_true_eq_false, not_false_eq_true , aCall, tak, giv, List.append_nil, aMeth, k_never_until, k_never_after, k_never_turns, k_never_most, k_never_within, k_never_and, k_never_or, k_until_never, k_until_after, k_until_turns, k_until_most, k_until_within, k_until_and, k_until_or, k_after_never, k_after_until, k_after_turns, k_after_most, k_after_within, k_after_and, k_after_or, k_turns_never, k_turns_until, k_turns_after, k_turns_most, k_turns_within, k_turns_and, k_turns_or, k_most_never, k_most_until, k_most_after, k_most_turns, k_most_within, k_most_and, k_most_or, k_within_never, k_within_until, k_within_after, k_within_turns, k_within_most, k_within_and, k_within_or, k_and_never, k_and_until, k_and_after, k_and_turns, k_and_most, k_and_within, k_and_or, k_or_never, k_or_until, k_or_after, k_or_turns, k_or_most, k_or_within, k_or_and]
        · simp only [h1, h2, h3, h4, aDef, pre, outs, List.map_cons, List.map_nil, List.replicate, List.cons_append, List.nil_append, List.length_cons, List.length_nil, sSeq, sSet, sRet, sRetN, sIf, sDrop, sPar, sAsg, sNext, aB, aC, aVar, aMove, aFz, aTV, aNot, aAnd, aOr, aIfE, aAndV, aOrV, aOp, aSl, aP, evA, rsv, l1, l2, Res.bind, Res.out, List.getElem?_cons_zero, List.getElem?_cons_succ, List.set_cons_zero, List.set_cons_succ, Option.map_some, Option.map_none, fz, shs, if_true, if_false, ite_true, ite_false, Bool.false_eq_true, reduceIte, reduceCtorEq, Nat.reduceAdd, Nat.reduceSub, Nat.reduceLT, Nat.reduceLeDiff, Nat.reduceEqDiff, Bool.not_true, Bool.not_false, Nat.sub_self, Nat.zero_add, and_self, true_and, and_true, Nat.lt_add_one, decide_true, decide_false, decide_eq_true_eq , gSl_tS, gLen_tS, gLen_lS, gTup_str, gIn_tS, gNotIn_tS, gIn_lS, gNotIn_lS, gEq_int, gEq_str, gNe_int, gNe_str, cut_from, cut_to , gTup_str2, gIx_tup, atI_0, atI_1, atI_2, atI_3, gSl_tup, List.mem_cons, List.not_mem_nil, or_false, false_or, true_or, or_true, not_true_eq_false, not_false_eq_true , aCall, tak, giv, List.append_nil, aMeth, k_never_until, k_never_after, k_never_turns, k_never_most, k_never_within, k_never_and, k_never_or, k_until_never, k_until_after, k_until_turns, k_until_most, k_until_within, k_until_and, k_until_or, k_after_never, k_after_until, k_after_turns, k_after_most, k_after_within, k_after_and, k_after_or, k_turns_never, k_turns_until, k_turns_after, k_turns_most, k_turns_within, k_turns_and, k_turns_or, k_most_never, k_most_until, k_most_after, k_most_turns, k_most_within, k_most_and, k_most_or, k_within_never, k_within_until, k_within_after, k_within_turns, k_within_most, k_within_and, k_within_or, k_and_never, k_and_until, k_and_after, k_and_turns, k_and_most, k_and_within, k_and_or, k_or_never, k_or_until, k_or_after, k_or_turns, k_or_most, k_or_within, k_or_and]
theorem t_behind {p : Pl} {m : Int} {c : Str} (hp : p.ok) (hv : p.val m) (hc : okS c) : d_behind_mind [.sh p.d, .sh (.int m), .sh (.str c)] = .ret (.sh (.int (step p m c))) [.sh p.d, .sh (.int m), .sh (.str c)] := by
  cases p with
  | never r =>
    obtain ⟨m, rfl⟩ := Int.eq_ofNat_of_zero_le hv.1
    have hm : m ≤ r.length := by have := hv.2; omega
    have e := t_stretched (c := c) hp.1 hc hp.2.2 hm
    unfold d_behind_mind Pl.d step
    simp only [aDef, pre, outs, List.map_cons, List.map_nil, List.replicate, List.cons_append, List.nil_append, List.length_cons, List.length_nil, sSeq, sSet, sRet, sRetN, sIf, sDrop, sPar, sAsg, sNext, aB, aC, aVar, aMove, aFz, aTV, aNot, aAnd, aOr, aIfE, aAndV, aOrV, aOp, aSl, aP, evA, rsv, l1, l2, Res.bind, Res.out, List.getElem?_cons_zero, List.getElem?_cons_succ, List.set_cons_zero, List.set_cons_succ, Option.map_some, Option.map_none, fz, shs, if_true, if_false, ite_true, ite_false, Bool.false_eq_true, reduceIte, reduceCtorEq, Nat.reduceAdd, Nat.reduceSub, Nat.reduceLT, Nat.reduceLeDiff, Nat.reduceEqDiff, Bool.not_true, Bool.not_false, Nat.sub_self, Nat.zero_add, and_self, true_and, and_true, Nat.lt_add_one, decide_true, decide_false, decide_eq_true_eq , gSl_tS, gLen_tS, gLen_lS, gTup_str, gIn_tS, gNotIn_tS, gIn_lS, gNotIn_lS, gEq_int, gEq_str, gNe_int, gNe_str, cut_from, cut_to , gTup_str2, gIx_tup, atI_0, atI_1, atI_2, atI_3, gSl_tup, List.mem_cons, List.not_mem_nil, or_false, false_or, true_or, or_true, not_true_eq_false, not_false_eq_true , aCall, tak, giv, List.append_nil, aMeth, k_never_until, k_never_after, k_never_turns, k_never_most, k_never_within, k_never_and, k_never_or, k_until_never, k_until_after, k_until_turns, k_until_most, k_until_within, k_until_and, k_until_or, k_after_never, k_after_until, k_after_turns, k_after_most, k_after_within, k_after_and, k_after_or, k_turns_never, k_turns_until, k_turns_after, k_turns_most, k_turns_within, k_turns_and, k_turns_or, k_most_never, k_most_until, k_most_after, k_most_turns, k_most_within, k_most_and, k_most_or, k_within_never, k_within_until, k_within_after, k_within_turns, k_within_most, k_within_and, k_within_or, k_and_never, k_and_until, k_and_after, k_and_turns, k_and_most, k_and_within, k_and_or, k_or_never, k_or_until, k_or_after, k_or_turns, k_or_most, k_or_within, k_or_and, aCall, tak, giv, e, List.append_nil, Int.toNat_natCast]
  | «until» a r =>
    have ha : okS a := hp.1 a (by simp)
    have hr : okSs r := fun x hx => hp.1 x (by simp [hx])
    unfold d_behind_mind Pl.d step
    by_cases h1 : m = r.length
    · simp only [aDef, pre, outs, List.map_cons, List.map_nil, List.replicate, List.cons_append, List.nil_append, List.length_cons, List.length_nil, sSeq, sSet, sRet, sRetN, sIf, sDrop, sPar, sAsg, sNext, aB, aC, aVar, aMove, aFz, aTV, aNot, aAnd, aOr, aIfE, aAndV, aOrV, aOp, aSl, aP, evA, rsv, l1, l2, Res.bind, Res.out, List.getElem?_cons_zero, List.getElem?_cons_succ, List.set_cons_zero, List.set_cons_succ, Option.map_some, Option.map_none, fz, shs, if_true, if_false, ite_true, ite_false, Bool.false_eq_true, reduceIte, reduceCtorEq, Nat.reduceAdd, Nat.reduceSub, Nat.reduceLT, Nat.reduceLeDiff, Nat.reduceEqDiff, Bool.not_true, Bool.not_false, Nat.sub_self, Nat.zero_add, and_self, true_and, and_true, Nat.lt_add_one, decide_true, decide_false, decide_eq_true_eq , gSl_tS, gLen_tS, gLen_lS, gTup_str, gIn_tS, gNotIn_tS, gIn_lS, gNotIn_lS, gEq_int, gEq_str, gNe_int, gNe_str, cut_from, cut_to , gTup_str2, gIx_tup, atI_0, atI_1, atI_2, atI_3, gSl_tup, List.mem_cons, List.not_mem_nil, or_false, false_or, true_or, or_true, not_true_eq_false, not_false_eq_true , aCall, tak, giv, List.append_nil, aMeth, k_never_until, k_never_after, k_never_turns, k_never_most, k_never_within, k_never_and, k_never_or, k_until_never, k_until_after, k_until_turns, k_until_most, k_until_within, k_until_and, k_until_or, k_after_never, k_after_until, k_after_turns, k_after_most, k_after_within, k_after_and, k_after_or, k_turns_never, k_turns_until, k_turns_after, k_turns_most, k_turns_within, k_turns_and, k_turns_or, k_most_never, k_most_until, k_most_after, k_most_turns, k_most_within, k_most_and, k_most_or, k_within_never, k_within_until, k_within_after, k_within_turns, k_within_most, k_within_and, k_within_or, k_and_never, k_and_until, k_and_after, k_and_turns, k_and_most, k_and_within, k_and_or, k_or_never, k_or_until, k_or_after, k_or_turns, k_or_most, k_or_within, k_or_and, h1]
    · by_cases h2 : m < 0
      · simp only [aDef, pre, outs, List.map_cons, List.map_nil, List.replicate, List.cons_append, List.nil_append, List.length_cons, List.length_nil, sSeq, sSet, sRet, sRetN, sIf, sDrop, sPar, sAsg, sNext, aB, aC, aVar, aMove, aFz, aTV, aNot, aAnd, aOr, aIfE, aAndV, aOrV, aOp, aSl, aP, evA, rsv, l1, l2, Res.bind, Res.out, List.getElem?_cons_zero, List.getElem?_cons_succ, List.set_cons_zero, List.set_cons_succ, Option.map_some, Option.map_none, fz, shs, if_true, if_false, ite_true, ite_false, Bool.false_eq_true, reduceIte, reduceCtorEq, Nat.reduceAdd, Nat.reduceSub, Nat.reduceLT, Nat.reduceLeDiff, Nat.reduceEqDiff, Bool.not_true, Bool.not_false, Nat.sub_self, Nat.zero_add, and_self, true_and, and_true, Nat.lt_add_one, decide_true, decide_false, decide_eq_true_eq , gSl_tS, gLen_tS, gLen_lS, gTup_str, gIn_tS, gNotIn_tS, gIn_lS, gNotIn_lS, gEq_int, gEq_str, gNe_int, gNe_str, cut_from, cut_to , gTup_str2, gIx_tup, atI_0, atI_1, atI_2, atI_3, gSl_tup, List.mem_cons, List.not_mem_nil, or_false, false_or, true_or, or_true, not_true_eq_false, not_false_eq_true , aCall, tak, giv, List.append_nil, aMeth, k_never_until, k_never_after, k_never_turns, k_never_most, k_never_within, k_never_and, k_never_or, k_until_never, k_until_after, k_until_turns, k_until_most, k_until_within, k_until_and, k_until_or, k_after_never, k_after_until, k_after_turns, k_after_most, k_after_within, k_after_and, k_after_or, k_turns_never, k_turns_until, k_turns_after, k_turns_most, k_turns_within, k_turns_and, k_turns_or, k_most_never, k_most_until, k_most_after, k_most_turns, k_most_within, k_most_and, k_most_or, k_within_never, k_within_until, k_within_after, k_within_turns, k_within_most, k_within_and, k_within_or, k_and_never, k_and_until, k_and_after, k_and_turns, k_and_most, k_and_within, k_and_or, k_or_never, k_or_until, k_or_after, k_or_turns, k_or_most, k_or_within, k_or_and, h1, h2, gLt]
      · obtain ⟨k, rfl⟩ := Int.eq_ofNat_of_zero_le (by omega : 0 ≤ m)
        have hm : k ≤ r.length := by have := hv.2; omega
        by_cases h3 : c = a
        · simp only [aDef, pre, outs, List.map_cons, List.map_nil, List.replicate, List.cons_append, List.nil_append, List.length_cons, List.length_nil, sSeq, sSet, sRet, sRetN, sIf, sDrop, sPar, sAsg, sNext, aB, aC, aVar, aMove, aFz, aTV, aNot, aAnd, aOr, aIfE, aAndV, aOrV, aOp, aSl, aP, evA, rsv, l1, l2, Res.bind, Res.out, List.getElem?_cons_zero, List.getElem?_cons_succ, List.set_cons_zero, List.set_cons_succ, Option.map_some, Option.map_none, fz, shs, if_true, if_false, ite_true, ite_false, Bool.false_eq_true, reduceIte, reduceCtorEq, Nat.reduceAdd, Nat.reduceSub, Nat.reduceLT, Nat.reduceLeDiff, Nat.reduceEqDiff, Bool.not_true, Bool.not_false, Nat.sub_self, Nat.zero_add, and_self, true_and, and_true, Nat.lt_add_one, decide_true, decide_false, decide_eq_true_eq , gSl_tS, gLen_tS, gLen_lS, gTup_str, gIn_tS, gNotIn_tS, gIn_lS, gNotIn_lS, gEq_int, gEq_str, gNe_int, gNe_str, cut_from, cut_to , gTup_str2, gIx_tup, atI_0, atI_1, atI_2, atI_3, gSl_tup, List.mem_cons, List.not_mem_nil, or_false, false_or, true_or, or_true, not_true_eq_false, not_false_eq_true , aCall, tak, giv, List.append_nil, aMeth, k_never_until, k_never_after, k_never_turns, k_never_most, k_never_within, k_never_and, k_never_or, k_until_never, k_until_after, k_until_turns, k_until_most, k_until_within, k_until_and, k_until_or, k_after_never, k_after_until, k_after_turns, k_after_most, k_after_within, k_after_and, k_after_or, k_turns_never, k_turns_until, k_turns_after, k_turns_most, k_turns_within, k_turns_and, k_turns_or, k_most_never, k_most_until, k_most_after, k_most_turns, k_most_within, k_most_and, k_most_or, k_within_never, k_within_until, k_within_after, k_within_turns, k_within_most, k_within_and, k_within_or, k_and_never, k_and_until, k_and_after, k_and_turns, k_and_most, k_and_within, k_and_or, k_or_never, k_or_until, k_or_after, k_or_turns, k_or_most, k_or_within, k_or_and, h1, h2, h3, gLt, gNeg]
        · have e := t_stretched (c := c) hr hc hp.2.2 hm
          simp only [aDef, pre, outs, List.map_cons, List.map_nil, List.replicate, List.cons_append, List.nil_append, List.length_cons, List.length_nil, sSeq, sSet, sRet, sRetN, sIf, sDrop, sPar, sAsg, sNext, aB, aC, aVar, aMove, aFz, aTV, aNot, aAnd, aOr, aIfE, aAndV, aOrV, aOp, aSl, aP, evA, rsv, l1, l2, Res.bind, Res.out, List.getElem?_cons_zero, List.getElem?_cons_succ, List.set_cons_zero, List.set_cons_succ, Option.map_some, Option.map_none, fz, shs, if_true, if_false, ite_true, ite_false, Bool.false_eq_true, reduceIte, reduceCtorEq, Nat.reduceAdd, Nat.reduceSub, Nat.reduceLT, Nat.reduceLeDiff, Nat.reduceEqDiff, Bool.not_true, Bool.not_false, Nat.sub_self, Nat.zero_add, and_self, true_and, and_true, Nat.lt_add_one, decide_true, decide_false, decide_eq_true_eq , gSl_tS, gLen_tS, gLen_lS, gTup_str, gIn_tS, gNotIn_tS, gIn_lS, gNotIn_lS, gEq_int, gEq_str, gNe_int, gNe_str, cut_from, cut_to , gTup_str2, gIx_tup, atI_0, atI_1, atI_2, atI_3, gSl_tup, List.mem_cons, List.not_mem_nil, or_false, false_or, true_or, or_true, not_true_eq_false, not_false_eq_true , aCall, tak, giv, List.append_nil, aMeth, k_never_until, k_never_after, k_never_turns, k_never_most, k_never_within, k_never_and, k_never_or, k_until_never, k_until_after, k_until_turns, k_until_most, k_until_within, k_until_and, k_until_or, k_after_never, k_after_until, k_after_turns, k_after_most, k_after_within, k_after_and, k_after_or, k_turns_never, k_turns_until, k_turns_after, k_turns_most, k_turns_within, k_turns_and, k_turns_or, k_most_never, k_most_until, k_most_after, k_most_turns, k_most_within, k_most_and, k_most_or, k_within_never, k_within_until, k_within_after, k_within_turns, k_within_most, k_within_and, k_within_or, k_and_never, k_and_until, k_and_after, k_and_turns, k_and_most, k_and_within, k_and_or, k_or_never, k_or_until, k_or_after, k_or_turns, k_or_most, k_or_within, k_or_and, h1, h2, h3, gLt, aCall, tak, giv, e, List.append_nil, Int.toNat_natCast]
  | after a b =>
    have c2 : cutD [D.str "after", .str a, .str b] (some 1) none = [.str a, .str b] := cut_from _ 1
    have q := gNotIn_tS c [a, b]
    unfold tS at q
    simp only [List.map_cons, List.map_nil] at q
    unfold d_behind_mind Pl.d step
    by_cases h1 : c = a
    · subst h1
      rcases hv with rfl | rfl | rfl <;> simp only [aDef, pre, outs, List.map_cons, List.map_nil, List.replicate, List.cons_append, List.nil_append, List.length_cons, List.length_nil, sSeq, sSet, sRet, sRetN, sIf, sDrop, sPar, sAsg, sNext, aB, aC, aVar, aMove, aFz, aTV, aNot, aAnd, aOr, aIfE, aAndV, aOrV, aOp, aSl, aP, evA, rsv, l1, l2, Res.bind, Res.out, List.getElem?_cons_zero, List.getElem?_cons_succ, List.set_cons_zero, List.set_cons_succ, Option.map_some, Option.map_none, fz, shs, if_true, if_false, ite_true, ite_false, Bool.false_eq_true, reduceIte, reduceCtorEq, Nat.reduceAdd, Nat.reduceSub, Nat.reduceLT, Nat.reduceLeDiff, Nat.reduceEqDiff, Bool.not_true, Bool.not_false, Nat.sub_self, Nat.zero_add, and_self, true_and, and_true, Nat.lt_add_one, decide_true, decide_false, decide_eq_true_eq , gSl_tS, gLen_tS, gLen_lS, gTup_str, gIn_tS, gNotIn_tS, gIn_lS, gNotIn_lS, gEq_int, gEq_str, gNe_int, gNe_str, cut_from, cut_to , gTup_str2, gIx_tup, atI_0, atI_1, atI_2, atI_3, gSl_tup, List.mem_cons, List.not_mem_nil, or_false, false_or, true_or, or_true, not_true_eq_false, not_false_eq_true , aCall, tak, giv, List.append_nil, aMeth, k_never_until, k_never_after, k_never_turns, k_never_most, k_never_within, k_never_and, k_never_or, k_until_never, k_until_after, k_until_turns, k_until_most, k_until_within, k_until_and, k_until_or, k_after_never, k_after_until, k_after_turns, k_after_most, k_after_within, k_after_and, k_after_or, k_turns_never, k_turns_until, k_turns_after, k_turns_most, k_turns_within, k_turns_and, k_turns_or, k_most_never, k_most_until, k_most_after, k_most_turns, k_most_within, k_most_and, k_most_or, k_within_never, k_within_until, k_within_after, k_within_turns, k_within_most, k_within_and, k_within_or, k_and_never, k_and_until, k_and_after, k_and_turns, k_and_most, k_and_within, k_and_or, k_or_never, k_or_until, k_or_after, k_or_turns, k_or_most, k_or_within, k_or_and, c2, q, Int.reduceEq]
    · by_cases h2 : c = b
      · subst h2
        rcases hv with rfl | rfl | rfl <;> simp only [aDef, pre, outs, List.map_cons, List.map_nil, List.replicate, List.cons_append, List.nil_append, List.length_cons, List.length_nil, sSeq, sSet, sRet, sRetN, sIf, sDrop, sPar, sAsg, sNext, aB, aC, aVar, aMove, aFz, aTV, aNot, aAnd, aOr, aIfE, aAndV, aOrV, aOp, aSl, aP, evA, rsv, l1, l2, Res.bind, Res.out, List.getElem?_cons_zero, List.getElem?_cons_succ, List.set_cons_zero, List.set_cons_succ, Option.map_some, Option.map_none, fz, shs, if_true, if_false, ite_true, ite_false, Bool.false_eq_true, reduceIte, reduceCtorEq, Nat.reduceAdd, Nat.reduceSub, Nat.reduceLT, Nat.reduceLeDiff, Nat.reduceEqDiff, Bool.not_true, Bool.not_false, Nat.sub_self, Nat.zero_add, and_self, true_and, and_true, Nat.lt_add_one, decide_true, decide_false, decide_eq_true_eq , gSl_tS, gLen_tS, gLen_lS, gTup_str, gIn_tS, gNotIn_tS, gIn_lS, gNotIn_lS, gEq_int, gEq_str, gNe_int, gNe_str, cut_from, cut_to , gTup_str2, gIx_tup, atI_0, atI_1, atI_2, atI_3, gSl_tup, List.mem_cons, List.not_mem_nil, or_false, false_or, true_or, or_true, not_true_eq_false, not_false_eq_true , aCall, tak, giv, List.append_nil, aMeth, k_never_until, k_never_after, k_never_turns, k_never_most, k_never_within, k_never_and, k_never_or, k_until_never, k_until_after, k_until_turns, k_until_most, k_until_within, k_until_and, k_until_or, k_after_never, k_after_until, k_after_turns, k_after_most, k_after_within, k_after_and, k_after_or, k_turns_never, k_turns_until, k_turns_after, k_turns_most, k_turns_within, k_turns_and, k_turns_or, k_most_never, k_most_until, k_most_after, k_most_turns, k_most_within, k_most_and, k_most_or, k_within_never, k_within_until, k_within_after, k_within_turns, k_within_most, k_within_and, k_within_or, k_and_never, k_and_until, k_and_after, k_and_turns, k_and_most, k_and_within, k_and_or, k_or_never, k_or_until, k_or_after, k_or_turns, k_or_most, k_or_within, k_or_and, c2, q, h1, Int.reduceEq]
      · simp only [aDef, pre, outs, List.map_cons, List.map_nil, List.replicate, List.cons_append, List.nil_append, List.length_cons, List.length_nil, sSeq, sSet, sRet, sRetN, sIf, sDrop, sPar, sAsg, sNext, aB, aC, aVar, aMove, aFz, aTV, aNot, aAnd, aOr, aIfE, aAndV, aOrV, aOp, aSl, aP, evA, rsv, l1, l2, Res.bind, Res.out, List.getElem?_cons_zero, List.getElem?_cons_succ, List.set_cons_zero, List.set_cons_succ, Option.map_some, Option.map_none, fz, shs, if_true, if_false, ite_true, ite_false, Bool.false_eq_true, reduceIte, reduceCtorEq, Nat.reduceAdd, Nat.reduceSub, Nat.reduceLT, Nat.reduceLeDiff, Nat.reduceEqDiff, Bool.not_true, Bool.not_false, Nat.sub_self, Nat.zero_add, and_self, true_and, and_true, Nat.lt_add_one, decide_true, decide_false, decide_eq_true_eq , gSl_tS, gLen_tS, gLen_lS, gTup_str, gIn_tS, gNotIn_tS, gIn_lS, gNotIn_lS, gEq_int, gEq_str, gNe_int, gNe_str, cut_from, cut_to , gTup_str2, gIx_tup, atI_0, atI_1, atI_2, atI_3, gSl_tup, List.mem_cons, List.not_mem_nil, or_false, false_or, true_or, or_true, not_true_eq_false, not_false_eq_true , aCall, tak, giv, List.append_nil, aMeth, k_never_until, k_never_after, k_never_turns, k_never_most, k_never_within, k_never_and, k_never_or, k_until_never, k_until_after, k_until_turns, k_until_most, k_until_within, k_until_and, k_until_or, k_after_never, k_after_until, k_after_turns, k_after_most, k_after_within, k_after_and, k_after_or, k_turns_never, k_turns_until, k_turns_after, k_turns_most, k_turns_within, k_turns_and, k_turns_or, k_most_never, k_most_until, k_most_after, k_most_turns, k_most_within, k_most_and, k_most_or, k_within_never, k_within_until, k_within_after, k_within_turns, k_within_most, k_within_and, k_within_or, k_and_never, k_and_until, k_and_after, k_and_turns, k_and_most, k_and_within, k_and_or, k_or_never, k_or_until, k_or_after, k_or_turns, k_or_most, k_or_within, k_or_and, c2, q, h1, h2]
  | turns a b =>
    have c2 : cutD [D.str "turns", .str a, .str b] (some 1) none = [.str a, .str b] := cut_from _ 1
    have q := gNotIn_tS c [a, b]
    unfold tS at q
    simp only [List.map_cons, List.map_nil] at q
    unfold d_behind_mind Pl.d step
    have hne := hp.2
    by_cases h1 : c = a
    · subst h1
      rcases hv with rfl | rfl | rfl <;> simp only [aDef, pre, outs, List.map_cons, List.map_nil, List.replicate, List.cons_append, List.nil_append, List.length_cons, List.length_nil, sSeq, sSet, sRet, sRetN, sIf, sDrop, sPar, sAsg, sNext, aB, aC, aVar, aMove, aFz, aTV, aNot, aAnd, aOr, aIfE, aAndV, aOrV, aOp, aSl, aP, evA, rsv, l1, l2, Res.bind, Res.out, List.getElem?_cons_zero, List.getElem?_cons_succ, List.set_cons_zero, List.set_cons_succ, Option.map_some, Option.map_none, fz, shs, if_true, if_false, ite_true, ite_false, Bool.false_eq_true, reduceIte, reduceCtorEq, Nat.reduceAdd, Nat.reduceSub, Nat.reduceLT, Nat.reduceLeDiff, Nat.reduceEqDiff, Bool.not_true, Bool.not_false, Nat.sub_self, Nat.zero_add, and_self, true_and, and_true, Nat.lt_add_one, decide_true, decide_false, decide_eq_true_eq , gSl_tS, gLen_tS, gLen_lS, gTup_str, gIn_tS, gNotIn_tS, gIn_lS, gNotIn_lS, gEq_int, gEq_str, gNe_int, gNe_str, cut_from, cut_to , gTup_str2, gIx_tup, atI_0, atI_1, atI_2, atI_3, gSl_tup, List.mem_cons, List.not_mem_nil, or_false, false_or, true_or, or_true, not_true_eq_false, not_false_eq_true , aCall, tak, giv, List.append_nil, aMeth, k_never_until, k_never_after, k_never_turns, k_never_most, k_never_within, k_never_and, k_never_or, k_until_never, k_until_after, k_until_turns, k_until_most, k_until_within, k_until_and, k_until_or, k_after_never, k_after_until, k_after_turns, k_after_most, k_after_within, k_after_and, k_after_or, k_turns_never, k_turns_until, k_turns_after, k_turns_most, k_turns_within, k_turns_and, k_turns_or, k_most_never, k_most_until, k_most_after, k_most_turns, k_most_within, k_most_and, k_most_or, k_within_never, k_within_until, k_within_after, k_within_turns, k_within_most, k_within_and, k_within_or, k_and_never, k_and_until, k_and_after, k_and_turns, k_and_most, k_and_within, k_and_or, k_or_never, k_or_until, k_or_after, k_or_turns, k_or_most, k_or_within, k_or_and, c2, q, gAdd, Den.gSub, hne, Int.reduceEq, Int.reduceAdd, Int.reduceSub]
    · by_cases h2 : c = b
      · subst h2
        rcases hv with rfl | rfl | rfl <;> simp only [aDef, pre, outs, List.map_cons, List.map_nil, List.replicate, List.cons_append, List.nil_append, List.length_cons, List.length_nil, sSeq, sSet, sRet, sRetN, sIf, sDrop, sPar, sAsg, sNext, aB, aC, aVar, aMove, aFz, aTV, aNot, aAnd, aOr, aIfE, aAndV, aOrV, aOp, aSl, aP, evA, rsv, l1, l2, Res.bind, Res.out, List.getElem?_cons_zero, List.getElem?_cons_succ, List.set_cons_zero, List.set_cons_succ, Option.map_some, Option.map_none, fz, shs, if_true, if_false, ite_true, ite_false, Bool.false_eq_true, reduceIte, reduceCtorEq, Nat.reduceAdd, Nat.reduceSub, Nat.reduceLT, Nat.reduceLeDiff, Nat.reduceEqDiff, Bool.not_true, Bool.not_false, Nat.sub_self, Nat.zero_add, and_self, true_and, and_true, Nat.lt_add_one, decide_true, decide_false, decide_eq_true_eq , gSl_tS, gLen_tS, gLen_lS, gTup_str, gIn_tS, gNotIn_tS, gIn_lS, gNotIn_lS, gEq_int, gEq_str, gNe_int, gNe_str, cut_from, cut_to , gTup_str2, gIx_tup, atI_0, atI_1, atI_2, atI_3, gSl_tup, List.mem_cons, List.not_mem_nil, or_false, false_or, true_or, or_true, not_true_eq_false, not_false_eq_true , aCall, tak, giv, List.append_nil, aMeth, k_never_until, k_never_after, k_never_turns, k_never_most, k_never_within, k_never_and, k_never_or, k_until_never, k_until_after, k_until_turns, k_until_most, k_until_within, k_until_and, k_until_or, k_after_never, k_after_until, k_after_turns, k_after_most, k_after_within, k_after_and, k_after_or, k_turns_never, k_turns_until, k_turns_after, k_turns_most, k_turns_within, k_turns_and, k_turns_or, k_most_never, k_most_until, k_most_after, k_most_turns, k_most_within, k_most_and, k_most_or, k_within_never, k_within_until, k_within_after, k_within_turns, k_within_most, k_within_and, k_within_or, k_and_never, k_and_until, k_and_after, k_and_turns, k_and_most, k_and_within, k_and_or, k_or_never, k_or_until, k_or_after, k_or_turns, k_or_most, k_or_within, k_or_and, c2, q, h1, gAdd, Den.gSub, Int.reduceEq, Int.reduceAdd, Int.reduceSub]
      · simp only [aDef, pre, outs, List.map_cons, List.map_nil, List.replicate, List.cons_append, List.nil_append, List.length_cons, List.length_nil, sSeq, sSet, sRet, sRetN, sIf, sDrop, sPar, sAsg, sNext, aB, aC, aVar, aMove, aFz, aTV, aNot, aAnd, aOr, aIfE, aAndV, aOrV, aOp, aSl, aP, evA, rsv, l1, l2, Res.bind, Res.out, List.getElem?_cons_zero, List.getElem?_cons_succ, List.set_cons_zero, List.set_cons_succ, Option.map_some, Option.map_none, fz, shs, if_true, if_false, ite_true, ite_false, Bool.false_eq_true, reduceIte, reduceCtorEq, Nat.reduceAdd, Nat.reduceSub, Nat.reduceLT, Nat.reduceLeDiff, Nat.reduceEqDiff, Bool.not_true, Bool.not_false, Nat.sub_self, Nat.zero_add, and_self, true_and, and_true, Nat.lt_add_one, decide_true, decide_false, decide_eq_true_eq , gSl_tS, gLen_tS, gLen_lS, gTup_str, gIn_tS, gNotIn_tS, gIn_lS, gNotIn_lS, gEq_int, gEq_str, gNe_int, gNe_str, cut_from, cut_to , gTup_str2, gIx_tup, atI_0, atI_1, atI_2, atI_3, gSl_tup, List.mem_cons, List.not_mem_nil, or_false, false_or, true_or, or_true, not_true_eq_false, not_false_eq_true , aCall, tak, giv, List.append_nil, aMeth, k_never_until, k_never_after, k_never_turns, k_never_most, k_never_within, k_never_and, k_never_or, k_until_never, k_until_after, k_until_turns, k_until_most, k_until_within, k_until_and, k_until_or, k_after_never, k_after_until, k_after_turns, k_after_most, k_after_within, k_after_and, k_after_or, k_turns_never, k_turns_until, k_turns_after, k_turns_most, k_turns_within, k_turns_and, k_turns_or, k_most_never, k_most_until, k_most_after, k_most_turns, k_most_within, k_most_and, k_most_or, k_within_never, k_within_until, k_within_after, k_within_turns, k_within_most, k_within_and, k_within_or, k_and_never, k_and_until, k_and_after, k_and_turns, k_and_most, k_and_within, k_and_or, k_or_never, k_or_until, k_or_after, k_or_turns, k_or_most, k_or_within, k_or_and, c2, q, h1, h2]
  | most n a cs =>
    unfold d_behind_mind
    have e := t_counted_most (n := n) (a := a) (c := c) (cs := cs) (m := m)
    unfold Pl.d at e ⊢
    simp only [aDef, pre, outs, List.map_cons, List.map_nil, List.replicate, List.cons_append, List.nil_append, List.length_cons, List.length_nil, sSeq, sSet, sRet, sRetN, sIf, sDrop, sPar, sAsg, sNext, aB, aC, aVar, aMove, aFz, aTV, aNot, aAnd, aOr, aIfE, aAndV, aOrV, aOp, aSl, aP, evA, rsv, l1, l2, Res.bind, Res.out, List.getElem?_cons_zero, List.getElem?_cons_succ, List.set_cons_zero, List.set_cons_succ, Option.map_some, Option.map_none, fz, shs, if_true, if_false, ite_true, ite_false, Bool.false_eq_true, reduceIte, reduceCtorEq, Nat.reduceAdd, Nat.reduceSub, Nat.reduceLT, Nat.reduceLeDiff, Nat.reduceEqDiff, Bool.not_true, Bool.not_false, Nat.sub_self, Nat.zero_add, and_self, true_and, and_true, Nat.lt_add_one, decide_true, decide_false, decide_eq_true_eq , gSl_tS, gLen_tS, gLen_lS, gTup_str, gIn_tS, gNotIn_tS, gIn_lS, gNotIn_lS, gEq_int, gEq_str, gNe_int, gNe_str, cut_from, cut_to , gTup_str2, gIx_tup, atI_0, atI_1, atI_2, atI_3, gSl_tup, List.mem_cons, List.not_mem_nil, or_false, false_or, true_or, or_true, not_true_eq_false, not_false_eq_true , aCall, tak, giv, List.append_nil, aMeth, k_never_until, k_never_after, k_never_turns, k_never_most, k_never_within, k_never_and, k_never_or, k_until_never, k_until_after, k_until_turns, k_until_most, k_until_within, k_until_and, k_until_or, k_after_never, k_after_until, k_after_turns, k_after_most, k_after_within, k_after_and, k_after_or, k_turns_never, k_turns_until, k_turns_after, k_turns_most, k_turns_within, k_turns_and, k_turns_or, k_most_never, k_most_until, k_most_after, k_most_turns, k_most_within, k_most_and, k_most_or, k_within_never, k_within_until, k_within_after, k_within_turns, k_within_most, k_within_and, k_within_or, k_and_never, k_and_until, k_and_after, k_and_turns, k_and_most, k_and_within, k_and_or, k_or_never, k_or_until, k_or_after, k_or_turns, k_or_most, k_or_within, k_or_and, aCall, tak, giv, e, List.append_nil]
  | within n a b =>
    unfold d_behind_mind
    have e := t_counted_within (n := n) (a := a) (c := c) (b := b) (m := m)
    unfold Pl.d at e ⊢
    simp only [aDef, pre, outs, List.map_cons, List.map_nil, List.replicate, List.cons_append, List.nil_append, List.length_cons, List.length_nil, sSeq, sSet, sRet, sRetN, sIf, sDrop, sPar, sAsg, sNext, aB, aC, aVar, aMove, aFz, aTV, aNot, aAnd, aOr, aIfE, aAndV, aOrV, aOp, aSl, aP, evA, rsv, l1, l2, Res.bind, Res.out, List.getElem?_cons_zero, List.getElem?_cons_succ, List.set_cons_zero, List.set_cons_succ, Option.map_some, Option.map_none, fz, shs, if_true, if_false, ite_true, ite_false, Bool.false_eq_true, reduceIte, reduceCtorEq, Nat.reduceAdd, Nat.reduceSub, Nat.reduceLT, Nat.reduceLeDiff, Nat.reduceEqDiff, Bool.not_true, Bool.not_false, Nat.sub_self, Nat.zero_add, and_self, true_and, and_true, Nat.lt_add_one, decide_true, decide_false, decide_eq_true_eq , gSl_tS, gLen_tS, gLen_lS, gTup_str, gIn_tS, gNotIn_tS, gIn_lS, gNotIn_lS, gEq_int, gEq_str, gNe_int, gNe_str, cut_from, cut_to , gTup_str2, gIx_tup, atI_0, atI_1, atI_2, atI_3, gSl_tup, List.mem_cons, List.not_mem_nil, or_false, false_or, true_or, or_true, not_true_eq_false, not_false_eq_true , aCall, tak, giv, List.append_nil, aMeth, k_never_until, k_never_after, k_never_turns, k_never_most, k_never_within, k_never_and, k_never_or, k_until_never, k_until_after, k_until_turns, k_until_most, k_until_within, k_until_and, k_until_or, k_after_never, k_after_until, k_after_turns, k_after_most, k_after_within, k_after_and, k_after_or, k_turns_never, k_turns_until, k_turns_after, k_turns_most, k_turns_within, k_turns_and, k_turns_or, k_most_never, k_most_until, k_most_after, k_most_turns, k_most_within, k_most_and, k_most_or, k_within_never, k_within_until, k_within_after, k_within_turns, k_within_most, k_within_and, k_within_or, k_and_never, k_and_until, k_and_after, k_and_turns, k_and_most, k_and_within, k_and_or, k_or_never, k_or_until, k_or_after, k_or_turns, k_or_most, k_or_within, k_or_and, aCall, tak, giv, e, List.append_nil]
end Lw
end
section
open PySem L2 Den
namespace Lw
theorem t_end (p : Pl) : d_end_mind [.sh p.d] = .ret (.sh (.int (endm p))) [.sh p.d] := by
  cases p with
  | never r =>
    unfold d_end_mind Pl.d endm
    have q : atI [D.str "never", tS r] (-1) = some (tS r) := rfl
    simp only [aDef, pre, outs, List.map_cons, List.map_nil, List.replicate, List.cons_append, List.nil_append, List.length_cons, List.length_nil, sSeq, sSet, sRet, sRetN, sIf, sDrop, sPar, sAsg, sNext, aB, aC, aVar, aMove, aFz, aTV, aNot, aAnd, aOr, aIfE, aAndV, aOrV, aOp, aSl, aP, evA, rsv, l1, l2, Res.bind, Res.out, List.getElem?_cons_zero, List.getElem?_cons_succ, List.set_cons_zero, List.set_cons_succ, Option.map_some, Option.map_none, fz, shs, if_true, if_false, ite_true, ite_false, Bool.false_eq_true, reduceIte, reduceCtorEq, Nat.reduceAdd, Nat.reduceSub, Nat.reduceLT, Nat.reduceLeDiff, Nat.reduceEqDiff, Bool.not_true, Bool.not_false, Nat.sub_self, Nat.zero_add, and_self, true_and, and_true, Nat.lt_add_one, decide_true, decide_false, decide_eq_true_eq , gSl_tS, gLen_tS, gLen_lS, gTup_str, gIn_tS, gNotIn_tS, gIn_lS, gNotIn_lS, gEq_int, gEq_str, gNe_int, gNe_str, cut_from, cut_to , gTup_str2, gIx_tup, atI_0, atI_1, atI_2, atI_3, gSl_tup, List.mem_cons, List.not_mem_nil, or_false, false_or, true_or, or_true, not_true_eq_false, not_false_eq_true , aCall, tak, giv, List.append_nil, aMeth, k_never_until, k_never_after, k_never_turns, k_never_most, k_never_within, k_never_and, k_never_or, k_until_never, k_until_after, k_until_turns, k_until_most, k_until_within, k_until_and, k_until_or, k_after_never, k_after_until, k_after_turns, k_after_most, k_after_within, k_after_and, k_after_or, k_turns_never, k_turns_until, k_turns_after, k_turns_most, k_turns_within, k_turns_and, k_turns_or, k_most_never, k_most_until, k_most_after, k_most_turns, k_most_within, k_most_and, k_most_or, k_within_never, k_within_until, k_within_after, k_within_turns, k_within_most, k_within_and, k_within_or, k_and_never, k_and_until, k_and_after, k_and_turns, k_and_most, k_and_within, k_and_or, k_or_never, k_or_until, k_or_after, k_or_turns, k_or_most, k_or_within, k_or_and, gNeg, q]
  | «until» a r =>
    unfold d_end_mind Pl.d endm
    have q : atI [D.str "until", .str a, tS r] (-1) = some (tS r) := rfl
    simp only [aDef, pre, outs, List.map_cons, List.map_nil, List.replicate, List.cons_append, List.nil_append, List.length_cons, List.length_nil, sSeq, sSet, sRet, sRetN, sIf, sDrop, sPar, sAsg, sNext, aB, aC, aVar, aMove, aFz, aTV, aNot, aAnd, aOr, aIfE, aAndV, aOrV, aOp, aSl, aP, evA, rsv, l1, l2, Res.bind, Res.out, List.getElem?_cons_zero, List.getElem?_cons_succ, List.set_cons_zero, List.set_cons_succ, Option.map_some, Option.map_none, fz, shs, if_true, if_false, ite_true, ite_false, Bool.false_eq_true, reduceIte, reduceCtorEq, Nat.reduceAdd, Nat.reduceSub, Nat.reduceLT, Nat.reduceLeDiff, Nat.reduceEqDiff, Bool.not_true, Bool.not_false, Nat.sub_self, Nat.zero_add, and_self, true_and, and_true, Nat.lt_add_one, decide_true, decide_false, decide_eq_true_eq , gSl_tS, gLen_tS, gLen_lS, gTup_str, gIn_tS, gNotIn_tS, gIn_lS, gNotIn_lS, gEq_int, gEq_str, gNe_int, gNe_str, cut_from, cut_to , gTup_str2, gIx_tup, atI_0, atI_1, atI_2, atI_3, gSl_tup, List.mem_cons, List.not_mem_nil, or_false, false_or, true_or, or_true, not_true_eq_false, not_false_eq_true , aCall, tak, giv, List.append_nil, aMeth, k_never_until, k_never_after, k_never_turns, k_never_most, k_never_within, k_never_and, k_never_or, k_until_never, k_until_after, k_until_turns, k_until_most, k_until_within, k_until_and, k_until_or, k_after_never, k_after_until, k_after_turns, k_after_most, k_after_within, k_after_and, k_after_or, k_turns_never, k_turns_until, k_turns_after, k_turns_most, k_turns_within, k_turns_and, k_turns_or, k_most_never, k_most_until, k_most_after, k_most_turns, k_most_within, k_most_and, k_most_or, k_within_never, k_within_until, k_within_after, k_within_turns, k_within_most, k_within_and, k_within_or, k_and_never, k_and_until, k_and_after, k_and_turns, k_and_most, k_and_within, k_and_or, k_or_never, k_or_until, k_or_after, k_or_turns, k_or_most, k_or_within, k_or_and, gNeg, q]
  | after a b => unfold d_end_mind Pl.d endm; simp only [aDef, pre, outs, List.map_cons, List.map_nil, List.replicate, List.cons_append, List.nil_append, List.length_cons, List.length_nil, sSeq, sSet, sRet, sRetN, sIf, sDrop, sPar, sAsg, sNext, aB, aC, aVar, aMove, aFz, aTV, aNot, aAnd, aOr, aIfE, aAndV, aOrV, aOp, aSl, aP, evA, rsv, l1, l2, Res.bind, Res.out, List.getElem?_cons_zero, List.getElem?_cons_succ, List.set_cons_zero, List.set_cons_succ, Option.map_some, Option.map_none, fz, shs, if_true, if_false, ite_true, ite_false, Bool.false_eq_true, reduceIte, reduceCtorEq, Nat.reduceAdd, Nat.reduceSub, Nat.reduceLT, Nat.reduceLeDiff, Nat.reduceEqDiff, Bool.not_true, Bool.not_false, Nat.sub_self, Nat.zero_add, and_self, true_and, and_true, Nat.lt_add_one, decide_true, decide_false, decide_eq_true_eq , gSl_tS, gLen_tS, gLen_lS, gTup_str, gIn_tS, gNotIn_tS, gIn_lS, gNotIn_lS, gEq_int, gEq_str, gNe_int, gNe_str, cut_from, cut_to , gTup_str2, gIx_tup, atI_0, atI_1, atI_2, atI_3, gSl_tup, List.mem_cons, List.not_mem_nil, or_false, false_or, true_or, or_true, not_true_eq_false, not_false_eq_true , aCall, tak, giv, List.append_nil, aMeth, k_never_until, k_never_after, k_never_turns, k_never_most, k_never_within, k_never_and, k_never_or, k_until_never, k_until_after, k_until_turns, k_until_most, k_until_within, k_until_and, k_until_or, k_after_never, k_after_until, k_after_turns, k_after_most, k_after_within, k_after_and, k_after_or, k_turns_never, k_turns_until, k_turns_after, k_turns_most, k_turns_within, k_turns_and, k_turns_or, k_most_never, k_most_until, k_most_after, k_most_turns, k_most_within, k_most_and, k_most_or, k_within_never, k_within_until, k_within_after, k_within_turns, k_within_most, k_within_and, k_within_or, k_and_never, k_and_until, k_and_after, k_and_turns, k_and_most, k_and_within, k_and_or, k_or_never, k_or_until, k_or_after, k_or_turns, k_or_most, k_or_within, k_or_and]
  | turns a b => unfold d_end_mind Pl.d endm; simp only [aDef, pre, outs, List.map_cons, List.map_nil, List.replicate, List.cons_append, List.nil_append, List.length_cons, List.length_nil, sSeq, sSet, sRet, sRetN, sIf, sDrop, sPar, sAsg, sNext, aB, aC, aVar, aMove, aFz, aTV, aNot, aAnd, aOr, aIfE, aAndV, aOrV, aOp, aSl, aP, evA, rsv, l1, l2, Res.bind, Res.out, List.getElem?_cons_zero, List.getElem?_cons_succ, List.set_cons_zero, List.set_cons_succ, Option.map_some, Option.map_none, fz, shs, if_true, if_false, ite_true, ite_false, Bool.false_eq_true, reduceIte, reduceCtorEq, Nat.reduceAdd, Nat.reduceSub, Nat.reduceLT, Nat.reduceLeDiff, Nat.reduceEqDiff, Bool.not_true, Bool.not_false, Nat.sub_self, Nat.zero_add, and_self, true_and, and_true, Nat.lt_add_one, decide_true, decide_false, decide_eq_true_eq , gSl_tS, gLen_tS, gLen_lS, gTup_str, gIn_tS, gNotIn_tS, gIn_lS, gNotIn_lS, gEq_int, gEq_str, gNe_int, gNe_str, cut_from, cut_to , gTup_str2, gIx_tup, atI_0, atI_1, atI_2, atI_3, gSl_tup, List.mem_cons, List.not_mem_nil, or_false, false_or, true_or, or_true, not_true_eq_false, not_false_eq_true , aCall, tak, giv, List.append_nil, aMeth, k_never_until, k_never_after, k_never_turns, k_never_most, k_never_within, k_never_and, k_never_or, k_until_never, k_until_after, k_until_turns, k_until_most, k_until_within, k_until_and, k_until_or, k_after_never, k_after_until, k_after_turns, k_after_most, k_after_within, k_after_and, k_after_or, k_turns_never, k_turns_until, k_turns_after, k_turns_most, k_turns_within, k_turns_and, k_turns_or, k_most_never, k_most_until, k_most_after, k_most_turns, k_most_within, k_most_and, k_most_or, k_within_never, k_within_until, k_within_after, k_within_turns, k_within_most, k_within_and, k_within_or, k_and_never, k_and_until, k_and_after, k_and_turns, k_and_most, k_and_within, k_and_or, k_or_never, k_or_until, k_or_after, k_or_turns, k_or_most, k_or_within, k_or_and]
  | most n a cs => unfold d_end_mind Pl.d endm; simp only [aDef, pre, outs, List.map_cons, List.map_nil, List.replicate, List.cons_append, List.nil_append, List.length_cons, List.length_nil, sSeq, sSet, sRet, sRetN, sIf, sDrop, sPar, sAsg, sNext, aB, aC, aVar, aMove, aFz, aTV, aNot, aAnd, aOr, aIfE, aAndV, aOrV, aOp, aSl, aP, evA, rsv, l1, l2, Res.bind, Res.out, List.getElem?_cons_zero, List.getElem?_cons_succ, List.set_cons_zero, List.set_cons_succ, Option.map_some, Option.map_none, fz, shs, if_true, if_false, ite_true, ite_false, Bool.false_eq_true, reduceIte, reduceCtorEq, Nat.reduceAdd, Nat.reduceSub, Nat.reduceLT, Nat.reduceLeDiff, Nat.reduceEqDiff, Bool.not_true, Bool.not_false, Nat.sub_self, Nat.zero_add, and_self, true_and, and_true, Nat.lt_add_one, decide_true, decide_false, decide_eq_true_eq , gSl_tS, gLen_tS, gLen_lS, gTup_str, gIn_tS, gNotIn_tS, gIn_lS, gNotIn_lS, gEq_int, gEq_str, gNe_int, gNe_str, cut_from, cut_to , gTup_str2, gIx_tup, atI_0, atI_1, atI_2, atI_3, gSl_tup, List.mem_cons, List.not_mem_nil, or_false, false_or, true_or, or_true, not_true_eq_false, not_false_eq_true , aCall, tak, giv, List.append_nil, aMeth, k_never_until, k_never_after, k_never_turns, k_never_most, k_never_within, k_never_and, k_never_or, k_until_never, k_until_after, k_until_turns, k_until_most, k_until_within, k_until_and, k_until_or, k_after_never, k_after_until, k_after_turns, k_after_most, k_after_within, k_after_and, k_after_or, k_turns_never, k_turns_until, k_turns_after, k_turns_most, k_turns_within, k_turns_and, k_turns_or, k_most_never, k_most_until, k_most_after, k_most_turns, k_most_within, k_most_and, k_most_or, k_within_never, k_within_until, k_within_after, k_within_turns, k_within_most, k_within_and, k_within_or, k_and_never, k_and_until, k_and_after, k_and_turns, k_and_most, k_and_within, k_and_or, k_or_never, k_or_until, k_or_after, k_or_turns, k_or_most, k_or_within, k_or_and, gAdd]
  | within n a b => unfold d_end_mind Pl.d endm; simp only [aDef, pre, outs, List.map_cons, List.map_nil, List.replicate, List.cons_append, List.nil_append, List.length_cons, List.length_nil, sSeq, sSet, sRet, sRetN, sIf, sDrop, sPar, sAsg, sNext, aB, aC, aVar, aMove, aFz, aTV, aNot, aAnd, aOr, aIfE, aAndV, aOrV, aOp, aSl, aP, evA, rsv, l1, l2, Res.bind, Res.out, List.getElem?_cons_zero, List.getElem?_cons_succ, List.set_cons_zero, List.set_cons_succ, Option.map_some, Option.map_none, fz, shs, if_true, if_false, ite_true, ite_false, Bool.false_eq_true, reduceIte, reduceCtorEq, Nat.reduceAdd, Nat.reduceSub, Nat.reduceLT, Nat.reduceLeDiff, Nat.reduceEqDiff, Bool.not_true, Bool.not_false, Nat.sub_self, Nat.zero_add, and_self, true_and, and_true, Nat.lt_add_one, decide_true, decide_false, decide_eq_true_eq , gSl_tS, gLen_tS, gLen_lS, gTup_str, gIn_tS, gNotIn_tS, gIn_lS, gNotIn_lS, gEq_int, gEq_str, gNe_int, gNe_str, cut_from, cut_to , gTup_str2, gIx_tup, atI_0, atI_1, atI_2, atI_3, gSl_tup, List.mem_cons, List.not_mem_nil, or_false, false_or, true_or, or_true, not_true_eq_false, not_false_eq_true , aCall, tak, giv, List.append_nil, aMeth, k_never_until, k_never_after, k_never_turns, k_never_most, k_never_within, k_never_and, k_never_or, k_until_never, k_until_after, k_until_turns, k_until_most, k_until_within, k_until_and, k_until_or, k_after_never, k_after_until, k_after_turns, k_after_most, k_after_within, k_after_and, k_after_or, k_turns_never, k_turns_until, k_turns_after, k_turns_most, k_turns_within, k_turns_and, k_turns_or, k_most_never, k_most_until, k_most_after, k_most_turns, k_most_within, k_most_and, k_most_or, k_within_never, k_within_until, k_within_after, k_within_turns, k_within_most, k_within_and, k_within_or, k_and_never, k_and_until, k_and_after, k_and_turns, k_and_most, k_and_within, k_and_or, k_or_never, k_or_until, k_or_after, k_or_turns, k_or_most, k_or_within, k_or_and, gAdd]
def endsSo (w r : List Str) : Bool := decide (r.length ≤ w.length) && decide (w.drop (w.length - r.length) = r)
theorem t_ends {w r : List Str} (h1 : okSs w) (h2 : okSs r) : d__law_ends_so [.sh (tS w), .sh (tS r)] = .ret (.sh (.bl (endsSo w r))) [.sh (tS w), .sh (tS r)] := by
  unfold d__law_ends_so endsSo
  by_cases h : r.length ≤ w.length
  · have e1 : (w.length : Int) - (r.length : Int) = ((w.length - r.length : Nat) : Int) := by omega
    have q := gEq_tS (okS_drop h1 (w.length - r.length)) h2
    have h' : (r.length : Int) ≤ (w.length : Int) := by omega
    simp only [aDef, pre, outs, List.map_cons, List.map_nil, List.replicate, List.cons_append, List.nil_append, List.length_cons, List.length_nil, sSeq, sSet, sRet, sRetN, sIf, sDrop, sPar, sAsg, sNext, aB, aC, aVar, aMove, aFz, aTV, aNot, aAnd, aOr, aIfE, aAndV, aOrV, aOp, aSl, aP, evA, rsv, l1, l2, Res.bind, Res.out, List.getElem?_cons_zero, List.getElem?_cons_succ, List.set_cons_zero, List.set_cons_succ, Option.map_some, Option.map_none, fz, shs, if_true, if_false, ite_true, ite_false, Bool.false_eq_true, reduceIte, reduceCtorEq, Nat.reduceAdd, Nat.reduceSub, Nat.reduceLT, Nat.reduceLeDiff, Nat.reduceEqDiff, Bool.not_true, Bool.not_false, Nat.sub_self, Nat.zero_add, and_self, true_and, and_true, Nat.lt_add_one, decide_true, decide_false, decide_eq_true_eq , gSl_tS, gLen_tS, gLen_lS, gTup_str, gIn_tS, gNotIn_tS, gIn_lS, gNotIn_lS, gEq_int, gEq_str, gNe_int, gNe_str, cut_from, cut_to , gTup_str2, gIx_tup, atI_0, atI_1, atI_2, atI_3, gSl_tup, List.mem_cons, List.not_mem_nil, or_false, false_or, true_or, or_true, not_true_eq_false, not_false_eq_true , aCall, tak, giv, List.append_nil, aMeth, k_never_until, k_never_after, k_never_turns, k_never_most, k_never_within, k_never_and, k_never_or, k_until_never, k_until_after, k_until_turns, k_until_most, k_until_within, k_until_and, k_until_or, k_after_never, k_after_until, k_after_turns, k_after_most, k_after_within, k_after_and, k_after_or, k_turns_never, k_turns_until, k_turns_after, k_turns_most, k_turns_within, k_turns_and, k_turns_or, k_most_never, k_most_until, k_most_after, k_most_turns, k_most_within, k_most_and, k_most_or, k_within_never, k_within_until, k_within_after, k_within_turns, k_within_most, k_within_and, k_within_or, k_and_never, k_and_until, k_and_after, k_and_turns, k_and_most, k_and_within, k_and_or, k_or_never, k_or_until, k_or_after, k_or_turns, k_or_most, k_or_within, k_or_and, gGe, Den.gSub, h, h', e1, q, Bool.true_and]
  · have h' : ¬ (r.length : Int) ≤ (w.length : Int) := by omega
    simp only [aDef, pre, outs, List.map_cons, List.map_nil, List.replicate, List.cons_append, List.nil_append, List.length_cons, List.length_nil, sSeq, sSet, sRet, sRetN, sIf, sDrop, sPar, sAsg, sNext, aB, aC, aVar, aMove, aFz, aTV, aNot, aAnd, aOr, aIfE, aAndV, aOrV, aOp, aSl, aP, evA, rsv, l1, l2, Res.bind, Res.out, List.getElem?_cons_zero, List.getElem?_cons_succ, List.set_cons_zero, List.set_cons_succ, Option.map_some, Option.map_none, fz, shs, if_true, if_false, ite_true, ite_false, Bool.false_eq_true, reduceIte, reduceCtorEq, Nat.reduceAdd, Nat.reduceSub, Nat.reduceLT, Nat.reduceLeDiff, Nat.reduceEqDiff, Bool.not_true, Bool.not_false, Nat.sub_self, Nat.zero_add, and_self, true_and, and_true, Nat.lt_add_one, decide_true, decide_false, decide_eq_true_eq , gSl_tS, gLen_tS, gLen_lS, gTup_str, gIn_tS, gNotIn_tS, gIn_lS, gNotIn_lS, gEq_int, gEq_str, gNe_int, gNe_str, cut_from, cut_to , gTup_str2, gIx_tup, atI_0, atI_1, atI_2, atI_3, gSl_tup, List.mem_cons, List.not_mem_nil, or_false, false_or, true_or, or_true, not_true_eq_false, not_false_eq_true , aCall, tak, giv, List.append_nil, aMeth, k_never_until, k_never_after, k_never_turns, k_never_most, k_never_within, k_never_and, k_never_or, k_until_never, k_until_after, k_until_turns, k_until_most, k_until_within, k_until_and, k_until_or, k_after_never, k_after_until, k_after_turns, k_after_most, k_after_within, k_after_and, k_after_or, k_turns_never, k_turns_until, k_turns_after, k_turns_most, k_turns_within, k_turns_and, k_turns_or, k_most_never, k_most_until, k_most_after, k_most_turns, k_most_within, k_most_and, k_most_or, k_within_never, k_within_until, k_within_after, k_within_turns, k_within_most, k_within_and, k_within_or, k_and_never, k_and_until, k_and_after, k_and_turns, k_and_most, k_and_within, k_and_or, k_or_never, k_or_until, k_or_after, k_or_turns, k_or_most, k_or_within, k_or_and, gGe, h, h', Bool.false_and]
/-- the items of w past the last one of cs -/
def after (cs : List Str) (w : List Str) : List Str := (w.reverse.takeWhile fun x => !decide (x ∈ cs)).reverse
def fresh : Pl → List Str → Bool
  | .never r, w => endsSo w r
  | .until a r, w => endsSo w r && !decide (a ∈ w)
  | .after a b, w => decide (w[w.length - 1]? = some b) && !decide (a ∈ w.take (w.length - 1))
  | .turns a b, w => match w[w.length - 1]? with
    | some x => decide (x = a ∨ x = b) && (decide ((w.filter fun y => decide (y = a ∨ y = b)).drop ((w.filter fun y => decide (y = a ∨ y = b)).length - 2) = [x, x]) || decide ((w.filter fun y => decide (y = a ∨ y = b)) = [b]))
    | none => false
  | .most n a cs, w => decide (w[w.length - 1]? = some a) && decide (n < ((after cs w).filter fun y => decide (y = a)).length)
  | .within n a b, w => decide (n + 1 ≤ w.length) && (decide (w[w.length - 1 - n]? = some a) && !decide (b ∈ w.drop (w.length - n)))
section
variable {w : List Str} (hw : okSs w) (hne : w ≠ [])
include hw hne
theorem last_get : ∃ x, w[w.length - 1]? = some x := by
  have : w.length ≠ 0 := fun h => hne (List.eq_nil_of_length_eq_zero h)
  exact ⟨_, List.getElem?_eq_getElem (by omega)⟩
theorem last_int : ((w.length : Int) - 1) = ((w.length - 1 : Nat) : Int) := by
  have : w.length ≠ 0 := fun h => hne (List.eq_nil_of_length_eq_zero h)
  omega
theorem t_fresh_never {r : List Str} (hr : okSs r) : d__law_fresh_break [.sh (Pl.never r).d, .sh (tS w)] = .ret (.sh (.bl (fresh (.never r) w))) [.sh (Pl.never r).d, .sh (tS w)] := by
  unfold d__law_fresh_break Pl.d fresh
  have e := t_ends hw hr
  simp only [aDef, pre, outs, List.map_cons, List.map_nil, List.replicate, List.cons_append, List.nil_append, List.length_cons, List.length_nil, sSeq, sSet, sRet, sRetN, sIf, sDrop, sPar, sAsg, sNext, aB, aC, aVar, aMove, aFz, aTV, aNot, aAnd, aOr, aIfE, aAndV, aOrV, aOp, aSl, aP, evA, rsv, l1, l2, Res.bind, Res.out, List.getElem?_cons_zero, List.getElem?_cons_succ, List.set_cons_zero, List.set_cons_succ, Option.map_some, Option.map_none, fz, shs, if_true, if_false, ite_true, ite_false, Bool.false_eq_true, reduceIte, reduceCtorEq, Nat.reduceAdd, Nat.reduceSub, Nat.reduceLT, Nat.reduceLeDiff, Nat.reduceEqDiff, Bool.not_true, Bool.not_false, Nat.sub_self, Nat.zero_add, and_self, true_and, and_true, Nat.lt_add_one, decide_true, decide_false, decide_eq_true_eq , gSl_tS, gLen_tS, gLen_lS, gTup_str, gIn_tS, gNotIn_tS, gIn_lS, gNotIn_lS, gEq_int, gEq_str, gNe_int, gNe_str, cut_from, cut_to , gTup_str2, gIx_tup, atI_0, atI_1, atI_2, atI_3, gSl_tup, List.mem_cons, List.not_mem_nil, or_false, false_or, true_or, or_true, not_true_eq_false, not_false_eq_true , aCall, tak, giv, List.append_nil, aMeth, k_never_until, k_never_after, k_never_turns, k_never_most, k_never_within, k_never_and, k_never_or, k_until_never, k_until_after, k_until_turns, k_until_most, k_until_within, k_until_and, k_until_or, k_after_never, k_after_until, k_after_turns, k_after_most, k_after_within, k_after_and, k_after_or, k_turns_never, k_turns_until, k_turns_after, k_turns_most, k_turns_within, k_turns_and, k_turns_or, k_most_never, k_most_until, k_most_after, k_most_turns, k_most_within, k_most_and, k_most_or, k_within_never, k_within_until, k_within_after, k_within_turns, k_within_most, k_within_and, k_within_or, k_and_never, k_and_until, k_and_after, k_and_turns, k_and_most, k_and_within, k_and_or, k_or_never, k_or_until, k_or_after, k_or_turns, k_or_most, k_or_within, k_or_and, Den.gSub, last_int hw hne, aCall, tak, giv, e, List.append_nil]
theorem t_fresh_until {a : Str} {r : List Str} (hr : okSs r) : d__law_fresh_break [.sh (Pl.until a r).d, .sh (tS w)] = .ret (.sh (.bl (fresh (.until a r) w))) [.sh (Pl.until a r).d, .sh (tS w)] := by
  unfold d__law_fresh_break Pl.d fresh
  have e := t_ends hw hr
  cases h : endsSo w r with
  | true => simp only [aDef, pre, outs, List.map_cons, List.map_nil, List.replicate, List.cons_append, List.nil_append, List.length_cons, List.length_nil, sSeq, sSet, sRet, sRetN, sIf, sDrop, sPar, sAsg, sNext, aB, aC, aVar, aMove, aFz, aTV, aNot, aAnd, aOr, aIfE, aAndV, aOrV, aOp, aSl, aP, evA, rsv, l1, l2, Res.bind, Res.out, List.getElem?_cons_zero, List.getElem?_cons_succ, List.set_cons_zero, List.set_cons_succ, Option.map_some, Option.map_none, fz, shs, if_true, if_false, ite_true, ite_false, Bool.false_eq_true, reduceIte, reduceCtorEq, Nat.reduceAdd, Nat.reduceSub, Nat.reduceLT, Nat.reduceLeDiff, Nat.reduceEqDiff, Bool.not_true, Bool.not_false, Nat.sub_self, Nat.zero_add, and_self, true_and, and_true, Nat.lt_add_one, decide_true, decide_false, decide_eq_true_eq , gSl_tS, gLen_tS, gLen_lS, gTup_str, gIn_tS, gNotIn_tS, gIn_lS, gNotIn_lS, gEq_int, gEq_str, gNe_int, gNe_str, cut_from, cut_to , gTup_str2, gIx_tup, atI_0, atI_1, atI_2, atI_3, gSl_tup, List.mem_cons, List.not_mem_nil, or_false, false_or, true_or, or_true, not_true_eq_false, not_false_eq_true , aCall, tak, giv, List.append_nil, aMeth, k_never_until, k_never_after, k_never_turns, k_never_most, k_never_within, k_never_and, k_never_or, k_until_never, k_until_after, k_until_turns, k_until_most, k_until_within, k_until_and, k_until_or, k_after_never, k_after_until, k_after_turns, k_after_most, k_after_within, k_after_and, k_after_or, k_turns_never, k_turns_until, k_turns_after, k_turns_most, k_turns_within, k_turns_and, k_turns_or, k_most_never, k_most_until, k_most_after, k_most_turns, k_most_within, k_most_and, k_most_or, k_within_never, k_within_until, k_within_after, k_within_turns, k_within_most, k_within_and, k_within_or, k_and_never, k_and_until, k_and_after, k_and_turns, k_and_most, k_and_within, k_and_or, k_or_never, k_or_until, k_or_after, k_or_turns, k_or_most, k_or_within, k_or_and, Den.gSub, last_int hw hne, aCall, tak, giv, e, h, List.append_nil, Bool.true_and]
  | false => simp only [aDef, pre, outs, List.map_cons, List.map_nil, List.replicate, List.cons_append, List.nil_append, List.length_cons, List.length_nil, sSeq, sSet, sRet, sRetN, sIf, sDrop, sPar, sAsg, sNext, aB, aC, aVar, aMove, aFz, aTV, aNot, aAnd, aOr, aIfE, aAndV, aOrV, aOp, aSl, aP, evA, rsv, l1, l2, Res.bind, Res.out, List.getElem?_cons_zero, List.getElem?_cons_succ, List.set_cons_zero, List.set_cons_succ, Option.map_some, Option.map_none, fz, shs, if_true, if_false, ite_true, ite_false, Bool.false_eq_true, reduceIte, reduceCtorEq, Nat.reduceAdd, Nat.reduceSub, Nat.reduceLT, Nat.reduceLeDiff, Nat.reduceEqDiff, Bool.not_true, Bool.not_false, Nat.sub_self, Nat.zero_add, and_self, true_and, and_true, Nat.lt_add_one, decide_true, decide_false, decide_eq_true_eq , gSl_tS, gLen_tS, gLen_lS, gTup_str, gIn_tS, gNotIn_tS, gIn_lS, gNotIn_lS, gEq_int, gEq_str, gNe_int, gNe_str, cut_from, cut_to , gTup_str2, gIx_tup, atI_0, atI_1, atI_2, atI_3, gSl_tup, List.mem_cons, List.not_mem_nil, or_false, false_or, true_or, or_true, not_true_eq_false, not_false_eq_true , aCall, tak, giv, List.append_nil, aMeth, k_never_until, k_never_after, k_never_turns, k_never_most, k_never_within, k_never_and, k_never_or, k_until_never, k_until_after, k_until_turns, k_until_most, k_until_within, k_until_and, k_until_or, k_after_never, k_after_until, k_after_turns, k_after_most, k_after_within, k_after_and, k_after_or, k_turns_never, k_turns_until, k_turns_after, k_turns_most, k_turns_within, k_turns_and, k_turns_or, k_most_never, k_most_until, k_most_after, k_most_turns, k_most_within, k_most_and, k_most_or, k_within_never, k_within_until, k_within_after, k_within_turns, k_within_most, k_within_and, k_within_or, k_and_never, k_and_until, k_and_after, k_and_turns, k_and_most, k_and_within, k_and_or, k_or_never, k_or_until, k_or_after, k_or_turns, k_or_most, k_or_within, k_or_and, Den.gSub, last_int hw hne, aCall, tak, giv, e, h, List.append_nil, Bool.false_and]
theorem t_fresh_after {a b : Str} : d__law_fresh_break [.sh (Pl.after a b).d, .sh (tS w)] = .ret (.sh (.bl (fresh (.after a b) w))) [.sh (Pl.after a b).d, .sh (tS w)] := by
  obtain ⟨x, hx⟩ := last_get hw hne
  have ef : fresh (.after a b) w = (decide (x = b) && !decide (a ∈ w.take (w.length - 1))) := by simp [fresh, hx]
  rw [ef]
  unfold d__law_fresh_break Pl.d
  have q := gIx_tS hx
  by_cases h : x = b
  · subst h
    simp only [aDef, pre, outs, List.map_cons, List.map_nil, List.replicate, List.cons_append, List.nil_append, List.length_cons, List.length_nil, sSeq, sSet, sRet, sRetN, sIf, sDrop, sPar, sAsg, sNext, aB, aC, aVar, aMove, aFz, aTV, aNot, aAnd, aOr, aIfE, aAndV, aOrV, aOp, aSl, aP, evA, rsv, l1, l2, Res.bind, Res.out, List.getElem?_cons_zero, List.getElem?_cons_succ, List.set_cons_zero, List.set_cons_succ, Option.map_some, Option.map_none, fz, shs, if_true, if_false, ite_true, ite_false, Bool.false_eq_true, reduceIte, reduceCtorEq, Nat.reduceAdd, Nat.reduceSub, Nat.reduceLT, Nat.reduceLeDiff, Nat.reduceEqDiff, Bool.not_true, Bool.not_false, Nat.sub_self, Nat.zero_add, and_self, true_and, and_true, Nat.lt_add_one, decide_true, decide_false, decide_eq_true_eq , gSl_tS, gLen_tS, gLen_lS, gTup_str, gIn_tS, gNotIn_tS, gIn_lS, gNotIn_lS, gEq_int, gEq_str, gNe_int, gNe_str, cut_from, cut_to , gTup_str2, gIx_tup, atI_0, atI_1, atI_2, atI_3, gSl_tup, List.mem_cons, List.not_mem_nil, or_false, false_or, true_or, or_true, not_true_eq_false, not_false_eq_true , aCall, tak, giv, List.append_nil, aMeth, k_never_until, k_never_after, k_never_turns, k_never_most, k_never_within, k_never_and, k_never_or, k_until_never, k_until_after, k_until_turns, k_until_most, k_until_within, k_until_and, k_until_or, k_after_never, k_after_until, k_after_turns, k_after_most, k_after_within, k_after_and, k_after_or, k_turns_never, k_turns_until, k_turns_after, k_turns_most, k_turns_within, k_turns_and, k_turns_or, k_most_never, k_most_until, k_most_after, k_most_turns, k_most_within, k_most_and, k_most_or, k_within_never, k_within_until, k_within_after, k_within_turns, k_within_most, k_within_and, k_within_or, k_and_never, k_and_until, k_and_after, k_and_turns, k_and_most, k_and_within, k_and_or, k_or_never, k_or_until, k_or_after, k_or_turns, k_or_most, k_or_within, k_or_and, Den.gSub, last_int hw hne, q, Bool.true_and]
  · simp only [aDef, pre, outs, List.map_cons, List.map_nil, List.replicate, List.cons_append, List.nil_append, List.length_cons, List.length_nil, sSeq, sSet, sRet, sRetN, sIf, sDrop, sPar, sAsg, sNext, aB, aC, aVar, aMove, aFz, aTV, aNot, aAnd, aOr, aIfE, aAndV, aOrV, aOp, aSl, aP, evA, rsv, l1, l2, Res.bind, Res.out, List.getElem?_cons_zero, List.getElem?_cons_succ, List.set_cons_zero, List.set_cons_succ, Option.map_some, Option.map_none, fz, shs, if_true, if_false, ite_true, ite_false, Bool.false_eq_true, reduceIte, reduceCtorEq, Nat.reduceAdd, Nat.reduceSub, Nat.reduceLT, Nat.reduceLeDiff, Nat.reduceEqDiff, Bool.not_true, Bool.not_false, Nat.sub_self, Nat.zero_add, and_self, true_and, and_true, Nat.lt_add_one, decide_true, decide_false, decide_eq_true_eq , gSl_tS, gLen_tS, gLen_lS, gTup_str, gIn_tS, gNotIn_tS, gIn_lS, gNotIn_lS, gEq_int, gEq_str, gNe_int, gNe_str, cut_from, cut_to , gTup_str2, gIx_tup, atI_0, atI_1, atI_2, atI_3, gSl_tup, List.mem_cons, List.not_mem_nil, or_false, false_or, true_or, or_true, not_true_eq_false, not_false_eq_true , aCall, tak, giv, List.append_nil, aMeth, k_never_until, k_never_after, k_never_turns, k_never_most, k_never_within, k_never_and, k_never_or, k_until_never, k_until_after, k_until_turns, k_until_most, k_until_within, k_until_and, k_until_or, k_after_never, k_after_until, k_after_turns, k_after_most, k_after_within, k_after_and, k_after_or, k_turns_never, k_turns_until, k_turns_after, k_turns_most, k_turns_within, k_turns_and, k_turns_or, k_most_never, k_most_until, k_most_after, k_most_turns, k_most_within, k_most_and, k_most_or, k_within_never, k_within_until, k_within_after, k_within_turns, k_within_most, k_within_and, k_within_or, k_and_never, k_and_until, k_and_after, k_and_turns, k_and_most, k_and_within, k_and_or, k_or_never, k_or_until, k_or_after, k_or_turns, k_or_most, k_or_within, k_or_and, Den.gSub, last_int hw hne, q, h, Bool.false_and]
theorem t_fresh_within {n : Nat} {a b : Str} : d__law_fresh_break [.sh (Pl.within n a b).d, .sh (tS w)] = .ret (.sh (.bl (fresh (.within n a b) w))) [.sh (Pl.within n a b).d, .sh (tS w)] := by
  unfold d__law_fresh_break Pl.d
  by_cases h : n + 1 ≤ w.length
  · have e1 : ((w.length - 1 : Nat) : Int) - (n : Int) = ((w.length - 1 - n : Nat) : Int) := by omega
    have h0 : (0 : Int) ≤ ((w.length - 1 - n : Nat) : Int) := by omega
    have e2 : ((w.length - 1 - n : Nat) : Int) + 1 = ((w.length - n : Nat) : Int) := by omega
    have hg : w.length - 1 - n < w.length := by omega
    have q := gIx_tS (List.getElem?_eq_getElem hg)
    have ef : fresh (.within n a b) w = (decide (w[w.length - 1 - n] = a) && !decide (b ∈ w.drop (w.length - n))) := by simp [fresh, h, List.getElem?_eq_getElem hg]
    rw [ef]
    by_cases h2 : w[w.length - 1 - n] = a
    · simp only [aDef, pre, outs, List.map_cons, List.map_nil, List.replicate, List.cons_append, List.nil_append, List.length_cons, List.length_nil, sSeq, sSet, sRet, sRetN, sIf, sDrop, sPar, sAsg, sNext, aB, aC, aVar, aMove, aFz, aTV, aNot, aAnd, aOr, aIfE, aAndV, aOrV, aOp, aSl, aP, evA, rsv, l1, l2, Res.bind, Res.out, List.getElem?_cons_zero, List.getElem?_cons_succ, List.set_cons_zero, List.set_cons_succ, Option.map_some, Option.map_none, fz, shs, if_true, if_false, ite_true, ite_false, Bool.false_eq_true, reduceIte, reduceCtorEq, Nat.reduceAdd, Nat.reduceSub, Nat.reduceLT, Nat.reduceLeDiff, Nat.reduceEqDiff, Bool.not_true, Bool.not_false, Nat.sub_self, Nat.zero_add, and_self, true_and, and_true, Nat.lt_add_one, decide_true, decide_false, decide_eq_true_eq , gSl_tS, gLen_tS, gLen_lS, gTup_str, gIn_tS, gNotIn_tS, gIn_lS, gNotIn_lS, gEq_int, gEq_str, gNe_int, gNe_str, cut_from, cut_to , gTup_str2, gIx_tup, atI_0, atI_1, atI_2, atI_3, gSl_tup, List.mem_cons, List.not_mem_nil, or_false, false_or, true_or, or_true, not_true_eq_false, not_false_eq_true , aCall, tak, giv, List.append_nil, aMeth, k_never_until, k_never_after, k_never_turns, k_never_most, k_never_within, k_never_and, k_never_or, k_until_never, k_until_after, k_until_turns, k_until_most, k_until_within, k_until_and, k_until_or, k_after_never, k_after_until, k_after_turns, k_after_most, k_after_within, k_after_and, k_after_or, k_turns_never, k_turns_until, k_turns_after, k_turns_most, k_turns_within, k_turns_and, k_turns_or, k_most_never, k_most_until, k_most_after, k_most_turns, k_most_within, k_most_and, k_most_or, k_within_never, k_within_until, k_within_after, k_within_turns, k_within_most, k_within_and, k_within_or, k_and_never, k_and_until, k_and_after, k_and_turns, k_and_most, k_and_within, k_and_or, k_or_never, k_or_until, k_or_after, k_or_turns, k_or_most, k_or_within, k_or_and, Den.gSub, gAdd, gGe, last_int hw hne, e1, h0, e2, q, h, h2, Bool.true_and]
    · simp only [aDef, pre, outs, List.map_cons, List.map_nil, List.replicate, List.cons_append, List.nil_append, List.length_cons, List.length_nil, sSeq, sSet, sRet, sRetN, sIf, sDrop, sPar, sAsg, sNext, aB, aC, aVar, aMove, aFz, aTV, aNot, aAnd, aOr, aIfE, aAndV, aOrV, aOp, aSl, aP, evA, rsv, l1, l2, Res.bind, Res.out, List.getElem?_cons_zero, List.getElem?_cons_succ, List.set_cons_zero, List.set_cons_succ, Option.map_some, Option.map_none, fz, shs, if_true, if_false, ite_true, ite_false, Bool.false_eq_true, reduceIte, reduceCtorEq, Nat.reduceAdd, Nat.reduceSub, Nat.reduceLT, Nat.reduceLeDiff, Nat.reduceEqDiff, Bool.not_true, Bool.not_false, Nat.sub_self, Nat.zero_add, and_self, true_and, and_true, Nat.lt_add_one, decide_true, decide_false, decide_eq_true_eq , gSl_tS, gLen_tS, gLen_lS, gTup_str, gIn_tS, gNotIn_tS, gIn_lS, gNotIn_lS, gEq_int, gEq_str, gNe_int, gNe_str, cut_from, cut_to , gTup_str2, gIx_tup, atI_0, atI_1, atI_2, atI_3, gSl_tup, List.mem_cons, List.not_mem_nil, or_false, false_or, true_or, or_true, not_true_eq_false, not_false_eq_true , aCall, tak, giv, List.append_nil, aMeth, k_never_until, k_never_after, k_never_turns, k_never_most, k_never_within, k_never_and, k_never_or, k_until_never, k_until_after, k_until_turns, k_until_most, k_until_within, k_until_and, k_until_or, k_after_never, k_after_until, k_after_turns, k_after_most, k_after_within, k_after_and, k_after_or, k_turns_never, k_turns_until, k_turns_after, k_turns_most, k_turns_within, k_turns_and, k_turns_or, k_most_never, k_most_until, k_most_after, k_most_turns, k_most_within, k_most_and, k_most_or, k_within_never, k_within_until, k_within_after, k_within_turns, k_within_most, k_within_and, k_within_or, k_and_never, k_and_until, k_and_after, k_and_turns, k_and_most, k_and_within, k_and_or, k_or_never, k_or_until, k_or_after, k_or_turns, k_or_most, k_or_within, k_or_and, Den.gSub, gAdd, gGe, last_int hw hne, e1, h0, e2, q, h, h2, Bool.true_and, Bool.false_and]
  · have h0 : ¬ (0 : Int) ≤ ((w.length - 1 : Nat) : Int) - (n : Int) := by
      have : w.length ≠ 0 := fun h => hne (List.eq_nil_of_length_eq_zero h)
      omega
    have ef : fresh (.within n a b) w = false := by simp [fresh, h]
    rw [ef]
    simp only [aDef, pre, outs, List.map_cons, List.map_nil, List.replicate, List.cons_append, List.nil_append, List.length_cons, List.length_nil, sSeq, sSet, sRet, sRetN, sIf, sDrop, sPar, sAsg, sNext, aB, aC, aVar, aMove, aFz, aTV, aNot, aAnd, aOr, aIfE, aAndV, aOrV, aOp, aSl, aP, evA, rsv, l1, l2, Res.bind, Res.out, List.getElem?_cons_zero, List.getElem?_cons_succ, List.set_cons_zero, List.set_cons_succ, Option.map_some, Option.map_none, fz, shs, if_true, if_false, ite_true, ite_false, Bool.false_eq_true, reduceIte, reduceCtorEq, Nat.reduceAdd, Nat.reduceSub, Nat.reduceLT, Nat.reduceLeDiff, Nat.reduceEqDiff, Bool.not_true, Bool.not_false, Nat.sub_self, Nat.zero_add, and_self, true_and, and_true, Nat.lt_add_one, decide_true, decide_false, decide_eq_true_eq , gSl_tS, gLen_tS, gLen_lS, gTup_str, gIn_tS, gNotIn_tS, gIn_lS, gNotIn_lS, gEq_int, gEq_str, gNe_int, gNe_str, cut_from, cut_to , gTup_str2, gIx_tup, atI_0, atI_1, atI_2, atI_3, gSl_tup, List.mem_cons, List.not_mem_nil, or_false, false_or, true_or, or_true, not_true_eq_false, not_false_eq_true , aCall, tak, giv, List.append_nil, aMeth, k_never_until, k_never_after, k_never_turns, k_never_most, k_never_within, k_never_and, k_never_or, k_until_never, k_until_after, k_until_turns, k_until_most, k_until_within, k_until_and, k_until_or, k_after_never, k_after_until, k_after_turns, k_after_most, k_after_within, k_after_and, k_after_or, k_turns_never, k_turns_until, k_turns_after, k_turns_most, k_turns_within, k_turns_and, k_turns_or, k_most_never, k_most_until, k_most_after, k_most_turns, k_most_within, k_most_and, k_most_or, k_within_never, k_within_until, k_within_after, k_within_turns, k_within_most, k_within_and, k_within_or, k_and_never, k_and_until, k_and_after, k_and_turns, k_and_most, k_and_within, k_and_or, k_or_never, k_or_until, k_or_after, k_or_turns, k_or_most, k_or_within, k_or_and, Den.gSub, gGe, last_int hw hne, h0]
end
end Lw
end
section
open PySem L2 Den
namespace Lw
theorem rev_ind {α : Type} {P : List α → Prop} (h0 : P []) (h1 : ∀ l a, P l → P (l ++ [a])) (l : List α) : P l := by
  have k : ∀ r : List α, P r.reverse := fun r => by
    induction r with
    | nil => exact h0
    | cons a r ih => rw [List.reverse_cons]; exact h1 _ _ ih
  have := k l.reverse
  rwa [List.reverse_reverse] at this
theorem after_snoc (cs w : List Str) (y : Str) : after cs (w ++ [y]) = if y ∈ cs then [] else after cs w ++ [y] := by
  unfold after
  rw [List.reverse_append]
  by_cases h : y ∈ cs
  · simp [h]
  · simp [h]
def cutsOf (cs w : List Str) : List Int := ((List.range w.length).map fun i : Nat => (i : Int)).filter fun i => match w[i.toNat]? with
    | some y => decide (y ∈ cs)
    | none => false
theorem cuts_snoc (cs w : List Str) (y : Str) : cutsOf cs (w ++ [y]) = cutsOf cs w ++ if y ∈ cs then [(w.length : Int)] else [] := by
  unfold cutsOf
  rw [List.length_append, List.length_singleton, List.range_succ, List.map_append, List.filter_append]
  congr 1
  · apply List.filter_congr
    intro i hi
    obtain ⟨k, hk, rfl⟩ := List.mem_map.mp hi
    have hk' : k < w.length := by simpa using hk
    rw [Int.toNat_natCast, List.getElem?_append_left hk']
  · by_cases h : y ∈ cs
    · simp [h]
    · simp [h]
theorem rest_after (cs w : List Str) : (match (cutsOf cs w).getLast? with
    | some k => w.drop (k.toNat + 1)
    | none => w) = after cs w := by
  induction w using rev_ind with
  | h0 => rfl
  | h1 w y ih =>
    rw [cuts_snoc, after_snoc]
    by_cases h : y ∈ cs
    · simp [h]
    · simp only [h, if_false, List.append_nil]
      cases hc : (cutsOf cs w).getLast? with
      | none =>
        rw [hc] at ih
        simp only at ih ⊢
        rw [← ih]
      | some k =>
        rw [hc] at ih
        simp only at ih ⊢
        rw [← ih]
        have hk : k ∈ cutsOf cs w := List.mem_of_getLast? hc
        obtain ⟨j, hj, rfl⟩ := List.mem_map.mp (List.mem_filter.mp hk).1
        have hj' : j < w.length := by simpa using hj
        rw [List.drop_append_of_le_length (by simp; omega)]
section
variable {w : List Str} (hw : okSs w) (hne : w ≠ []) (hl : w.length ≤ 100000)
include hw hne hl
theorem t_fresh_turns {a b : Str} (ha : okSs [a, b]) : d__law_fresh_break [.sh (Pl.turns a b).d, .sh (tS w)] = .ret (.sh (.bl (fresh (.turns a b) w))) [.sh (Pl.turns a b).d, .sh (tS w)] := by
  obtain ⟨x, hx⟩ := last_get hw hne
  have hxw : x ∈ w := List.mem_of_getElem? hx
  have okx : okS x := hw x hxw
  obtain ⟨some_, hsome⟩ : ∃ l, l = w.filter fun y => decide (y = a ∨ y = b) := ⟨_, rfl⟩
  have oks : okSs some_ := fun y hy => by
    rw [hsome] at hy
    exact hw y (List.mem_filter.mp hy).1
  have ef : fresh (.turns a b) w = (decide (x = a ∨ x = b) && (decide (some_.drop (some_.length - 2) = [x, x]) || decide (some_ = [b]))) := by
    simp only [fresh, hx, ← hsome]
  rw [ef]
  unfold d__law_fresh_break Pl.d
  have q := gIx_tS hx
  have c2 : cutD [D.str "turns", .str a, .str b] (some 1) none = [.str a, .str b] := cut_from _ 1
  have q2 := gIn_tS x [a, b]
  have lc : aLc (aItems (aVar 1)) [8] (aN 8) (aB (aOp [.pl 8, .ex (aSl (.pl 0) (some (aC (.int 1))) none gSl)] (l2 gIn))) (aVar 8) [some (.sh (.tup [.str "turns", .str a, .str b])), some (.sh (tS w)), none, some (.sh (.str "turns")), some (.sh (.int ((w.length - 1 : Nat) : Int))), none, none, none, none, none] =
      .ok (oS some_) [some (.sh (.tup [.str "turns", .str a, .str b])), some (.sh (tS w)), none, some (.sh (.str "turns")), some (.sh (.int ((w.length - 1 : Nat) : Int))), none, none, none, none, none] := by
    rw [hsome]
    refine aLc_fS _ (by simp only [aDef, pre, outs, List.map_cons, List.map_nil, List.replicate, List.cons_append, List.nil_append, List.length_cons, List.length_nil, sSeq, sSet, sRet, sRetN, sIf, sDrop, sPar, sAsg, sNext, aB, aC, aVar, aMove, aFz, aTV, aNot, aAnd, aOr, aIfE, aAndV, aOrV, aOp, aSl, aP, evA, rsv, l1, l2, Res.bind, Res.out, List.getElem?_cons_zero, List.getElem?_cons_succ, List.set_cons_zero, List.set_cons_succ, Option.map_some, Option.map_none, fz, shs, if_true, if_false, ite_true, ite_false, Bool.false_eq_true, reduceIte, reduceCtorEq, Nat.reduceAdd, Nat.reduceSub, Nat.reduceLT, Nat.reduceLeDiff, Nat.reduceEqDiff, Bool.not_true, Bool.not_false, Nat.sub_self, Nat.zero_add, and_self, true_and, and_true, Nat.lt_add_one, decide_true, decide_false, decide_eq_true_eq , gSl_tS, gLen_tS, gLen_lS, gTup_str, gIn_tS, gNotIn_tS, gIn_lS, gNotIn_lS, gEq_int, gEq_str, gNe_int, gNe_str, cut_from, cut_to , gTup_str2, gIx_tup, atI_0, atI_1, atI_2, atI_3, gSl_tup, List.mem_cons, List.not_mem_nil, or_false, false_or, true_or, or_true, not_true_eq_false, not_false_eq_true , aCall, tak, giv, List.append_nil, aMeth, k_never_until, k_never_after, k_never_turns, k_never_most, k_never_within, k_never_and, k_never_or, k_until_never, k_until_after, k_until_turns, k_until_most, k_until_within, k_until_and, k_until_or, k_after_never, k_after_until, k_after_turns, k_after_most, k_after_within, k_after_and, k_after_or, k_turns_never, k_turns_until, k_turns_after, k_turns_most, k_turns_within, k_turns_and, k_turns_or, k_most_never, k_most_until, k_most_after, k_most_turns, k_most_within, k_most_and, k_most_or, k_within_never, k_within_until, k_within_after, k_within_turns, k_within_most, k_within_and, k_within_or, k_and_never, k_and_until, k_and_after, k_and_turns, k_and_most, k_and_within, k_and_or, k_or_never, k_or_until, k_or_after, k_or_turns, k_or_most, k_or_within, k_or_and, aItems, itemsD_tS]) (by omega) rfl (fun y _ => ?_) (fun y _ => ?_)
    · have q2 := gIn_tS y [a, b]
      unfold tS at q2
      simp only [List.map_cons, List.map_nil, List.mem_cons, List.not_mem_nil, or_false] at q2
      simp only [aDef, pre, outs, List.map_cons, List.map_nil, List.replicate, List.cons_append, List.nil_append, List.length_cons, List.length_nil, sSeq, sSet, sRet, sRetN, sIf, sDrop, sPar, sAsg, sNext, aB, aC, aVar, aMove, aFz, aTV, aNot, aAnd, aOr, aIfE, aAndV, aOrV, aOp, aSl, aP, evA, rsv, l1, l2, Res.bind, Res.out, List.getElem?_cons_zero, List.getElem?_cons_succ, List.set_cons_zero, List.set_cons_succ, Option.map_some, Option.map_none, fz, shs, if_true, if_false, ite_true, ite_false, Bool.false_eq_true, reduceIte, reduceCtorEq, Nat.reduceAdd, Nat.reduceSub, Nat.reduceLT, Nat.reduceLeDiff, Nat.reduceEqDiff, Bool.not_true, Bool.not_false, Nat.sub_self, Nat.zero_add, and_self, true_and, and_true, Nat.lt_add_one, decide_true, decide_false, decide_eq_true_eq , gSl_tS, gLen_tS, gLen_lS, gTup_str, gIn_tS, gNotIn_tS, gIn_lS, gNotIn_lS, gEq_int, gEq_str, gNe_int, gNe_str, cut_from, cut_to , gTup_str2, gIx_tup, atI_0, atI_1, atI_2, atI_3, gSl_tup, List.mem_cons, List.not_mem_nil, or_false, false_or, true_or, or_true, not_true_eq_false, not_false_eq_true , aCall, tak, giv, List.append_nil, aMeth, k_never_until, k_never_after, k_never_turns, k_never_most, k_never_within, k_never_and, k_never_or, k_until_never, k_until_after, k_until_turns, k_until_most, k_until_within, k_until_and, k_until_or, k_after_never, k_after_until, k_after_turns, k_after_most, k_after_within, k_after_and, k_after_or, k_turns_never, k_turns_until, k_turns_after, k_turns_most, k_turns_within, k_turns_and, k_turns_or, k_most_never, k_most_until, k_most_after, k_most_turns, k_most_within, k_most_and, k_most_or, k_within_never, k_within_until, k_within_after, k_within_turns, k_within_most, k_within_and, k_within_or, k_and_never, k_and_until, k_and_after, k_and_turns, k_and_most, k_and_within, k_and_or, k_or_never, k_or_until, k_or_after, k_or_turns, k_or_most, k_or_within, k_or_and, c2, q2]
    · simp only [aDef, pre, outs, List.map_cons, List.map_nil, List.replicate, List.cons_append, List.nil_append, List.length_cons, List.length_nil, sSeq, sSet, sRet, sRetN, sIf, sDrop, sPar, sAsg, sNext, aB, aC, aVar, aMove, aFz, aTV, aNot, aAnd, aOr, aIfE, aAndV, aOrV, aOp, aSl, aP, evA, rsv, l1, l2, Res.bind, Res.out, List.getElem?_cons_zero, List.getElem?_cons_succ, List.set_cons_zero, List.set_cons_succ, Option.map_some, Option.map_none, fz, shs, if_true, if_false, ite_true, ite_false, Bool.false_eq_true, reduceIte, reduceCtorEq, Nat.reduceAdd, Nat.reduceSub, Nat.reduceLT, Nat.reduceLeDiff, Nat.reduceEqDiff, Bool.not_true, Bool.not_false, Nat.sub_self, Nat.zero_add, and_self, true_and, and_true, Nat.lt_add_one, decide_true, decide_false, decide_eq_true_eq , gSl_tS, gLen_tS, gLen_lS, gTup_str, gIn_tS, gNotIn_tS, gIn_lS, gNotIn_lS, gEq_int, gEq_str, gNe_int, gNe_str, cut_from, cut_to , gTup_str2, gIx_tup, atI_0, atI_1, atI_2, atI_3, gSl_tup, List.mem_cons, List.not_mem_nil, or_false, false_or, true_or, or_true, not_true_eq_false, not_false_eq_true , aCall, tak, giv, List.append_nil, aMeth, k_never_until, k_never_after, k_never_turns, k_never_most, k_never_within, k_never_and, k_never_or, k_until_never, k_until_after, k_until_turns, k_until_most, k_until_within, k_until_and, k_until_or, k_after_never, k_after_until, k_after_turns, k_after_most, k_after_within, k_after_and, k_after_or, k_turns_never, k_turns_until, k_turns_after, k_turns_most, k_turns_within, k_turns_and, k_turns_or, k_most_never, k_most_until, k_most_after, k_most_turns, k_most_within, k_most_and, k_most_or, k_within_never, k_within_until, k_within_after, k_within_turns, k_within_most, k_within_and, k_within_or, k_and_never, k_and_until, k_and_after, k_and_turns, k_and_most, k_and_within, k_and_or, k_or_never, k_or_until, k_or_after, k_or_turns, k_or_most, k_or_within, k_or_and]
  unfold tS at q2
  simp only [List.map_cons, List.map_nil, List.mem_cons, List.not_mem_nil, or_false] at q2
  have c3 : cutD some_ (some (-2)) none = some_.drop (some_.length - 2) := cut_back some_ 2 (by omega)
  have q3 := gEq_oS (okS_drop oks (some_.length - 2)) (ys := [x, x]) (fun y hy => by simp at hy; rw [hy]; exact okx)
  have q4 := gEq_oS oks (ys := [b]) (fun y hy => by simp at hy; rw [hy]; exact ha b (by simp))
  generalize decide (some_.drop (some_.length - 2) = [x, x]) = b2 at q3 ⊢
  generalize decide (x = a ∨ x = b) = b1 at q2 ⊢
  cases b1 with
  | true =>
    cases b2 with
    | true => simp only [aDef, pre, outs, List.map_cons, List.map_nil, List.replicate, List.cons_append, List.nil_append, List.length_cons, List.length_nil, sSeq, sSet, sRet, sRetN, sIf, sDrop, sPar, sAsg, sNext, aB, aC, aVar, aMove, aFz, aTV, aNot, aAnd, aOr, aIfE, aAndV, aOrV, aOp, aSl, aP, evA, rsv, l1, l2, Res.bind, Res.out, List.getElem?_cons_zero, List.getElem?_cons_succ, List.set_cons_zero, List.set_cons_succ, Option.map_some, Option.map_none, fz, shs, if_true, if_false, ite_true, ite_false, Bool.false_eq_true, reduceIte, reduceCtorEq, Nat.reduceAdd, Nat.reduceSub, Nat.reduceLT, Nat.reduceLeDiff, Nat.reduceEqDiff, Bool.not_true, Bool.not_false, Nat.sub_self, Nat.zero_add, and_self, true_and, and_true, Nat.lt_add_one, decide_true, decide_false, decide_eq_true_eq , gSl_tS, gLen_tS, gLen_lS, gTup_str, gIn_tS, gNotIn_tS, gIn_lS, gNotIn_lS, gEq_int, gEq_str, gNe_int, gNe_str, cut_from, cut_to , gTup_str2, gIx_tup, atI_0, atI_1, atI_2, atI_3, gSl_tup, List.mem_cons, List.not_mem_nil, or_false, false_or, true_or, or_true, not_true_eq_false, not_false_eq_true , aCall, tak, giv, List.append_nil, aMeth, k_never_until, k_never_after, k_never_turns, k_never_most, k_never_within, k_never_and, k_never_or, k_until_never, k_until_after, k_until_turns, k_until_most, k_until_within, k_until_and, k_until_or, k_after_never, k_after_until, k_after_turns, k_after_most, k_after_within, k_after_and, k_after_or, k_turns_never, k_turns_until, k_turns_after, k_turns_most, k_turns_within, k_turns_and, k_turns_or, k_most_never, k_most_until, k_most_after, k_most_turns, k_most_within, k_most_and, k_most_or, k_within_never, k_within_until, k_within_after, k_within_turns, k_within_most, k_within_and, k_within_or, k_and_never, k_and_until, k_and_after, k_and_turns, k_and_most, k_and_within, k_and_or, k_or_never, k_or_until, k_or_after, k_or_turns, k_or_most, k_or_within, k_or_and, Den.gSub, last_int hw hne, q, lc, c2, q2, gNeg, gSl_oS, c3, gLstS_one, gMul_two, q3, q4, Bool.true_or, Bool.true_and]
    | false => simp only [aDef, pre, outs, List.map_cons, List.map_nil, List.replicate, List.cons_append, List.nil_append, List.length_cons, List.length_nil, sSeq, sSet, sRet, sRetN, sIf, sDrop, sPar, sAsg, sNext, aB, aC, aVar, aMove, aFz, aTV, aNot, aAnd, aOr, aIfE, aAndV, aOrV, aOp, aSl, aP, evA, rsv, l1, l2, Res.bind, Res.out, List.getElem?_cons_zero, List.getElem?_cons_succ, List.set_cons_zero, List.set_cons_succ, Option.map_some, Option.map_none, fz, shs, if_true, if_false, ite_true, ite_false, Bool.false_eq_true, reduceIte, reduceCtorEq, Nat.reduceAdd, Nat.reduceSub, Nat.reduceLT, Nat.reduceLeDiff, Nat.reduceEqDiff, Bool.not_true, Bool.not_false, Nat.sub_self, Nat.zero_add, and_self, true_and, and_true, Nat.lt_add_one, decide_true, decide_false, decide_eq_true_eq , gSl_tS, gLen_tS, gLen_lS, gTup_str, gIn_tS, gNotIn_tS, gIn_lS, gNotIn_lS, gEq_int, gEq_str, gNe_int, gNe_str, cut_from, cut_to , gTup_str2, gIx_tup, atI_0, atI_1, atI_2, atI_3, gSl_tup, List.mem_cons, List.not_mem_nil, or_false, false_or, true_or, or_true, not_true_eq_false, not_false_eq_true , aCall, tak, giv, List.append_nil, aMeth, k_never_until, k_never_after, k_never_turns, k_never_most, k_never_within, k_never_and, k_never_or, k_until_never, k_until_after, k_until_turns, k_until_most, k_until_within, k_until_and, k_until_or, k_after_never, k_after_until, k_after_turns, k_after_most, k_after_within, k_after_and, k_after_or, k_turns_never, k_turns_until, k_turns_after, k_turns_most, k_turns_within, k_turns_and, k_turns_or, k_most_never, k_most_until, k_most_after, k_most_turns, k_most_within, k_most_and, k_most_or, k_within_never, k_within_until, k_within_after, k_within_turns, k_within_most, k_within_and, k_within_or, k_and_never, k_and_until, k_and_after, k_and_turns, k_and_most, k_and_within, k_and_or, k_or_never, k_or_until, k_or_after, k_or_turns, k_or_most, k_or_within, k_or_and, Den.gSub, last_int hw hne, q, lc, c2, q2, gNeg, gSl_oS, c3, gLstS_one, gMul_two, q3, q4, Bool.false_or, Bool.true_and]
  | false => simp only [aDef, pre, outs, List.map_cons, List.map_nil, List.replicate, List.cons_append, List.nil_append, List.length_cons, List.length_nil, sSeq, sSet, sRet, sRetN, sIf, sDrop, sPar, sAsg, sNext, aB, aC, aVar, aMove, aFz, aTV, aNot, aAnd, aOr, aIfE, aAndV, aOrV, aOp, aSl, aP, evA, rsv, l1, l2, Res.bind, Res.out, List.getElem?_cons_zero, List.getElem?_cons_succ, List.set_cons_zero, List.set_cons_succ, Option.map_some, Option.map_none, fz, shs, if_true, if_false, ite_true, ite_false, Bool.false_eq_true, reduceIte, reduceCtorEq, Nat.reduceAdd, Nat.reduceSub, Nat.reduceLT, Nat.reduceLeDiff, Nat.reduceEqDiff, Bool.not_true, Bool.not_false, Nat.sub_self, Nat.zero_add, and_self, true_and, and_true, Nat.lt_add_one, decide_true, decide_false, decide_eq_true_eq , gSl_tS, gLen_tS, gLen_lS, gTup_str, gIn_tS, gNotIn_tS, gIn_lS, gNotIn_lS, gEq_int, gEq_str, gNe_int, gNe_str, cut_from, cut_to , gTup_str2, gIx_tup, atI_0, atI_1, atI_2, atI_3, gSl_tup, List.mem_cons, List.not_mem_nil, or_false, false_or, true_or, or_true, not_true_eq_false, not_false_eq_true , aCall, tak, giv, List.append_nil, aMeth, k_never_until, k_never_after, k_never_turns, k_never_most, k_never_within, k_never_and, k_never_or, k_until_never, k_until_after, k_until_turns, k_until_most, k_until_within, k_until_and, k_until_or, k_after_never, k_after_until, k_after_turns, k_after_most, k_after_within, k_after_and, k_after_or, k_turns_never, k_turns_until, k_turns_after, k_turns_most, k_turns_within, k_turns_and, k_turns_or, k_most_never, k_most_until, k_most_after, k_most_turns, k_most_within, k_most_and, k_most_or, k_within_never, k_within_until, k_within_after, k_within_turns, k_within_most, k_within_and, k_within_or, k_and_never, k_and_until, k_and_after, k_and_turns, k_and_most, k_and_within, k_and_or, k_or_never, k_or_until, k_or_after, k_or_turns, k_or_most, k_or_within, k_or_and, Den.gSub, last_int hw hne, q, lc, c2, q2, Bool.false_and]
theorem t_fresh_most {n : Nat} {a : Str} {cs : List Str} : ∃ f, d__law_fresh_break [.sh (Pl.most n a cs).d, .sh (tS w)] = .ret (.sh (.bl f)) [.sh (Pl.most n a cs).d, .sh (tS w)] ∧ f = fresh (.most n a cs) w := by
  obtain ⟨x, hx⟩ := last_get hw hne
  have q := gIx_tS hx
  -- the places of cs, and what is past the last one
  obtain ⟨cuts, hcuts⟩ : ∃ l, l = ((List.range w.length).map fun i : Nat => (i : Int)).filter fun i => match w[i.toNat]? with
    | some y => decide (y ∈ cs)
    | none => false := ⟨_, rfl⟩
  obtain ⟨rest, hrest⟩ : ∃ l, l = (match cuts.getLast? with
    | some k => w.drop (k.toNat + 1)
    | none => w) := ⟨_, rfl⟩
  have e_rest : rest = after cs w := by
    rw [hrest, hcuts]
    exact rest_after cs w
  have lr : rest.length ≤ 100000 := by
    rw [hrest]
    split
    · rw [List.length_drop]; omega
    · exact hl
  refine ⟨decide (x = a) && decide (n < (rest.filter fun y => decide (y = a)).length), ?_, by simp [fresh, hx, e_rest]⟩
  obtain ⟨L, hL⟩ : ∃ L, L = ((w.length - 1 : Nat) : Int) := ⟨_, rfl⟩
  have lc : ∀ y : Option O, aLc (aRng1 (aOp [.pl 1] (l1 gLen))) [9] (aN 9) (aB (aOp [.ex (aOp [.pl 1, .pl 9] (l2 gIx)), .ex (aOp [.pl 0, .ex (aC (.int 3))] (l2 gIx))] (l2 gIn))) (aVar 9)
      [some (.sh (.tup [.str "most", .int n, .str a, tS cs])), some (.sh (tS w)), none, some (.sh (.str "most")), some (.sh (.int L)), none, none, none, y, none] =
      .ok (oI cuts) [some (.sh (.tup [.str "most", .int n, .str a, tS cs])), some (.sh (tS w)), none, some (.sh (.str "most")), some (.sh (.int L)), none, none, none, y, none] := by
    intro y
    rw [hcuts]
    refine aLc_fI _ ?_ (by simp; omega) rfl (fun i hi => ?_) (fun y _ => ?_)
    · simp only [aDef, pre, outs, List.map_cons, List.map_nil, List.replicate, List.cons_append, List.nil_append, List.length_cons, List.length_nil, sSeq, sSet, sRet, sRetN, sIf, sDrop, sPar, sAsg, sNext, aB, aC, aVar, aMove, aFz, aTV, aNot, aAnd, aOr, aIfE, aAndV, aOrV, aOp, aSl, aP, evA, rsv, l1, l2, Res.bind, Res.out, List.getElem?_cons_zero, List.getElem?_cons_succ, List.set_cons_zero, List.set_cons_succ, Option.map_some, Option.map_none, fz, shs, if_true, if_false, ite_true, ite_false, Bool.false_eq_true, reduceIte, reduceCtorEq, Nat.reduceAdd, Nat.reduceSub, Nat.reduceLT, Nat.reduceLeDiff, Nat.reduceEqDiff, Bool.not_true, Bool.not_false, Nat.sub_self, Nat.zero_add, and_self, true_and, and_true, Nat.lt_add_one, decide_true, decide_false, decide_eq_true_eq , gSl_tS, gLen_tS, gLen_lS, gTup_str, gIn_tS, gNotIn_tS, gIn_lS, gNotIn_lS, gEq_int, gEq_str, gNe_int, gNe_str, cut_from, cut_to , gTup_str2, gIx_tup, atI_0, atI_1, atI_2, atI_3, gSl_tup, List.mem_cons, List.not_mem_nil, or_false, false_or, true_or, or_true, not_true_eq_false, not_false_eq_true , aCall, tak, giv, List.append_nil, aMeth, k_never_until, k_never_after, k_never_turns, k_never_most, k_never_within, k_never_and, k_never_or, k_until_never, k_until_after, k_until_turns, k_until_most, k_until_within, k_until_and, k_until_or, k_after_never, k_after_until, k_after_turns, k_after_most, k_after_within, k_after_and, k_after_or, k_turns_never, k_turns_until, k_turns_after, k_turns_most, k_turns_within, k_turns_and, k_turns_or, k_most_never, k_most_until, k_most_after, k_most_turns, k_most_within, k_most_and, k_most_or, k_within_never, k_within_until, k_within_after, k_within_turns, k_within_most, k_within_and, k_within_or, k_and_never, k_and_until, k_and_after, k_and_turns, k_and_most, k_and_within, k_and_or, k_or_never, k_or_until, k_or_after, k_or_turns, k_or_most, k_or_within, k_or_and, aRng1]
      rw [if_pos (by omega)]
      simp [rngD]
    · obtain ⟨k, hk, rfl⟩ := List.mem_map.mp hi
      have hk' : k < w.length := by simpa using hk
      have q2 := gIx_tS (List.getElem?_eq_getElem hk')
      simp only [aDef, pre, outs, List.map_cons, List.map_nil, List.replicate, List.cons_append, List.nil_append, List.length_cons, List.length_nil, sSeq, sSet, sRet, sRetN, sIf, sDrop, sPar, sAsg, sNext, aB, aC, aVar, aMove, aFz, aTV, aNot, aAnd, aOr, aIfE, aAndV, aOrV, aOp, aSl, aP, evA, rsv, l1, l2, Res.bind, Res.out, List.getElem?_cons_zero, List.getElem?_cons_succ, List.set_cons_zero, List.set_cons_succ, Option.map_some, Option.map_none, fz, shs, if_true, if_false, ite_true, ite_false, Bool.false_eq_true, reduceIte, reduceCtorEq, Nat.reduceAdd, Nat.reduceSub, Nat.reduceLT, Nat.reduceLeDiff, Nat.reduceEqDiff, Bool.not_true, Bool.not_false, Nat.sub_self, Nat.zero_add, and_self, true_and, and_true, Nat.lt_add_one, decide_true, decide_false, decide_eq_true_eq , gSl_tS, gLen_tS, gLen_lS, gTup_str, gIn_tS, gNotIn_tS, gIn_lS, gNotIn_lS, gEq_int, gEq_str, gNe_int, gNe_str, cut_from, cut_to , gTup_str2, gIx_tup, atI_0, atI_1, atI_2, atI_3, gSl_tup, List.mem_cons, List.not_mem_nil, or_false, false_or, true_or, or_true, not_true_eq_false, not_false_eq_true , aCall, tak, giv, List.append_nil, aMeth, k_never_until, k_never_after, k_never_turns, k_never_most, k_never_within, k_never_and, k_never_or, k_until_never, k_until_after, k_until_turns, k_until_most, k_until_within, k_until_and, k_until_or, k_after_never, k_after_until, k_after_turns, k_after_most, k_after_within, k_after_and, k_after_or, k_turns_never, k_turns_until, k_turns_after, k_turns_most, k_turns_within, k_turns_and, k_turns_or, k_most_never, k_most_until, k_most_after, k_most_turns, k_most_within, k_most_and, k_most_or, k_within_never, k_within_until, k_within_after, k_within_turns, k_within_most, k_within_and, k_within_or, k_and_never, k_and_until, k_and_after, k_and_turns, k_and_most, k_and_within, k_and_or, k_or_never, k_or_until, k_or_after, k_or_turns, k_or_most, k_or_within, k_or_and, q2, Int.toNat_natCast, List.getElem?_eq_getElem hk']
    · simp only [aDef, pre, outs, List.map_cons, List.map_nil, List.replicate, List.cons_append, List.nil_append, List.length_cons, List.length_nil, sSeq, sSet, sRet, sRetN, sIf, sDrop, sPar, sAsg, sNext, aB, aC, aVar, aMove, aFz, aTV, aNot, aAnd, aOr, aIfE, aAndV, aOrV, aOp, aSl, aP, evA, rsv, l1, l2, Res.bind, Res.out, List.getElem?_cons_zero, List.getElem?_cons_succ, List.set_cons_zero, List.set_cons_succ, Option.map_some, Option.map_none, fz, shs, if_true, if_false, ite_true, ite_false, Bool.false_eq_true, reduceIte, reduceCtorEq, Nat.reduceAdd, Nat.reduceSub, Nat.reduceLT, Nat.reduceLeDiff, Nat.reduceEqDiff, Bool.not_true, Bool.not_false, Nat.sub_self, Nat.zero_add, and_self, true_and, and_true, Nat.lt_add_one, decide_true, decide_false, decide_eq_true_eq , gSl_tS, gLen_tS, gLen_lS, gTup_str, gIn_tS, gNotIn_tS, gIn_lS, gNotIn_lS, gEq_int, gEq_str, gNe_int, gNe_str, cut_from, cut_to , gTup_str2, gIx_tup, atI_0, atI_1, atI_2, atI_3, gSl_tup, List.mem_cons, List.not_mem_nil, or_false, false_or, true_or, or_true, not_true_eq_false, not_false_eq_true , aCall, tak, giv, List.append_nil, aMeth, k_never_until, k_never_after, k_never_turns, k_never_most, k_never_within, k_never_and, k_never_or, k_until_never, k_until_after, k_until_turns, k_until_most, k_until_within, k_until_and, k_until_or, k_after_never, k_after_until, k_after_turns, k_after_most, k_after_within, k_after_and, k_after_or, k_turns_never, k_turns_until, k_turns_after, k_turns_most, k_turns_within, k_turns_and, k_turns_or, k_most_never, k_most_until, k_most_after, k_most_turns, k_most_within, k_most_and, k_most_or, k_within_never, k_within_until, k_within_after, k_within_turns, k_within_most, k_within_and, k_within_or, k_and_never, k_and_until, k_and_after, k_and_turns, k_and_most, k_and_within, k_and_or, k_or_never, k_or_until, k_or_after, k_or_turns, k_or_most, k_or_within, k_or_and]
  have lc2 : ∀ u : Option O, aLc (aItems (aVar 7)) [8] (aN 8) (aB (aOp [.pl 8, .ex (aOp [.pl 0, .ex (aC (.int 2))] (l2 gIx))] (l2 gEq))) (aVar 8)
      [some (.sh (.tup [.str "most", .int n, .str a, tS cs])), some (.sh (tS w)), none, some (.sh (.str "most")), some (.sh (.int L)), none, some (oI cuts), some (.sh (tS rest)), none, u] =
      .ok (oS (rest.filter fun y => decide (y = a))) [some (.sh (.tup [.str "most", .int n, .str a, tS cs])), some (.sh (tS w)), none, some (.sh (.str "most")), some (.sh (.int L)), none, some (oI cuts), some (.sh (tS rest)), none, u] := by
    intro u
    refine aLc_fS _ (by simp only [aDef, pre, outs, List.map_cons, List.map_nil, List.replicate, List.cons_append, List.nil_append, List.length_cons, List.length_nil, sSeq, sSet, sRet, sRetN, sIf, sDrop, sPar, sAsg, sNext, aB, aC, aVar, aMove, aFz, aTV, aNot, aAnd, aOr, aIfE, aAndV, aOrV, aOp, aSl, aP, evA, rsv, l1, l2, Res.bind, Res.out, List.getElem?_cons_zero, List.getElem?_cons_succ, List.set_cons_zero, List.set_cons_succ, Option.map_some, Option.map_none, fz, shs, if_true, if_false, ite_true, ite_false, Bool.false_eq_true, reduceIte, reduceCtorEq, Nat.reduceAdd, Nat.reduceSub, Nat.reduceLT, Nat.reduceLeDiff, Nat.reduceEqDiff, Bool.not_true, Bool.not_false, Nat.sub_self, Nat.zero_add, and_self, true_and, and_true, Nat.lt_add_one, decide_true, decide_false, decide_eq_true_eq , gSl_tS, gLen_tS, gLen_lS, gTup_str, gIn_tS, gNotIn_tS, gIn_lS, gNotIn_lS, gEq_int, gEq_str, gNe_int, gNe_str, cut_from, cut_to , gTup_str2, gIx_tup, atI_0, atI_1, atI_2, atI_3, gSl_tup, List.mem_cons, List.not_mem_nil, or_false, false_or, true_or, or_true, not_true_eq_false, not_false_eq_true , aCall, tak, giv, List.append_nil, aMeth, k_never_until, k_never_after, k_never_turns, k_never_most, k_never_within, k_never_and, k_never_or, k_until_never, k_until_after, k_until_turns, k_until_most, k_until_within, k_until_and, k_until_or, k_after_never, k_after_until, k_after_turns, k_after_most, k_after_within, k_after_and, k_after_or, k_turns_never, k_turns_until, k_turns_after, k_turns_most, k_turns_within, k_turns_and, k_turns_or, k_most_never, k_most_until, k_most_after, k_most_turns, k_most_within, k_most_and, k_most_or, k_within_never, k_within_until, k_within_after, k_within_turns, k_within_most, k_within_and, k_within_or, k_and_never, k_and_until, k_and_after, k_and_turns, k_and_most, k_and_within, k_and_or, k_or_never, k_or_until, k_or_after, k_or_turns, k_or_most, k_or_within, k_or_and, aItems, itemsD_tS]) (by omega) rfl (fun i hi => ?_) (fun y _ => ?_)
    · simp only [aDef, pre, outs, List.map_cons, List.map_nil, List.replicate, List.cons_append, List.nil_append, List.length_cons, List.length_nil, sSeq, sSet, sRet, sRetN, sIf, sDrop, sPar, sAsg, sNext, aB, aC, aVar, aMove, aFz, aTV, aNot, aAnd, aOr, aIfE, aAndV, aOrV, aOp, aSl, aP, evA, rsv, l1, l2, Res.bind, Res.out, List.getElem?_cons_zero, List.getElem?_cons_succ, List.set_cons_zero, List.set_cons_succ, Option.map_some, Option.map_none, fz, shs, if_true, if_false, ite_true, ite_false, Bool.false_eq_true, reduceIte, reduceCtorEq, Nat.reduceAdd, Nat.reduceSub, Nat.reduceLT, Nat.reduceLeDiff, Nat.reduceEqDiff, Bool.not_true, Bool.not_false, Nat.sub_self, Nat.zero_add, and_self, true_and, and_true, Nat.lt_add_one, decide_true, decide_false, decide_eq_true_eq , gSl_tS, gLen_tS, gLen_lS, gTup_str, gIn_tS, gNotIn_tS, gIn_lS, gNotIn_lS, gEq_int, gEq_str, gNe_int, gNe_str, cut_from, cut_to , gTup_str2, gIx_tup, atI_0, atI_1, atI_2, atI_3, gSl_tup, List.mem_cons, List.not_mem_nil, or_false, false_or, true_or, or_true, not_true_eq_false, not_false_eq_true , aCall, tak, giv, List.append_nil, aMeth, k_never_until, k_never_after, k_never_turns, k_never_most, k_never_within, k_never_and, k_never_or, k_until_never, k_until_after, k_until_turns, k_until_most, k_until_within, k_until_and, k_until_or, k_after_never, k_after_until, k_after_turns, k_after_most, k_after_within, k_after_and, k_after_or, k_turns_never, k_turns_until, k_turns_after, k_turns_most, k_turns_within, k_turns_and, k_turns_or, k_most_never, k_most_until, k_most_after, k_most_turns, k_most_within, k_most_and, k_most_or, k_within_never, k_within_until, k_within_after, k_within_turns, k_within_most, k_within_and, k_within_or, k_and_never, k_and_until, k_and_after, k_and_turns, k_and_most, k_and_within, k_and_or, k_or_never, k_or_until, k_or_after, k_or_turns, k_or_most, k_or_within, k_or_and]
    · simp only [aDef, pre, outs, List.map_cons, List.map_nil, List.replicate, List.cons_append, List.nil_append, List.length_cons, List.length_nil, sSeq, sSet, sRet, sRetN, sIf, sDrop, sPar, sAsg, sNext, aB, aC, aVar, aMove, aFz, aTV, aNot, aAnd, aOr, aIfE, aAndV, aOrV, aOp, aSl, aP, evA, rsv, l1, l2, Res.bind, Res.out, List.getElem?_cons_zero, List.getElem?_cons_succ, List.set_cons_zero, List.set_cons_succ, Option.map_some, Option.map_none, fz, shs, if_true, if_false, ite_true, ite_false, Bool.false_eq_true, reduceIte, reduceCtorEq, Nat.reduceAdd, Nat.reduceSub, Nat.reduceLT, Nat.reduceLeDiff, Nat.reduceEqDiff, Bool.not_true, Bool.not_false, Nat.sub_self, Nat.zero_add, and_self, true_and, and_true, Nat.lt_add_one, decide_true, decide_false, decide_eq_true_eq , gSl_tS, gLen_tS, gLen_lS, gTup_str, gIn_tS, gNotIn_tS, gIn_lS, gNotIn_lS, gEq_int, gEq_str, gNe_int, gNe_str, cut_from, cut_to , gTup_str2, gIx_tup, atI_0, atI_1, atI_2, atI_3, gSl_tup, List.mem_cons, List.not_mem_nil, or_false, false_or, true_or, or_true, not_true_eq_false, not_false_eq_true , aCall, tak, giv, List.append_nil, aMeth, k_never_until, k_never_after, k_never_turns, k_never_most, k_never_within, k_never_and, k_never_or, k_until_never, k_until_after, k_until_turns, k_until_most, k_until_within, k_until_and, k_until_or, k_after_never, k_after_until, k_after_turns, k_after_most, k_after_within, k_after_and, k_after_or, k_turns_never, k_turns_until, k_turns_after, k_turns_most, k_turns_within, k_turns_and, k_turns_or, k_most_never, k_most_until, k_most_after, k_most_turns, k_most_within, k_most_and, k_most_or, k_within_never, k_within_until, k_within_after, k_within_turns, k_within_most, k_within_and, k_within_or, k_and_never, k_and_until, k_and_after, k_and_turns, k_and_most, k_and_within, k_and_or, k_or_never, k_or_until, k_or_after, k_or_turns, k_or_most, k_or_within, k_or_and]
  unfold d__law_fresh_break Pl.d
  have hcut : cuts = [] ∨ ∃ k : Nat, cuts.getLast? = some (k : Int) ∧ atI cuts (-1) = some (k : Int) ∧ cuts ≠ [] := by
    cases hc : cuts.getLast? with
    | none => exact .inl (List.getLast?_eq_none_iff.mp hc)
    | some z =>
      have hz : z ∈ cuts := List.mem_of_getLast? hc
      have hne2 : cuts ≠ [] := fun e => by rw [e] at hc; cases hc
      rw [hcuts] at hz
      obtain ⟨k, _, rfl⟩ := List.mem_map.mp (List.mem_filter.mp hz).1
      refine .inr ⟨k, rfl, ?_, hne2⟩
      have hp : 0 < cuts.length := List.length_pos_iff.mpr hne2
      unfold atI ixN
      rw [if_neg (by omega), if_pos (by omega)]
      simp only [Option.bind]
      rw [← hc, List.getLast?_eq_getElem?]
      congr 1
      omega
  rcases hcut with hc | ⟨k, hk, ha, hne2⟩
  · have er : rest = w := by rw [hrest, hc]; rfl
    subst hc
    rw [er] at lc2 ⊢
    rw [← hL] at q
    have g2 : ∀ m : Int, gGt (.sh (.int m)) (.sh (.int n)) = some (.sh (.bl (decide ((n : Int) < m)))) := fun m => rfl
    have ei : decide ((n : Int) < ((w.filter fun y => decide (y = a)).length : Int)) = decide (n < (w.filter fun y => decide (y = a)).length) := by simp
    generalize decide (n < (w.filter fun y => decide (y = a)).length) = b2 at ei ⊢
    by_cases h1 : x = a
    · subst h1
      simp only [aDef, pre, outs, List.map_cons, List.map_nil, List.replicate, List.cons_append, List.nil_append, List.length_cons, List.length_nil, sSeq, sSet, sRet, sRetN, sIf, sDrop, sPar, sAsg, sNext, aB, aC, aVar, aMove, aFz, aTV, aNot, aAnd, aOr, aIfE, aAndV, aOrV, aOp, aSl, aP, evA, rsv, l1, l2, Res.bind, Res.out, List.getElem?_cons_zero, List.getElem?_cons_succ, List.set_cons_zero, List.set_cons_succ, Option.map_some, Option.map_none, fz, shs, if_true, if_false, ite_true, ite_false, Bool.false_eq_true, reduceIte, reduceCtorEq, Nat.reduceAdd, Nat.reduceSub, Nat.reduceLT, Nat.reduceLeDiff, Nat.reduceEqDiff, Bool.not_true, Bool.not_false, Nat.sub_self, Nat.zero_add, and_self, true_and, and_true, Nat.lt_add_one, decide_true, decide_false, decide_eq_true_eq , gSl_tS, gLen_tS, gLen_lS, gTup_str, gIn_tS, gNotIn_tS, gIn_lS, gNotIn_lS, gEq_int, gEq_str, gNe_int, gNe_str, cut_from, cut_to , gTup_str2, gIx_tup, atI_0, atI_1, atI_2, atI_3, gSl_tup, List.mem_cons, List.not_mem_nil, or_false, false_or, true_or, or_true, not_true_eq_false, not_false_eq_true , aCall, tak, giv, List.append_nil, aMeth, k_never_until, k_never_after, k_never_turns, k_never_most, k_never_within, k_never_and, k_never_or, k_until_never, k_until_after, k_until_turns, k_until_most, k_until_within, k_until_and, k_until_or, k_after_never, k_after_until, k_after_turns, k_after_most, k_after_within, k_after_and, k_after_or, k_turns_never, k_turns_until, k_turns_after, k_turns_most, k_turns_within, k_turns_and, k_turns_or, k_most_never, k_most_until, k_most_after, k_most_turns, k_most_within, k_most_and, k_most_or, k_within_never, k_within_until, k_within_after, k_within_turns, k_within_most, k_within_and, k_within_or, k_and_never, k_and_until, k_and_after, k_and_turns, k_and_most, k_and_within, k_and_or, k_or_never, k_or_until, k_or_after, k_or_turns, k_or_most, k_or_within, k_or_and, Den.gSub, last_int hw hne, ← hL, q, lc, lc2, gLstS_nil, gNe_oI_nil, gLen_oS, g2, ei, Bool.true_and]
    · simp only [aDef, pre, outs, List.map_cons, List.map_nil, List.replicate, List.cons_append, List.nil_append, List.length_cons, List.length_nil, sSeq, sSet, sRet, sRetN, sIf, sDrop, sPar, sAsg, sNext, aB, aC, aVar, aMove, aFz, aTV, aNot, aAnd, aOr, aIfE, aAndV, aOrV, aOp, aSl, aP, evA, rsv, l1, l2, Res.bind, Res.out, List.getElem?_cons_zero, List.getElem?_cons_succ, List.set_cons_zero, List.set_cons_succ, Option.map_some, Option.map_none, fz, shs, if_true, if_false, ite_true, ite_false, Bool.false_eq_true, reduceIte, reduceCtorEq, Nat.reduceAdd, Nat.reduceSub, Nat.reduceLT, Nat.reduceLeDiff, Nat.reduceEqDiff, Bool.not_true, Bool.not_false, Nat.sub_self, Nat.zero_add, and_self, true_and, and_true, Nat.lt_add_one, decide_true, decide_false, decide_eq_true_eq , gSl_tS, gLen_tS, gLen_lS, gTup_str, gIn_tS, gNotIn_tS, gIn_lS, gNotIn_lS, gEq_int, gEq_str, gNe_int, gNe_str, cut_from, cut_to , gTup_str2, gIx_tup, atI_0, atI_1, atI_2, atI_3, gSl_tup, List.mem_cons, List.not_mem_nil, or_false, false_or, true_or, or_true, not_true_eq_false, not_false_eq_true , aCall, tak, giv, List.append_nil, aMeth, k_never_until, k_never_after, k_never_turns, k_never_most, k_never_within, k_never_and, k_never_or, k_until_never, k_until_after, k_until_turns, k_until_most, k_until_within, k_until_and, k_until_or, k_after_never, k_after_until, k_after_turns, k_after_most, k_after_within, k_after_and, k_after_or, k_turns_never, k_turns_until, k_turns_after, k_turns_most, k_turns_within, k_turns_and, k_turns_or, k_most_never, k_most_until, k_most_after, k_most_turns, k_most_within, k_most_and, k_most_or, k_within_never, k_within_until, k_within_after, k_within_turns, k_within_most, k_within_and, k_within_or, k_and_never, k_and_until, k_and_after, k_and_turns, k_and_most, k_and_within, k_and_or, k_or_never, k_or_until, k_or_after, k_or_turns, k_or_most, k_or_within, k_or_and, Den.gSub, last_int hw hne, ← hL, q, lc, lc2, gLstS_nil, gNe_oI_nil, gLen_oS, g2, h1, Bool.false_and]
  · have er : rest = w.drop (k + 1) := by rw [hrest, hk]; rfl
    rw [← hL] at q
    have g2 : ∀ m : Int, gGt (.sh (.int m)) (.sh (.int n)) = some (.sh (.bl (decide ((n : Int) < m)))) := fun m => rfl
    have g3 : gIx (oI cuts) (.sh (.int (-1))) = some (.sh (.int (k : Int))) := by
      unfold oI gIx
      simp only [atI, List.length_map] at ha ⊢
      rw [List.map_map]
      cases hx : ixN cuts.length (-1) with
      | none => rw [hx] at ha; cases ha
      | some j =>
        rw [hx] at ha
        have ha' : cuts[j]? = some (k : Int) := ha
        simp [hx, ha']
    have g4 : ((k : Int) + 1) = ((k + 1 : Nat) : Int) := by omega
    have ei : decide ((n : Int) < ((rest.filter fun y => decide (y = a)).length : Int)) = decide (n < (rest.filter fun y => decide (y = a)).length) := by simp
    generalize decide (n < (rest.filter fun y => decide (y = a)).length) = b2 at ei ⊢
    by_cases h1 : x = a
    · subst h1
      simp only [aDef, pre, outs, List.map_cons, List.map_nil, List.replicate, List.cons_append, List.nil_append, List.length_cons, List.length_nil, sSeq, sSet, sRet, sRetN, sIf, sDrop, sPar, sAsg, sNext, aB, aC, aVar, aMove, aFz, aTV, aNot, aAnd, aOr, aIfE, aAndV, aOrV, aOp, aSl, aP, evA, rsv, l1, l2, Res.bind, Res.out, List.getElem?_cons_zero, List.getElem?_cons_succ, List.set_cons_zero, List.set_cons_succ, Option.map_some, Option.map_none, fz, shs, if_true, if_false, ite_true, ite_false, Bool.false_eq_true, reduceIte, reduceCtorEq, Nat.reduceAdd, Nat.reduceSub, Nat.reduceLT, Nat.reduceLeDiff, Nat.reduceEqDiff, Bool.not_true, Bool.not_false, Nat.sub_self, Nat.zero_add, and_self, true_and, and_true, Nat.lt_add_one, decide_true, decide_false, decide_eq_true_eq , gSl_tS, gLen_tS, gLen_lS, gTup_str, gIn_tS, gNotIn_tS, gIn_lS, gNotIn_lS, gEq_int, gEq_str, gNe_int, gNe_str, cut_from, cut_to , gTup_str2, gIx_tup, atI_0, atI_1, atI_2, atI_3, gSl_tup, List.mem_cons, List.not_mem_nil, or_false, false_or, true_or, or_true, not_true_eq_false, not_false_eq_true , aCall, tak, giv, List.append_nil, aMeth, k_never_until, k_never_after, k_never_turns, k_never_most, k_never_within, k_never_and, k_never_or, k_until_never, k_until_after, k_until_turns, k_until_most, k_until_within, k_until_and, k_until_or, k_after_never, k_after_until, k_after_turns, k_after_most, k_after_within, k_after_and, k_after_or, k_turns_never, k_turns_until, k_turns_after, k_turns_most, k_turns_within, k_turns_and, k_turns_or, k_most_never, k_most_until, k_most_after, k_most_turns, k_most_within, k_most_and, k_most_or, k_within_never, k_within_until, k_within_after, k_within_turns, k_within_most, k_within_and, k_within_or, k_and_never, k_and_until, k_and_after, k_and_turns, k_and_most, k_and_within, k_and_or, k_or_never, k_or_until, k_or_after, k_or_turns, k_or_most, k_or_within, k_or_and, Den.gSub, last_int hw hne, ← hL, q, lc, gLstS_nil, gNe_oI_nil, hne2, gNeg, g3, gAdd, g4, ← er, lc2, gLen_oS, g2, ei, Bool.true_and]
    · simp only [aDef, pre, outs, List.map_cons, List.map_nil, List.replicate, List.cons_append, List.nil_append, List.length_cons, List.length_nil, sSeq, sSet, sRet, sRetN, sIf, sDrop, sPar, sAsg, sNext, aB, aC, aVar, aMove, aFz, aTV, aNot, aAnd, aOr, aIfE, aAndV, aOrV, aOp, aSl, aP, evA, rsv, l1, l2, Res.bind, Res.out, List.getElem?_cons_zero, List.getElem?_cons_succ, List.set_cons_zero, List.set_cons_succ, Option.map_some, Option.map_none, fz, shs, if_true, if_false, ite_true, ite_false, Bool.false_eq_true, reduceIte, reduceCtorEq, Nat.reduceAdd, Nat.reduceSub, Nat.reduceLT, Nat.reduceLeDiff, Nat.reduceEqDiff, Bool.not_true, Bool.not_false, Nat.sub_self, Nat.zero_add, and_self, true_and, and_true, Nat.lt_add_one, decide_true, decide_false, decide_eq_true_eq , gSl_tS, gLen_tS, gLen_lS, gTup_str, gIn_tS, gNotIn_tS, gIn_lS, gNotIn_lS, gEq_int, gEq_str, gNe_int, gNe_str, cut_from, cut_to , gTup_str2, gIx_tup, atI_0, atI_1, atI_2, atI_3, gSl_tup, List.mem_cons, List.not_mem_nil, or_false, false_or, true_or, or_true, not_true_eq_false, not_false_eq_true , aCall, tak, giv, List.append_nil, aMeth, k_never_until, k_never_after, k_never_turns, k_never_most, k_never_within, k_never_and, k_never_or, k_until_never, k_until_after, k_until_turns, k_until_most, k_until_within, k_until_and, k_until_or, k_after_never, k_after_until, k_after_turns, k_after_most, k_after_within, k_after_and, k_after_or, k_turns_never, k_turns_until, k_turns_after, k_turns_most, k_turns_within, k_turns_and, k_turns_or, k_most_never, k_most_until, k_most_after, k_most_turns, k_most_within, k_most_and, k_most_or, k_within_never, k_within_until, k_within_after, k_within_turns, k_within_most, k_within_and, k_within_or, k_and_never, k_and_until, k_and_after, k_and_turns, k_and_most, k_and_within, k_and_or, k_or_never, k_or_until, k_or_after, k_or_turns, k_or_most, k_or_within, k_or_and, Den.gSub, last_int hw hne, ← hL, q, lc, gLstS_nil, gNe_oI_nil, hne2, gNeg, g3, gAdd, g4, ← er, lc2, gLen_oS, g2, h1, Bool.false_and]
end
end Lw
end
section
open PySem L2 Den
namespace Lw
/-! ### the machine of a plain sentence does what is fresh in words -/
theorem suf_snoc {α : Type} {l w : List α} {x c : α} : (l ++ [x]) <:+ (w ++ [c]) ↔ x = c ∧ l <:+ w := by
  rw [← List.reverse_prefix, ← List.reverse_prefix (l₁ := l), List.reverse_append, List.reverse_append]
  simp only [List.reverse_cons, List.reverse_nil, List.nil_append, List.singleton_append]
  rw [List.cons_prefix_cons]
def Bg (r w : List Str) (k : Nat) : Prop := k ≤ r.length ∧ r.take k <:+ w
theorem bg_drop {r w : List Str} {k : Nat} (h : k ≤ r.length) (h2 : k ≤ w.length) : w.drop (w.length - k) = r.take k ↔ Bg r w k := by
  constructor
  · intro e
    exact ⟨h, by rw [← e]; exact List.drop_suffix _ _⟩
  · intro ⟨_, e⟩
    have := List.suffix_iff_eq_drop.mp e
    rw [List.length_take, Nat.min_eq_left h] at this
    exact this.symm
theorem bg_len {r w : List Str} {k : Nat} (h : Bg r w k) : k ≤ w.length := by
  have := h.2.length_le
  rw [List.length_take, Nat.min_eq_left h.1] at this
  exact this
theorem ovl_spec {r w : List Str} : ∀ {m : Nat}, m ≤ r.length → m ≤ w.length → Bg r w (ovl r w m) ∧ ∀ k, k ≤ m → Bg r w k → k ≤ ovl r w m
  | 0, _, _ => ⟨⟨Nat.zero_le _, by rw [ovl, List.take_zero]; exact List.nil_suffix⟩, fun k hk _ => hk⟩
  | m + 1, h1, h2 => by
    rw [ovl]
    by_cases h : w.drop (w.length - (m + 1)) = r.take (m + 1)
    · rw [if_pos h]
      exact ⟨(bg_drop h1 h2).mp h, fun k hk _ => hk⟩
    · rw [if_neg h]
      obtain ⟨a, b⟩ := ovl_spec (r := r) (w := w) (m := m) (by omega) (by omega)
      refine ⟨a, fun k hk hb => ?_⟩
      rcases Nat.lt_or_ge m k with q | q
      · have : k = m + 1 := by omega
        subst this
        exact (h ((bg_drop h1 h2).mpr hb)).elim
      · exact b k q hb
theorem ov_spec (r w : List Str) : Bg r w (ov r w) ∧ ∀ k, Bg r w k → k ≤ ov r w := by
  obtain ⟨a, b⟩ := ovl_spec (r := r) (w := w) (m := min r.length w.length) (Nat.min_le_left _ _) (Nat.min_le_right _ _)
  exact ⟨a, fun k h => b k (Nat.le_min.mpr ⟨h.1, bg_len h⟩) h⟩
theorem ov_same {r u v : List Str} (h : ∀ k, Bg r u k ↔ Bg r v k) : ov r u = ov r v := by
  obtain ⟨a, b⟩ := ov_spec r u
  obtain ⟨c, d⟩ := ov_spec r v
  exact Nat.le_antisymm (d _ ((h _).mp a)) (b _ ((h _).mpr c))
theorem bg_snoc {r w : List Str} {c : Str} {k : Nat} : Bg r (w ++ [c]) (k + 1) ↔ Bg r w k ∧ r[k]? = some c := by
  unfold Bg
  constructor
  · intro ⟨h1, h2⟩
    have hk : k < r.length := by omega
    rw [List.take_add_one, List.getElem?_eq_getElem hk] at h2
    obtain ⟨e1, e2⟩ := suf_snoc.mp h2
    exact ⟨⟨by omega, e2⟩, by rw [List.getElem?_eq_getElem hk, e1]⟩
  · intro ⟨⟨h1, h2⟩, h3⟩
    obtain ⟨hk, e⟩ := List.getElem?_eq_some_iff.mp h3
    refine ⟨by omega, ?_⟩
    rw [List.take_add_one, h3]
    exact suf_snoc.mpr ⟨rfl, h2⟩
theorem ov_step {r w : List Str} {c : Str} : ov r (r.take (ov r w) ++ [c]) = ov r (w ++ [c]) := by
  obtain ⟨a, b⟩ := ov_spec r w
  refine ov_same fun k => ?_
  cases k with
  | zero => simp [Bg]
  | succ k =>
    rw [bg_snoc, bg_snoc]
    have : Bg r (r.take (ov r w)) k ↔ Bg r w k := by
      constructor
      · exact fun h => ⟨h.1, h.2.trans a.2⟩
      · intro h
        refine ⟨h.1, List.suffix_of_suffix_length_le h.2 a.2 ?_⟩
        rw [List.length_take, List.length_take]
        have := b k h
        omega
    rw [this]
theorem ends_bg {r u : List Str} : endsSo u r = true ↔ Bg r u r.length := by
  unfold endsSo Bg
  rw [List.take_length, Bool.and_eq_true, decide_eq_true_eq, decide_eq_true_eq]
  constructor
  · intro ⟨h1, h2⟩
    exact ⟨Nat.le_refl _, by rw [← h2]; exact List.drop_suffix _ _⟩
  · intro ⟨_, h⟩
    exact ⟨h.length_le, (List.suffix_iff_eq_drop.mp h).symm⟩
theorem ov_end {r u : List Str} : ov r u = r.length ↔ endsSo u r = true := by
  rw [ends_bg]
  obtain ⟨a, b⟩ := ov_spec r u
  exact ⟨fun h => h ▸ a, fun h => Nat.le_antisymm a.1 (b _ h)⟩
def Mn (p : Pl) (w : List Str) : Int := w.foldl (step p) 0
theorem mn_snoc (p : Pl) (w : List Str) (c : Str) : Mn p (w ++ [c]) = step p (Mn p w) c := by simp [Mn]
def Brk (p : Pl) (w : List Str) : Prop := ∃ j, j < w.length ∧ fresh p (w.take (j + 1)) = true
theorem brk_snoc {p : Pl} {w : List Str} {c : Str} : Brk p (w ++ [c]) ↔ Brk p w ∨ fresh p (w ++ [c]) = true := by
  constructor
  · intro ⟨j, h1, h2⟩
    rcases Nat.lt_or_ge j w.length with q | q
    · refine .inl ⟨j, q, ?_⟩
      rw [List.take_append_of_le_length (by omega)] at h2
      exact h2
    · rw [List.length_append, List.length_singleton] at h1
      have : j = w.length := by omega
      subst this
      rw [List.take_of_length_le (by simp)] at h2
      exact .inr h2
  · rintro (⟨j, h1, h2⟩ | h)
    · exact ⟨j, by rw [List.length_append]; omega, by rw [List.take_append_of_le_length (by omega)]; exact h2⟩
    · exact ⟨w.length, by simp, by rw [List.take_of_length_le (by simp)]; exact h⟩
/-- what the mind is while nothing is broken -/
def Mid : Pl → List Str → Int → Prop
  | .never r, w, m => m = ov r w
  | .until a r, w, m => (a ∈ w ∧ m = -1) ∨ (a ∉ w ∧ m = ov r w)
  | .after a b, w, m => (a ∈ w ∧ m = 1) ∨ (a ∉ w ∧ m = 0)
  | .turns a b, w, m => (m = 0 ∧ ((w.filter fun y => decide (y = a ∨ y = b)) = [] ∨ ∃ l, (w.filter fun y => decide (y = a ∨ y = b)) = l ++ [b])) ∨ (m = 1 ∧ ∃ l, (w.filter fun y => decide (y = a ∨ y = b)) = l ++ [a])
  | .most _ a cs, w, m => m = ((after cs w).filter fun y => decide (y = a)).length
  | .within _ a b, w, m => m = ((after [b] w).dropWhile fun y => !decide (y = a)).length
theorem mid_nil {p : Pl} (hp : p.ok) : Mid p [] 0 ∧ p.val 0 ∧ endm p ≠ 0 := by
  cases p with
  | never r =>
    have hr : 0 < r.length := List.length_pos_iff.mpr hp.2.1
    have : ov r [] = 0 := by have := bg_len (ov_spec r []).1; simpa using this
    exact ⟨by simp [Mid, this], ⟨by omega, by omega⟩, by simp only [endm]; omega⟩
  | «until» a r =>
    have hr : 0 < r.length := List.length_pos_iff.mpr hp.2.1
    have : ov r [] = 0 := by have := bg_len (ov_spec r []).1; simpa using this
    exact ⟨by simp [Mid, this], ⟨by omega, by omega⟩, by simp only [endm]; omega⟩
  | after a b => exact ⟨by simp [Mid], by simp [Pl.val], by simp [endm]⟩
  | turns a b => exact ⟨by simp [Mid], by simp [Pl.val], by simp [endm]⟩
  | most n a cs => exact ⟨by simp [Mid, after], by simp only [Pl.val]; omega, by simp only [endm]; omega⟩
  | within n a b => exact ⟨by simp [Mid, after], by simp only [Pl.val]; omega, by simp only [endm]; omega⟩
theorem stay {p : Pl} {c : Str} : step p (endm p) c = endm p ∧ p.val (endm p) := by
  cases p with
  | never r => exact ⟨by simp [step, endm, strch], by simp [Pl.val, endm]⟩
  | «until» a r => exact ⟨by simp [step, endm], by simp only [Pl.val, endm]; omega⟩
  | after a b => exact ⟨by simp [step, endm], by simp [Pl.val, endm]⟩
  | turns a b => exact ⟨by simp [step, endm], by simp [Pl.val, endm]⟩
  | most n a cs => exact ⟨by simp [step, endm], by simp only [Pl.val, endm]; omega⟩
  | within n a b => exact ⟨by simp [step, endm], by simp only [Pl.val, endm]; omega⟩
theorem last_snoc {α : Type} (w : List α) (c : α) : (w ++ [c])[(w ++ [c]).length - 1]? = some c := by simp
theorem takeW {α : Type} {p : α → Bool} : ∀ {l : List α} {x : α}, x ∈ l.takeWhile p → p x = true
  | [], x, h => by simp at h
  | a :: l, x, h => by
    rw [List.takeWhile_cons] at h
    cases hp : p a with
    | true =>
      rw [hp, if_pos rfl] at h
      rcases List.mem_cons.mp h with e | h
      · rw [e]; exact hp
      · exact takeW h
    | false =>
      rw [hp, if_neg (by simp)] at h
      cases h
theorem after_suf (cs w : List Str) : after cs w <:+ w ∧ ∀ x ∈ after cs w, x ∉ cs := by
  unfold after
  constructor
  · rw [← List.reverse_prefix, List.reverse_reverse]
    exact List.takeWhile_prefix _
  · intro x hx
    have := takeW (List.mem_reverse.mp hx)
    simpa using this
theorem after_max {cs w l : List Str} (h : l <:+ w) (k : ∀ x ∈ l, x ∉ cs) : l <:+ after cs w := by
  unfold after
  rw [← List.reverse_prefix, List.reverse_reverse]
  obtain ⟨t, e⟩ := List.reverse_prefix.mpr h
  rw [← e, List.takeWhile_append_of_pos]
  · exact List.prefix_append _ _
  · intro x hx
    have := k x (List.mem_reverse.mp hx)
    simp [this]
theorem within_fresh {n : Nat} {a b : Str} (hab : a ≠ b) {u : List Str} (hle : ((after [b] u).dropWhile fun y => !decide (y = a)).length ≤ n + 1) :
    ((after [b] u).dropWhile fun y => !decide (y = a)).length = n + 1 ↔ fresh (.within n a b) u = true := by
  have ef : fresh (.within n a b) u = true ↔ n + 1 ≤ u.length ∧ u[u.length - 1 - n]? = some a ∧ b ∉ u.drop (u.length - n) := by simp [fresh]
  rw [ef]
  obtain ⟨sf, nb⟩ := after_suf [b] u
  constructor
  · intro hl
    have s1 : ((after [b] u).dropWhile fun y => !decide (y = a)) <:+ u := (List.dropWhile_suffix _).trans sf
    have l1 := s1.length_le
    rw [hl] at l1
    have e1 := List.suffix_iff_eq_drop.mp s1
    rw [hl] at e1
    have hb : b ∉ u.drop (u.length - (n + 1)) := by
      rw [← e1]
      intro hm
      exact nb b ((List.dropWhile_suffix _).mem hm) (by simp)
    have hd : u.drop (u.length - (n + 1)) = u[u.length - (n + 1)] :: u.drop (u.length - (n + 1) + 1) := List.drop_eq_getElem_cons (by omega)
    refine ⟨l1, ?_, fun hm => hb ?_⟩
    · have hne : ((after [b] u).dropWhile fun y => !decide (y = a)) ≠ [] := fun z => by rw [z] at hl; simp at hl
      have hh := List.head_dropWhile_not (fun y => !decide (y = a)) hne
      have : ((after [b] u).dropWhile fun y => !decide (y = a)).head hne = u[u.length - (n + 1)] := by
        have h2 : ((after [b] u).dropWhile fun y => !decide (y = a)) = u[u.length - (n + 1)] :: u.drop (u.length - (n + 1) + 1) := e1.trans hd
        simp only [h2, List.head_cons]
      rw [this] at hh
      have ha : u[u.length - (n + 1)] = a := by simpa using hh
      have ei : u.length - 1 - n = u.length - (n + 1) := by omega
      rw [ei, List.getElem?_eq_getElem (by omega), ha]
    · rw [hd]
      have ei : u.length - n = u.length - (n + 1) + 1 := by omega
      rw [ei] at hm
      exact List.mem_cons_of_mem _ hm
  · intro ⟨h1, h2, h3⟩
    have hd : u.drop (u.length - (n + 1)) = a :: u.drop (u.length - n) := by
      have ei : u.length - 1 - n = u.length - (n + 1) := by omega
      rw [ei] at h2
      obtain ⟨hi, e⟩ := List.getElem?_eq_some_iff.mp h2
      rw [List.drop_eq_getElem_cons hi, e]
      congr 2
      omega
    have s2 : (a :: u.drop (u.length - n)) <:+ after [b] u := after_max (by rw [← hd]; exact List.drop_suffix _ _) fun x hx hm => by
      rw [List.mem_singleton] at hm
      rcases List.mem_cons.mp hx with z | z
      · exact hab (z ▸ hm)
      · exact h3 (hm ▸ z)
    obtain ⟨t, et⟩ := s2
    have hge : n + 1 ≤ ((after [b] u).dropWhile fun y => !decide (y = a)).length := by
      rw [← et, List.dropWhile_append]
      have hl : (a :: u.drop (u.length - n)).length = n + 1 := by simp; omega
      split
      · have : ((a :: u.drop (u.length - n)).dropWhile fun y => !decide (y = a)) = a :: u.drop (u.length - n) := by simp
        rw [this, hl]
        exact Nat.le_refl _
      · rw [List.length_append, hl]
        omega
    omega
/-- one call more, nothing broken so far -/
theorem turn {p : Pl} (hp : p.ok) {w : List Str} {m : Int} {c : Str} (h : Mid p w m) (hv : p.val m) (he : m ≠ endm p) :
    p.val (step p m c) ∧ (step p m c = endm p ↔ fresh p (w ++ [c]) = true) ∧ (step p m c ≠ endm p → Mid p (w ++ [c]) (step p m c)) := by
  cases p with
  | never r =>
    simp only [Mid] at h
    subst h
    have hne : ov r w ≠ r.length := fun e => he (by simp [endm, e])
    have e : step (.never r) (ov r w) c = ov r (w ++ [c]) := by simp only [step, Int.toNat_natCast, strch, if_neg hne, ov_step]
    rw [e]
    have hb := (ov_spec r (w ++ [c])).1.1
    refine ⟨⟨by omega, by omega⟩, ?_, fun _ => by simp [Mid]⟩
    simp only [endm, fresh]
    rw [← ov_end]
    omega
  | «until» a r =>
    have hb := (ov_spec r (w ++ [c])).1.1
    have hbw := (ov_spec r w).1.1
    rcases h with ⟨ha, rfl⟩ | ⟨ha, rfl⟩
    · have e : step (.until a r) (-1) c = -1 := by simp [step]
      rw [e]
      refine ⟨hv, ?_, fun _ => .inl ⟨by simp [ha], rfl⟩⟩
      simp only [endm, fresh, Bool.and_eq_true, Bool.not_eq_true', decide_eq_false_iff_not]
      constructor
      · intro z; omega
      · intro z; exact (z.2 (by simp [ha])).elim
    · have hne : ov r w ≠ r.length := fun e => he (by simp [endm, e])
      by_cases hc : c = a
      · subst hc
        have e : step (.until c r) (ov r w) c = -1 := by
          simp only [step, if_true]
          rw [if_neg (by omega)]
        rw [e]
        refine ⟨⟨by omega, by omega⟩, ?_, fun _ => .inl ⟨by simp, rfl⟩⟩
        simp only [endm, fresh, Bool.and_eq_true, Bool.not_eq_true', decide_eq_false_iff_not]
        constructor
        · intro z; omega
        · intro z; exact (z.2 (by simp)).elim
      · have e : step (.until a r) (ov r w) c = ov r (w ++ [c]) := by
          simp only [step, if_neg hc, Int.toNat_natCast, strch, if_neg hne, ov_step]
          rw [if_neg (by omega)]
        rw [e]
        have hac : a ∉ w ++ [c] := by simp [ha, Ne.symm hc]
        refine ⟨⟨by omega, by omega⟩, ?_, fun _ => .inr ⟨hac, rfl⟩⟩
        simp only [endm, fresh, Bool.and_eq_true, Bool.not_eq_true', decide_eq_false_iff_not, hac, not_false_eq_true, and_true]
        rw [← ov_end]
        omega
  | after a b =>
    have hab := hp.2
    have ef : fresh (.after a b) (w ++ [c]) = (decide (c = b) && !decide (a ∈ w)) := by simp [fresh]
    rw [ef]
    rcases h with ⟨ha, rfl⟩ | ⟨ha, rfl⟩
    · have e : step (.after a b) 1 c = 1 := by simp [step]
      rw [e]
      exact ⟨.inr (.inl rfl), by simp [endm, ha], fun _ => .inl ⟨by simp [ha], rfl⟩⟩
    · by_cases h1 : c = a
      · subst h1
        have e : step (.after c b) 0 c = 1 := by simp [step]
        rw [e]
        exact ⟨.inr (.inl rfl), by simp [endm, hab], fun _ => .inl ⟨by simp, rfl⟩⟩
      · by_cases h2 : c = b
        · subst h2
          have e : step (.after a c) 0 c = 2 := by simp [step, h1]
          rw [e]
          exact ⟨.inr (.inr rfl), by simp [endm, ha], fun z => (z rfl).elim⟩
        · have e : step (.after a b) 0 c = 0 := by simp [step, h1, h2]
          rw [e]
          exact ⟨.inl rfl, by simp [endm, h2], fun _ => .inr ⟨by simp [ha, Ne.symm h1], rfl⟩⟩
  | turns a b =>
    have hab := hp.2
    simp only [Mid] at h ⊢
    have ff : (w ++ [c]).filter (fun y => decide (y = a ∨ y = b)) = (w.filter fun y => decide (y = a ∨ y = b)) ++ if c = a ∨ c = b then [c] else [] := by
      rw [List.filter_append]
      by_cases hc : c = a ∨ c = b
      · simp [hc]
      · simp [hc]
    have ef : fresh (.turns a b) (w ++ [c]) = (decide (c = a ∨ c = b) && (decide (((w ++ [c]).filter (fun y => decide (y = a ∨ y = b))).drop (((w ++ [c]).filter (fun y => decide (y = a ∨ y = b))).length - 2) = [c, c]) || decide (((w ++ [c]).filter (fun y => decide (y = a ∨ y = b))) = [b]))) := by
      simp only [fresh, last_snoc]
    rw [ef, ff]
    generalize (w.filter fun y => decide (y = a ∨ y = b)) = s at h ⊢
    have two : ∀ (l : List Str) (y : Str), ((l ++ [y]) ++ [c]).drop (((l ++ [y]) ++ [c]).length - 2) = [y, c] := fun l y => by
      rw [List.append_assoc, List.length_append]
      simp
    by_cases h1 : c = a
    · subst h1
      rcases h with ⟨rfl, h | ⟨l, h⟩⟩ | ⟨rfl, l, h⟩
      · have e : step (.turns c b) 0 c = 1 := by simp [step]
        rw [e, h]
        exact ⟨.inr (.inl rfl), by simp [endm, hab], fun _ => .inr ⟨rfl, [], by simp⟩⟩
      · have e : step (.turns c b) 0 c = 1 := by simp [step]
        rw [e, h]
        refine ⟨.inr (.inl rfl), ?_, fun _ => .inr ⟨rfl, l ++ [b], by simp⟩⟩
        simp only [true_or, if_true, two]
        simp only [endm, List.cons.injEq, Ne.symm hab, false_and, decide_false, Bool.false_or, Bool.or_false, Bool.true_and, decide_true]
        simp
        intro z
        have := congrArg List.length z
        simp at this
      · have e : step (.turns c b) 1 c = 2 := by simp [step, hab]
        rw [e, h]
        refine ⟨.inr (.inr rfl), ?_, fun z => (z rfl).elim⟩
        simp only [true_or, if_true, two]
        simp [endm]
    · by_cases h2 : c = b
      · subst h2
        rcases h with ⟨rfl, h | ⟨l, h⟩⟩ | ⟨rfl, l, h⟩
        · have e : step (.turns a c) 0 c = 2 := by simp [step, h1]
          rw [e, h]
          refine ⟨.inr (.inr rfl), ?_, fun z => (z rfl).elim⟩
          simp [endm]
        · have e : step (.turns a c) 0 c = 2 := by simp [step, h1]
          rw [e, h]
          refine ⟨.inr (.inr rfl), ?_, fun z => (z rfl).elim⟩
          simp only [or_true, if_true, two]
          simp [endm]
        · have e : step (.turns a c) 1 c = 0 := by simp [step]
          rw [e, h]
          refine ⟨.inl rfl, ?_, fun _ => .inl ⟨rfl, .inr ⟨l ++ [a], by simp⟩⟩⟩
          simp only [or_true, if_true, two]
          simp [endm, hab]
          intro z
          have := congrArg List.length z
          simp at this
      · have e : step (.turns a b) m c = m := by simp [step, h1, h2]
        rw [e]
        refine ⟨hv, ?_, fun _ => ?_⟩
        · simp only [h1, h2, or_self, decide_false, Bool.false_and, Bool.false_eq_true, iff_false]
          exact he
        · simpa [h1, h2] using h
  | most n a cs =>
    simp only [Mid] at h ⊢
    subst h
    have hac := hp.2.1
    have hle : ((after cs w).filter fun y => decide (y = a)).length ≤ n := by
      have h1 := hv.2
      simp only [endm] at he
      omega
    have ef : fresh (.most n a cs) (w ++ [c]) = (decide (c = a) && decide (n < ((after cs (w ++ [c])).filter fun y => decide (y = a)).length)) := by simp [fresh]
    have he' : ¬ ((((after cs w).filter fun y => decide (y = a)).length : Int) = n + 1) := he
    rw [ef, after_snoc]
    by_cases h1 : c = a
    · subst h1
      have e : step (.most n c cs) ((after cs w).filter fun y => decide (y = c)).length c = (((after cs w).filter fun y => decide (y = c)).length : Int) + 1 := by simp only [step, if_neg he', if_true]
      rw [e, if_neg hac]
      have el : ((after cs w ++ [c]).filter fun y => decide (y = c)).length = ((after cs w).filter fun y => decide (y = c)).length + 1 := by simp
      rw [el]
      refine ⟨⟨by omega, by omega⟩, ?_, fun _ => by omega⟩
      simp only [endm, decide_true, Bool.true_and, decide_eq_true_eq]
      omega
    · by_cases h2 : c ∈ cs
      · have e : step (.most n a cs) ((after cs w).filter fun y => decide (y = a)).length c = 0 := by simp only [step, if_neg he', if_neg h1, if_pos h2]
        rw [e, if_pos h2]
        refine ⟨⟨by omega, by omega⟩, ?_, fun _ => by simp⟩
        simp only [endm, h1, decide_false, Bool.false_and, Bool.false_eq_true, iff_false]
        omega
      · have e : step (.most n a cs) ((after cs w).filter fun y => decide (y = a)).length c = ((after cs w).filter fun y => decide (y = a)).length := by simp only [step, if_neg he', if_neg h1, if_neg h2]
        rw [e, if_neg h2]
        refine ⟨hv, ?_, fun _ => by simp [h1]⟩
        simp only [endm, h1, decide_false, Bool.false_and, Bool.false_eq_true, iff_false]
        exact he'
  | within n a b =>
    simp only [Mid] at h ⊢
    subst h
    have hab := hp.2.1
    have he' : ¬ ((((after [b] w).dropWhile fun y => !decide (y = a)).length : Int) = n + 1) := he
    have hle : ((after [b] w).dropWhile fun y => !decide (y = a)).length ≤ n := by
      have h1 := hv.2
      omega
    -- what the mind is behind c
    have e : step (.within n a b) ((after [b] w).dropWhile fun y => !decide (y = a)).length c = ((after [b] (w ++ [c])).dropWhile fun y => !decide (y = a)).length := by
      simp only [step, if_neg he']
      rw [after_snoc]
      by_cases h1 : c = b
      · simp [h1]
      · have h1' : c ∉ [b] := by simpa using h1
        rw [if_neg h1, if_neg h1', List.dropWhile_append]
        by_cases h2 : ((after [b] w).dropWhile fun y => !decide (y = a)) = []
        · simp only [h2, List.length_nil, List.isEmpty_nil, if_true]
          by_cases h3 : c = a
          · simp [h3]
          · simp [h3]
        · have h2' : ((after [b] w).dropWhile fun y => !decide (y = a)).isEmpty = false := by simpa using h2
          have h3 : 0 < ((after [b] w).dropWhile fun y => !decide (y = a)).length := List.length_pos_iff.mpr h2
          rw [h2', if_pos (.inl (by omega))]
          simp
    have hle2 : ((after [b] (w ++ [c])).dropWhile fun y => !decide (y = a)).length ≤ n + 1 := by
      have z : (((after [b] (w ++ [c])).dropWhile fun y => !decide (y = a)).length : Int) ≤ n + 1 := by
        rw [← e]
        simp only [step, if_neg he']
        split
        · omega
        · split <;> omega
      omega
    rw [e]
    refine ⟨⟨by omega, by omega⟩, ?_, fun _ => rfl⟩
    rw [← within_fresh hab hle2]
    simp only [endm]
    omega
end Lw
end
section
open PySem L2 Den
namespace Lw
theorem c106 : ((1000000 : Int)) = ((1000000 : Nat) : Int) := rfl
theorem t_fresh {p : Pl} (hp : p.ok) {w : List Str} (hw : okSs w) (hne : w ≠ []) (hl : w.length ≤ 100000) : d__law_fresh_break [.sh p.d, .sh (tS w)] = .ret (.sh (.bl (fresh p w))) [.sh p.d, .sh (tS w)] := by
  cases p with
  | never r => exact t_fresh_never hw hne hp.1
  | «until» a r => exact t_fresh_until hw hne fun x hx => hp.1 x (by simp [hx])
  | after a b => exact t_fresh_after hw hne
  | turns a b => exact t_fresh_turns hw hne hl hp.1
  | most n a cs =>
    obtain ⟨f, e, rfl⟩ := t_fresh_most (n := n) (a := a) (cs := cs) hw hne hl
    exact e
  | within n a b => exact t_fresh_within hw hne
theorem mind_ok {p : Pl} (hp : p.ok) (w : List Str) : p.val (Mn p w) ∧ (Mn p w = endm p ↔ Brk p w) ∧ (Mn p w ≠ endm p → Mid p w (Mn p w)) := by
  induction w using rev_ind with
  | h0 =>
    obtain ⟨a, b, c⟩ := mid_nil hp
    refine ⟨b, ?_, fun _ => a⟩
    constructor
    · intro h; exact (c h.symm).elim
    · intro ⟨j, h, _⟩; simp at h
  | h1 w c ih =>
    obtain ⟨v, b, m⟩ := ih
    rw [mn_snoc, brk_snoc]
    by_cases h : Mn p w = endm p
    · rw [h]
      obtain ⟨s1, s2⟩ := stay (p := p) (c := c)
      rw [s1]
      exact ⟨s2, ⟨fun _ => .inl (b.mp h), fun _ => rfl⟩, fun z => (z rfl).elim⟩
    · obtain ⟨x, y, z⟩ := turn hp (m h) v h (c := c)
      refine ⟨x, ⟨fun q => .inr (y.mp q), fun q => ?_⟩, z⟩
      rcases q with q | q
      · exact (h (b.mpr q)).elim
      · exact y.mpr q
def pa (p : Pl) (w : List Str) : Nat := match (List.range w.length).find? fun j => fresh p (w.take (j + 1)) with
  | some j => j + 1
  | none => 1000000
theorem pa_le {p : Pl} (hp : p.ok) {w : List Str} {k : Nat} (hk : k ≤ w.length) (hl : w.length ≤ 100000) : pa p w ≤ k ↔ Mn p (w.take k) = endm p := by
  rw [(mind_ok hp (w.take k)).2.1]
  have hlen : (w.take k).length = k := by rw [List.length_take]; omega
  have ht : ∀ j, j < k → (w.take k).take (j + 1) = w.take (j + 1) := fun j hj => by rw [List.take_take, Nat.min_eq_left (by omega)]
  unfold pa Brk
  rw [hlen]
  constructor
  · intro h
    cases hf : (List.range w.length).find? fun j => fresh p (w.take (j + 1)) with
    | none => rw [hf] at h; simp only at h; omega
    | some j =>
      rw [hf] at h
      simp only at h
      exact ⟨j, by omega, by rw [ht j (by omega)]; exact List.find?_some (p := fun j => fresh p (w.take (j + 1))) hf⟩
  · intro ⟨j, hj, hf⟩
    rw [ht j hj] at hf
    cases hq : (List.range w.length).find? fun j => fresh p (w.take (j + 1)) with
    | none =>
      have := List.find?_eq_none.mp hq j (by simp; omega)
      exact (this hf).elim
    | some i =>
      simp only
      have := List.find?_range_eq_some.mp hq
      rcases Nat.lt_or_ge j i with q | q
      · have z := this.2.2 j q
        rw [hf] at z
        cases z
      · omega
theorem pa_pos {p : Pl} {w : List Str} : 1 ≤ pa p w ∧ (pa p w ≤ w.length ∨ pa p w = 1000000) := by
  unfold pa
  cases hf : (List.range w.length).find? fun j => fresh p (w.take (j + 1)) with
  | none => exact ⟨by simp, .inr rfl⟩
  | some j =>
    have := List.mem_of_find?_eq_some hf
    simp at this
    exact ⟨by simp, .inl (by simp only; omega)⟩
theorem sFor_rng2 {od oe : Od} {tg : aG} {body : aS} {ρ ρ' : Store} {rs : List Rv} {i j : Int} (h1 : evA [od, oe] ρ = .ok rs ρ') (h2 : rsv ρ' rs = some [.sh (.int i), .sh (.int j)]) (hi : -1000000000 ≤ i ∧ i ≤ 1000000000) (hj : -1000000000 ≤ j ∧ j ≤ 1000000000) :
    sFor (aRng2 od oe) tg body ρ = forD tg body (rngD i (j - i).toNat) ρ' := by
  unfold sFor aRng2
  rw [h1]
  simp only [Res.bind, h2]
  rw [if_pos ⟨hi, hj⟩]
  rfl
theorem pa_some {p : Pl} {w : List Str} {j : Nat} (h : ((List.range w.length).find? fun j => fresh p (w.take (j + 1))) = some j) : pa p w = j + 1 := by unfold pa; rw [h]
theorem pa_none {p : Pl} {w : List Str} (h : ((List.range w.length).find? fun j => fresh p (w.take (j + 1))) = none) : pa p w = 1000000 := by unfold pa; rw [h]
theorem t_plain_at {p : Pl} (hp : p.ok) {w : List Str} (hw : okSs w) (hl : w.length ≤ 100000) : d__law_plain_at [.sh p.d, .sh (tS w)] = .ret (.sh (.int (pa p w))) [.sh p.d, .sh (tS w)] := by
  have key : ∀ (js : List Nat), (∀ j ∈ js, j < w.length) → ∀ x : Option O, ∃ y, forD (aN 2) (sIf (aB (aCall 2 [.pl 0, .ex (aSl (.pl 1) none (some (aVar 2)) gSl)] [] (d__law_fresh_break))) (sRet (aMove 2)) sNext) (js.map fun i : Nat => D.int (1 + (i : Int))) [some (.sh p.d), some (.sh (tS w)), x] =
      match js.find? fun j => fresh p (w.take (j + 1)) with
      | some j => .ret (.sh (.int ((j + 1 : Nat) : Int))) [some (.sh p.d), some (.sh (tS w)), y]
      | none => .nx [some (.sh p.d), some (.sh (tS w)), y] := by
    intro js
    induction js with
    | nil => exact fun _ x => ⟨x, rfl⟩
    | cons j js ih =>
      intro hj x
      have hj0 := hj j (by simp)
      rw [List.map_cons, forD, aN_in (by simp)]
      have e1 : (1 : Int) + (j : Int) = ((j + 1 : Nat) : Int) := by omega
      have ef := t_fresh hp (w := w.take (j + 1)) (okS_take hw _) (fun z => by have := congrArg List.length z; rw [List.length_take, List.length_nil] at this; omega) (by rw [List.length_take]; omega)
      simp only [aDef, pre, outs, List.map_cons, List.map_nil, List.replicate, List.cons_append, List.nil_append, List.length_cons, List.length_nil, sSeq, sSet, sRet, sRetN, sIf, sDrop, sPar, sAsg, sNext, aB, aC, aVar, aMove, aFz, aTV, aNot, aAnd, aOr, aIfE, aAndV, aOrV, aOp, aSl, aP, evA, rsv, l1, l2, Res.bind, Res.out, List.getElem?_cons_zero, List.getElem?_cons_succ, List.set_cons_zero, List.set_cons_succ, Option.map_some, Option.map_none, fz, shs, if_true, if_false, ite_true, ite_false, Bool.false_eq_true, reduceIte, reduceCtorEq, Nat.reduceAdd, Nat.reduceSub, Nat.reduceLT, Nat.reduceLeDiff, Nat.reduceEqDiff, Bool.not_true, Bool.not_false, Nat.sub_self, Nat.zero_add, and_self, true_and, and_true, Nat.lt_add_one, decide_true, decide_false, decide_eq_true_eq , gSl_tS, gLen_tS, gLen_lS, gTup_str, gIn_tS, gNotIn_tS, gIn_lS, gNotIn_lS, gEq_int, gEq_str, gNe_int, gNe_str, cut_from, cut_to , gTup_str2, gIx_tup, atI_0, atI_1, atI_2, atI_3, gSl_tup, List.mem_cons, List.not_mem_nil, or_false, false_or, true_or, or_true, not_true_eq_false, not_false_eq_true , aCall, tak, giv, List.append_nil, aMeth, k_never_until, k_never_after, k_never_turns, k_never_most, k_never_within, k_never_and, k_never_or, k_until_never, k_until_after, k_until_turns, k_until_most, k_until_within, k_until_and, k_until_or, k_after_never, k_after_until, k_after_turns, k_after_most, k_after_within, k_after_and, k_after_or, k_turns_never, k_turns_until, k_turns_after, k_turns_most, k_turns_within, k_turns_and, k_turns_or, k_most_never, k_most_until, k_most_after, k_most_turns, k_most_within, k_most_and, k_most_or, k_within_never, k_within_until, k_within_after, k_within_turns, k_within_most, k_within_and, k_within_or, k_and_never, k_and_until, k_and_after, k_and_turns, k_and_most, k_and_within, k_and_or, k_or_never, k_or_until, k_or_after, k_or_turns, k_or_most, k_or_within, k_or_and, e1, aCall, tak, giv, List.append_nil, ef, List.find?_cons]
      cases hf : fresh p (w.take (j + 1)) with
      | true => exact ⟨some (.sh (.int ((j + 1 : Nat) : Int))), by simp only [aDef, pre, outs, List.map_cons, List.map_nil, List.replicate, List.cons_append, List.nil_append, List.length_cons, List.length_nil, sSeq, sSet, sRet, sRetN, sIf, sDrop, sPar, sAsg, sNext, aB, aC, aVar, aMove, aFz, aTV, aNot, aAnd, aOr, aIfE, aAndV, aOrV, aOp, aSl, aP, evA, rsv, l1, l2, Res.bind, Res.out, List.getElem?_cons_zero, List.getElem?_cons_succ, List.set_cons_zero, List.set_cons_succ, Option.map_some, Option.map_none, fz, shs, if_true, if_false, ite_true, ite_false, Bool.false_eq_true, reduceIte, reduceCtorEq, Nat.reduceAdd, Nat.reduceSub, Nat.reduceLT, Nat.reduceLeDiff, Nat.reduceEqDiff, Bool.not_true, Bool.not_false, Nat.sub_self, Nat.zero_add, and_self, true_and, and_true, Nat.lt_add_one, decide_true, decide_false, decide_eq_true_eq , gSl_tS, gLen_tS, gLen_lS, gTup_str, gIn_tS, gNotIn_tS, gIn_lS, gNotIn_lS, gEq_int, gEq_str, gNe_int, gNe_str, cut_from, cut_to , gTup_str2, gIx_tup, atI_0, atI_1, atI_2, atI_3, gSl_tup, List.mem_cons, List.not_mem_nil, or_false, false_or, true_or, or_true, not_true_eq_false, not_false_eq_true , aCall, tak, giv, List.append_nil, aMeth, k_never_until, k_never_after, k_never_turns, k_never_most, k_never_within, k_never_and, k_never_or, k_until_never, k_until_after, k_until_turns, k_until_most, k_until_within, k_until_and, k_until_or, k_after_never, k_after_until, k_after_turns, k_after_most, k_after_within, k_after_and, k_after_or, k_turns_never, k_turns_until, k_turns_after, k_turns_most, k_turns_within, k_turns_and, k_turns_or, k_most_never, k_most_until, k_most_after, k_most_turns, k_most_within, k_most_and, k_most_or, k_within_never, k_within_until, k_within_after, k_within_turns, k_within_most, k_within_and, k_within_or, k_and_never, k_and_until, k_and_after, k_and_turns, k_and_most, k_and_within, k_and_or, k_or_never, k_or_until, k_or_after, k_or_turns, k_or_most, k_or_within, k_or_and]⟩
      | false =>
        obtain ⟨y, hy⟩ := ih (fun i hi => hj i (by simp [hi])) (some (.sh (.int ((j + 1 : Nat) : Int))))
        refine ⟨y, ?_⟩
        simp only [aDef, pre, outs, List.map_cons, List.map_nil, List.replicate, List.cons_append, List.nil_append, List.length_cons, List.length_nil, sSeq, sSet, sRet, sRetN, sIf, sDrop, sPar, sAsg, sNext, aB, aC, aVar, aMove, aFz, aTV, aNot, aAnd, aOr, aIfE, aAndV, aOrV, aOp, aSl, aP, evA, rsv, l1, l2, Res.bind, Res.out, List.getElem?_cons_zero, List.getElem?_cons_succ, List.set_cons_zero, List.set_cons_succ, Option.map_some, Option.map_none, fz, shs, if_true, if_false, ite_true, ite_false, Bool.false_eq_true, reduceIte, reduceCtorEq, Nat.reduceAdd, Nat.reduceSub, Nat.reduceLT, Nat.reduceLeDiff, Nat.reduceEqDiff, Bool.not_true, Bool.not_false, Nat.sub_self, Nat.zero_add, and_self, true_and, and_true, Nat.lt_add_one, decide_true, decide_false, decide_eq_true_eq , gSl_tS, gLen_tS, gLen_lS, gTup_str, gIn_tS, gNotIn_tS, gIn_lS, gNotIn_lS, gEq_int, gEq_str, gNe_int, gNe_str, cut_from, cut_to , gTup_str2, gIx_tup, atI_0, atI_1, atI_2, atI_3, gSl_tup, List.mem_cons, List.not_mem_nil, or_false, false_or, true_or, or_true, not_true_eq_false, not_false_eq_true , aCall, tak, giv, List.append_nil, aMeth, k_never_until, k_never_after, k_never_turns, k_never_most, k_never_within, k_never_and, k_never_or, k_until_never, k_until_after, k_until_turns, k_until_most, k_until_within, k_until_and, k_until_or, k_after_never, k_after_until, k_after_turns, k_after_most, k_after_within, k_after_and, k_after_or, k_turns_never, k_turns_until, k_turns_after, k_turns_most, k_turns_within, k_turns_and, k_turns_or, k_most_never, k_most_until, k_most_after, k_most_turns, k_most_within, k_most_and, k_most_or, k_within_never, k_within_until, k_within_after, k_within_turns, k_within_most, k_within_and, k_within_or, k_and_never, k_and_until, k_and_after, k_and_turns, k_and_most, k_and_within, k_and_or, k_or_never, k_or_until, k_or_after, k_or_turns, k_or_most, k_or_within, k_or_and]
        exact hy
  obtain ⟨y, hy⟩ := key (List.range w.length) (fun j hj => by simpa using hj) none
  have e2 : (((w.length : Int) + 1) - 1).toNat = w.length := by omega
  have one : ∀ i : Int, i = 1 → -1000000000 ≤ i ∧ i ≤ 1000000000 := fun i h => by omega
  have hF := sFor_rng2 (od := .ex (aC (.int 1))) (oe := .ex (aOp [.ex (aOp [.pl 1] (l1 gLen)), .ex (aC (.int 1))] (l2 gAdd))) (tg := aN 2) (body := sIf (aB (aCall 2 [.pl 0, .ex (aSl (.pl 1) none (some (aVar 2)) gSl)] [] (d__law_fresh_break))) (sRet (aMove 2)) sNext)
    (ρ := [some (.sh p.d), some (.sh (tS w)), none]) (rs := [.o (.sh (.int 1)), .o (.sh (.int ((w.length : Int) + 1)))]) (ρ' := [some (.sh p.d), some (.sh (tS w)), none]) (i := 1) (j := (w.length : Int) + 1) (by simp only [aDef, pre, outs, List.map_cons, List.map_nil, List.replicate, List.cons_append, List.nil_append, List.length_cons, List.length_nil, sSeq, sSet, sRet, sRetN, sIf, sDrop, sPar, sAsg, sNext, aB, aC, aVar, aMove, aFz, aTV, aNot, aAnd, aOr, aIfE, aAndV, aOrV, aOp, aSl, aP, evA, rsv, l1, l2, Res.bind, Res.out, List.getElem?_cons_zero, List.getElem?_cons_succ, List.set_cons_zero, List.set_cons_succ, Option.map_some, Option.map_none, fz, shs, if_true, if_false, ite_true, ite_false, Bool.false_eq_true, reduceIte, reduceCtorEq, Nat.reduceAdd, Nat.reduceSub, Nat.reduceLT, Nat.reduceLeDiff, Nat.reduceEqDiff, Bool.not_true, Bool.not_false, Nat.sub_self, Nat.zero_add, and_self, true_and, and_true, Nat.lt_add_one, decide_true, decide_false, decide_eq_true_eq , gSl_tS, gLen_tS, gLen_lS, gTup_str, gIn_tS, gNotIn_tS, gIn_lS, gNotIn_lS, gEq_int, gEq_str, gNe_int, gNe_str, cut_from, cut_to , gTup_str2, gIx_tup, atI_0, atI_1, atI_2, atI_3, gSl_tup, List.mem_cons, List.not_mem_nil, or_false, false_or, true_or, or_true, not_true_eq_false, not_false_eq_true , aCall, tak, giv, List.append_nil, aMeth, k_never_until, k_never_after, k_never_turns, k_never_most, k_never_within, k_never_and, k_never_or, k_until_never, k_until_after, k_until_turns, k_until_most, k_until_within, k_until_and, k_until_or, k_after_never, k_after_until, k_after_turns, k_after_most, k_after_within, k_after_and, k_after_or, k_turns_never, k_turns_until, k_turns_after, k_turns_most, k_turns_within, k_turns_and, k_turns_or, k_most_never, k_most_until, k_most_after, k_most_turns, k_most_within, k_most_and, k_most_or, k_within_never, k_within_until, k_within_after, k_within_turns, k_within_most, k_within_and, k_within_or, k_and_never, k_and_until, k_and_after, k_and_turns, k_and_most, k_and_within, k_and_or, k_or_never, k_or_until, k_or_after, k_or_turns, k_or_most, k_or_within, k_or_and, gAdd]) rfl (one 1 rfl) (by omega)
  rw [e2] at hF
  have hF2 := hF.trans hy
  clear hF hy key
  obtain ⟨src, hsrc⟩ : ∃ g, g = sFor (aRng2 (.ex (aC (.int 1))) (.ex (aOp [.ex (aOp [.pl 1] (l1 gLen)), .ex (aC (.int 1))] (l2 gAdd)))) (aN 2) (sIf (aB (aCall 2 [.pl 0, .ex (aSl (.pl 1) none (some (aVar 2)) gSl)] [] (d__law_fresh_break))) (sRet (aMove 2)) sNext) := ⟨_, rfl⟩
  rw [← hsrc] at hF2
  obtain ⟨big, hb⟩ : ∃ b : Int, b = 1000000 := ⟨_, rfl⟩
  have gb := g106
  rw [← hb] at gb
  unfold d__law_plain_at
  rw [aOp_cc gb, ← hsrc]
  cases hf : (List.range w.length).find? fun j => fresh p (w.take (j + 1)) with
  | some j =>
    rw [hf] at hF2
    rw [pa_some hf]
    simp only [aDef, pre, outs, List.map_cons, List.map_nil, List.replicate, List.cons_append, List.nil_append, List.length_cons, List.length_nil, sSeq, sSet, sRet, sRetN, sIf, sDrop, sPar, sAsg, sNext, aB, aC, aVar, aMove, aFz, aTV, aNot, aAnd, aOr, aIfE, aAndV, aOrV, aOp, aSl, aP, evA, rsv, l1, l2, Res.bind, Res.out, List.getElem?_cons_zero, List.getElem?_cons_succ, List.set_cons_zero, List.set_cons_succ, Option.map_some, Option.map_none, fz, shs, if_true, if_false, ite_true, ite_false, Bool.false_eq_true, reduceIte, reduceCtorEq, Nat.reduceAdd, Nat.reduceSub, Nat.reduceLT, Nat.reduceLeDiff, Nat.reduceEqDiff, Bool.not_true, Bool.not_false, Nat.sub_self, Nat.zero_add, and_self, true_and, and_true, Nat.lt_add_one, decide_true, decide_false, decide_eq_true_eq , gSl_tS, gLen_tS, gLen_lS, gTup_str, gIn_tS, gNotIn_tS, gIn_lS, gNotIn_lS, gEq_int, gEq_str, gNe_int, gNe_str, cut_from, cut_to , gTup_str2, gIx_tup, atI_0, atI_1, atI_2, atI_3, gSl_tup, List.mem_cons, List.not_mem_nil, or_false, false_or, true_or, or_true, not_true_eq_false, not_false_eq_true , aCall, tak, giv, List.append_nil, aMeth, k_never_until, k_never_after, k_never_turns, k_never_most, k_never_within, k_never_and, k_never_or, k_until_never, k_until_after, k_until_turns, k_until_most, k_until_within, k_until_and, k_until_or, k_after_never, k_after_until, k_after_turns, k_after_most, k_after_within, k_after_and, k_after_or, k_turns_never, k_turns_until, k_turns_after, k_turns_most, k_turns_within, k_turns_and, k_turns_or, k_most_never, k_most_until, k_most_after, k_most_turns, k_most_within, k_most_and, k_most_or, k_within_never, k_within_until, k_within_after, k_within_turns, k_within_most, k_within_and, k_within_or, k_and_never, k_and_until, k_and_after, k_and_turns, k_and_most, k_and_within, k_and_or, k_or_never, k_or_until, k_or_after, k_or_turns, k_or_most, k_or_within, k_or_and, hF2]
  | none =>
    rw [hf] at hF2
    rw [pa_none hf, ← c106, ← hb]
    simp only [aDef, pre, outs, List.map_cons, List.map_nil, List.replicate, List.cons_append, List.nil_append, List.length_cons, List.length_nil, sSeq, sSet, sRet, sRetN, sIf, sDrop, sPar, sAsg, sNext, aB, aC, aVar, aMove, aFz, aTV, aNot, aAnd, aOr, aIfE, aAndV, aOrV, aOp, aSl, aP, evA, rsv, l1, l2, Res.bind, Res.out, List.getElem?_cons_zero, List.getElem?_cons_succ, List.set_cons_zero, List.set_cons_succ, Option.map_some, Option.map_none, fz, shs, if_true, if_false, ite_true, ite_false, Bool.false_eq_true, reduceIte, reduceCtorEq, Nat.reduceAdd, Nat.reduceSub, Nat.reduceLT, Nat.reduceLeDiff, Nat.reduceEqDiff, Bool.not_true, Bool.not_false, Nat.sub_self, Nat.zero_add, and_self, true_and, and_true, Nat.lt_add_one, decide_true, decide_false, decide_eq_true_eq , gSl_tS, gLen_tS, gLen_lS, gTup_str, gIn_tS, gNotIn_tS, gIn_lS, gNotIn_lS, gEq_int, gEq_str, gNe_int, gNe_str, cut_from, cut_to , gTup_str2, gIx_tup, atI_0, atI_1, atI_2, atI_3, gSl_tup, List.mem_cons, List.not_mem_nil, or_false, false_or, true_or, or_true, not_true_eq_false, not_false_eq_true , aCall, tak, giv, List.append_nil, aMeth, k_never_until, k_never_after, k_never_turns, k_never_most, k_never_within, k_never_and, k_never_or, k_until_never, k_until_after, k_until_turns, k_until_most, k_until_within, k_until_and, k_until_or, k_after_never, k_after_until, k_after_turns, k_after_most, k_after_within, k_after_and, k_after_or, k_turns_never, k_turns_until, k_turns_after, k_turns_most, k_turns_within, k_turns_and, k_turns_or, k_most_never, k_most_until, k_most_after, k_most_turns, k_most_within, k_most_and, k_most_or, k_within_never, k_within_until, k_within_after, k_within_turns, k_within_most, k_within_and, k_within_or, k_and_never, k_and_until, k_and_after, k_and_turns, k_and_most, k_and_within, k_and_or, k_or_never, k_or_until, k_or_after, k_or_turns, k_or_most, k_or_within, k_or_and, hF2]
/-! ### sentences -/
inductive Sen where
  | one (p : Pl) | join (k : Bool) (ss : List Sen)
def jn (k : Bool) : Str := if k then "and" else "or"
mutual
def Sen.d : Sen → D
  | .one p => p.d
  | .join k ss => .tup [.str (jn k), .tup (Sen.dL ss)]
def Sen.dL : List Sen → List D
  | [] => []
  | s :: ss => s.d :: Sen.dL ss
end
mutual
def Sen.plains : Sen → List Pl
  | .one p => [p]
  | .join _ ss => Sen.plainsL ss
def Sen.plainsL : List Sen → List Pl
  | [] => []
  | s :: ss => s.plains ++ Sen.plainsL ss
end
mutual
def Sen.ok : Sen → Prop
  | .one p => p.ok
  | .join _ ss => ss ≠ [] ∧ (ss.length ≤ 100 ∧ (Sen.plainsL ss).length ≤ 10000) ∧ Sen.okL ss
def Sen.okL : List Sen → Prop
  | [] => True
  | s :: ss => s.ok ∧ Sen.okL ss
end
mutual
def Sen.dep : Sen → Nat
  | .one _ => 0
  | .join _ ss => Sen.depL ss + 1
def Sen.depL : List Sen → Nat
  | [] => 0
  | s :: ss => max s.dep (Sen.depL ss)
end
mutual
def Sen.brk (f : Pl → Bool) : Sen → Bool
  | .one p => f p
  | .join true ss => (Sen.brkL f ss).any id
  | .join false ss => (Sen.brkL f ss).all id
def Sen.brkL (f : Pl → Bool) : List Sen → List Bool
  | [] => []
  | s :: ss => s.brk f :: Sen.brkL f ss
end
def minL : List Nat → Nat
  | [] => 0
  | [a] => a
  | a :: r => min a (minL r)
def maxL : List Nat → Nat
  | [] => 0
  | a :: r => max a (maxL r)
mutual
def Sen.sat (f : Pl → Nat) : Sen → Nat
  | .one p => f p
  | .join true ss => minL (Sen.satL f ss)
  | .join false ss => maxL (Sen.satL f ss)
def Sen.satL (f : Pl → Nat) : List Sen → List Nat
  | [] => []
  | s :: ss => s.sat f :: Sen.satL f ss
end
theorem minL_le {k : Nat} : ∀ {l : List Nat}, l ≠ [] → decide (minL l ≤ k) = (l.map fun x => decide (x ≤ k)).any id
  | [a], _ => by
    show decide (a ≤ k) = (decide (a ≤ k) || false)
    rw [Bool.or_false]
  | a :: b :: r, _ => by
    have ih := minL_le (k := k) (l := b :: r) (by simp)
    rw [minL, List.map_cons, List.any_cons, ← ih]
    · by_cases h1 : a ≤ k
      · have : min a (minL (b :: r)) ≤ k := Nat.le_trans (Nat.min_le_left _ _) h1
        simp [h1, this]
      · by_cases h2 : minL (b :: r) ≤ k
        · have : min a (minL (b :: r)) ≤ k := Nat.le_trans (Nat.min_le_right _ _) h2
          simp [h2, this]
        · have : ¬ min a (minL (b :: r)) ≤ k := by omega
          simp [h1, h2, this]
    · simp
theorem maxL_le {k : Nat} : ∀ {l : List Nat}, decide (maxL l ≤ k) = (l.map fun x => decide (x ≤ k)).all id
  | [] => by simp [maxL]
  | a :: r => by
    have ih := maxL_le (k := k) (l := r)
    rw [maxL, List.map_cons, List.all_cons, ← ih]
    by_cases h1 : a ≤ k
    · by_cases h2 : maxL r ≤ k
      · have : max a (maxL r) ≤ k := Nat.max_le.mpr ⟨h1, h2⟩
        simp [h1, h2, this]
      · have : ¬ max a (maxL r) ≤ k := fun z => h2 (Nat.max_le.mp z).2
        simp [h1, h2, this]
    · have : ¬ max a (maxL r) ≤ k := fun z => h1 (Nat.max_le.mp z).1
      simp [h1, this]
mutual
theorem brk_sat {f : Pl → Bool} {g : Pl → Nat} {k : Nat} (h : ∀ p : Pl, p.ok → f p = decide (g p ≤ k)) : ∀ (s : Sen), s.ok → s.brk f = decide (s.sat g ≤ k)
  | .one p, hs => by rw [Sen.brk, Sen.sat]; exact h p hs
  | .join true ss, hs => by
    rw [Sen.ok] at hs
    rw [Sen.brk, Sen.sat, minL_le, brkL_sat h ss hs.2.2]
    obtain ⟨h1, _⟩ := hs
    cases ss with
    | nil => exact (h1 rfl).elim
    | cons s ss => simp [Sen.satL]
  | .join false ss, hs => by
    rw [Sen.ok] at hs
    rw [Sen.brk, Sen.sat, maxL_le, brkL_sat h ss hs.2.2]
theorem brkL_sat {f : Pl → Bool} {g : Pl → Nat} {k : Nat} (h : ∀ p : Pl, p.ok → f p = decide (g p ≤ k)) : ∀ (ss : List Sen), Sen.okL ss → Sen.brkL f ss = (Sen.satL g ss).map fun x => decide (x ≤ k)
  | [], _ => rfl
  | s :: ss, hs => by
    rw [Sen.okL] at hs
    rw [Sen.brkL, Sen.satL, List.map_cons, brk_sat h s hs.1, brkL_sat h ss hs.2]
end
end Lw
end
section
open PySem L2 Den
namespace Lw
theorem dL_map : ∀ ss : List Sen, Sen.dL ss = ss.map Sen.d
  | [] => rfl
  | s :: ss => by rw [Sen.dL, List.map_cons, dL_map ss]
theorem plainsL_map : ∀ ss : List Sen, Sen.plainsL ss = ss.flatMap Sen.plains
  | [] => rfl
  | s :: ss => by rw [Sen.plainsL, List.flatMap_cons, plainsL_map ss]
theorem brkL_map (f : Pl → Bool) : ∀ ss : List Sen, Sen.brkL f ss = ss.map (Sen.brk f)
  | [] => rfl
  | s :: ss => by rw [Sen.brkL, List.map_cons, brkL_map f ss]
theorem satL_map (f : Pl → Nat) : ∀ ss : List Sen, Sen.satL f ss = ss.map (Sen.sat f)
  | [] => rfl
  | s :: ss => by rw [Sen.satL, List.map_cons, satL_map f ss]
theorem okL_mem : ∀ {ss : List Sen}, Sen.okL ss → ∀ s ∈ ss, s.ok
  | [], _, s, m => by cases m
  | a :: ss, h, s, m => by
    rw [Sen.okL] at h
    rcases List.mem_cons.mp m with rfl | m
    · exact h.1
    · exact okL_mem h.2 s m
theorem dep_mem : ∀ {ss : List Sen} {s : Sen}, s ∈ ss → s.dep ≤ Sen.depL ss
  | a :: ss, s, m => by
    rw [Sen.depL]
    rcases List.mem_cons.mp m with rfl | m
    · exact Nat.le_max_left _ _
    · exact Nat.le_trans (dep_mem m) (Nat.le_max_right _ _)
theorem pl_shape (p : Pl) : ∃ k rest, p.d = .tup (.str k :: rest) ∧ k ≠ "and" ∧ k ≠ "or" := by
  cases p with
  | never r => exact ⟨_, _, rfl, k_never_and, k_never_or⟩
  | «until» a r => exact ⟨_, _, rfl, k_until_and, k_until_or⟩
  | after a b => exact ⟨_, _, rfl, k_after_and, k_after_or⟩
  | turns a b => exact ⟨_, _, rfl, k_turns_and, k_turns_or⟩
  | most n a cs => exact ⟨_, _, rfl, k_most_and, k_most_or⟩
  | within n a b => exact ⟨_, _, rfl, k_within_and, k_within_or⟩
theorem jn_in (k : Bool) : jn k = "and" ∨ jn k = "or" := by cases k <;> simp [jn]
theorem joints : c_JOINTS = tS ["and", "or"] := rfl
theorem lc2L_flat {i j : Nat} {src1 : aI} {ρ : Store} (hi : ρ[i]? = some none) (hj : ρ[j]? = some none) (hij : i ≠ j) : ∀ (ps : List (D × List D)), (∀ p ∈ ps, src1 (ρ.set i (some (.sh p.1))) = .ok p.2 (ρ.set i (some (.sh p.1)))) →
    lc2L [i, j] [j] (aN i) aYes src1 (aN j) aYes (aVar j) (ps.map Prod.fst) ρ = .ok (ps.flatMap Prod.snd) ρ
  | [], _ => rfl
  | p :: ps, h => by
    have li : i < ρ.length := (List.getElem?_eq_some_iff.mp hi).1
    have lj : j < ρ.length := (List.getElem?_eq_some_iff.mp hj).1
    have h1 := h p (by simp)
    have ih := lc2L_flat hi hj hij ps fun q hq => h q (by simp [hq])
    rw [List.map_cons, lc2L, aN_in li]
    simp only [aYes, Res.bind, if_true, h1]
    have hj2 : (ρ.set i (some (O.sh p.1)))[j]? = some none := by rw [List.getElem?_set_ne hij]; exact hj
    have w1 : wipeS (ρ.set i (some (O.sh p.1))) [j] = ρ.set i (some (O.sh p.1)) := set_same hj2
    have z := lcL_map (i := j) (ge := aVar j) (ρ := ρ.set i (some (O.sh p.1))) (ds := p.2) id (by rw [List.length_set]; exact lj) w1 (fun d _ => ⟨.sh d, (ρ.set i (some (O.sh p.1))).set j (some (.sh d)), by
      unfold aVar
      rw [List.getElem?_set_self (by rw [List.length_set]; exact lj)], rfl, by
      show ((ρ.set i (some (O.sh p.1))).set j (some (.sh d))).set j none = _
      rw [List.set_set]
      exact set_same hj2⟩)
    have e : lcL [j] (aN j) (fun ρ => Res.ok true ρ) (aVar j) p.2 (wipeS (ρ.set i (some (O.sh p.1))) [j]) = .ok (p.2.map id) (ρ.set i (some (O.sh p.1))) := by rw [w1]; exact z
    have w2 : wipeS (ρ.set i (some (O.sh p.1))) [i, j] = ρ := by
      show ((ρ.set i (some (O.sh p.1))).set j none).set i none = ρ
      rw [set_same hj2, List.set_set]
      exact set_same hi
    have ih' : lc2L [i, j] [j] (aN i) (fun ρ => Res.ok true ρ) src1 (aN j) (fun ρ => Res.ok true ρ) (aVar j) (ps.map Prod.fst) ρ = .ok (ps.flatMap Prod.snd) ρ := ih
    first
      | (rw [e]; simp only; rw [w2, ih']; simp)
      | (rw [w1, z]; simp only; rw [w2, ih]; simp)
theorem aLc2_flat {src src1 : aI} {i j : Nat} {ρ : Store} (ps : List (D × List D)) (hs : src ρ = .ok (ps.map Prod.fst) ρ) (hi : ρ[i]? = some none) (hj : ρ[j]? = some none) (hij : i ≠ j) (hl : (ps.flatMap Prod.snd).length ≤ 16000000)
    (h : ∀ p ∈ ps, src1 (ρ.set i (some (.sh p.1))) = .ok p.2 (ρ.set i (some (.sh p.1)))) :
    aLc2 src [i, j] [j] (aN i) aYes src1 (aN j) aYes (aVar j) ρ = .ok (.lst ((ps.flatMap Prod.snd).map O.sh)) ρ := by
  have w1 : wipeS ρ [j] = ρ := set_same hj
  have w : wipeS ρ [i, j] = ρ := by
    show (wipeS ρ [j]).set i none = ρ
    rw [w1]
    exact set_same hi
  have r : restS ρ [i, j] ρ = ρ := by
    show ((ρ.set i ((wipeS ρ [j])[i]?).join).set j (ρ[j]?).join) = ρ
    rw [w1, hi, hj]
    simp only [Option.join, Option.bind, id]
    rw [set_same hi, set_same hj]
  unfold aLc2
  rw [hs]
  simp only [Res.bind]
  rw [w, lc2L_flat hi hj hij ps h]
  simp only
  rw [if_pos hl, r]
theorem aLc_pairs {src : aI} {i : Nat} {ge : aE} {ρ0 ρ : Store} (ps : List (D × D)) (hs : src ρ0 = .ok (ps.map Prod.fst) ρ) (hl : ps.length ≤ 16000000) (hi : ρ[i]? = some none)
    (he : ∀ p ∈ ps, ∃ o, ge (ρ.set i (some (.sh p.1))) = .ok o (ρ.set i (some (.sh p.1))) ∧ fz o = p.2) : aLc src [i] (aN i) aYes ge ρ0 = .ok (.lst ((ps.map Prod.snd).map O.sh)) ρ := by
  have w : wipeS ρ [i] = ρ := set_same hi
  have li : i < ρ.length := (List.getElem?_eq_some_iff.mp hi).1
  have key : ∀ qs : List (D × D), (∀ p ∈ qs, p ∈ ps) → lcL [i] (aN i) aYes ge (qs.map Prod.fst) ρ = .ok (qs.map Prod.snd) ρ := by
    intro qs
    induction qs with
    | nil => exact fun _ => rfl
    | cons p qs ih =>
      intro hm
      obtain ⟨o, e1, e2⟩ := he p (hm p (by simp))
      have ih := ih fun q hq => hm q (by simp [hq])
      have w2 : wipeS (ρ.set i (some (O.sh p.1))) [i] = ρ := by
        show (ρ.set i (some (O.sh p.1))).set i none = ρ
        rw [List.set_set]
        exact set_same hi
      rw [List.map_cons, lcL, aN_in li]
      simp only [aYes, Res.bind, if_true, e1]
      rw [w2]
      first
        | (rw [ih]; simp [e2])
        | (have ih' : lcL [i] (aN i) (fun ρ => Res.ok true ρ) ge (qs.map Prod.fst) ρ = .ok (qs.map Prod.snd) ρ := ih
           rw [ih']; simp [e2])
  unfold aLc
  rw [hs]
  simp only [Res.bind]
  rw [if_pos (by rw [List.length_map]; exact hl), w, key ps fun _ h => h]
  simp only [restS, wipeS, hi, Option.join, Option.bind, id]
  rw [set_same hi]
theorem t_plain_of : ∀ (n : Nat) (s : Sen), s.ok → s.dep < n → d_plain_of n [.sh s.d] = .ret (.lst ((s.plains.map Pl.d).map O.sh)) [.sh s.d]
  | 0, s, _, h => by omega
  | n + 1, .one p, _, _ => by
    obtain ⟨k, rest, e, h1, h2⟩ := pl_shape p
    have es : (Sen.one p).d = .tup (.str k :: rest) := by rw [Sen.d, e]
    rw [es]
    unfold d_plain_of b_plain_of
    simp only [aDef, pre, outs, List.map_cons, List.map_nil, List.replicate, List.cons_append, List.nil_append, List.length_cons, List.length_nil, sSeq, sSet, sRet, sRetN, sIf, sDrop, sPar, sAsg, sNext, aB, aC, aVar, aMove, aFz, aTV, aNot, aAnd, aOr, aIfE, aAndV, aOrV, aOp, aSl, aP, evA, rsv, l1, l2, Res.bind, Res.out, List.getElem?_cons_zero, List.getElem?_cons_succ, List.set_cons_zero, List.set_cons_succ, Option.map_some, Option.map_none, fz, shs, if_true, if_false, ite_true, ite_false, Bool.false_eq_true, reduceIte, reduceCtorEq, Nat.reduceAdd, Nat.reduceSub, Nat.reduceLT, Nat.reduceLeDiff, Nat.reduceEqDiff, Bool.not_true, Bool.not_false, Nat.sub_self, Nat.zero_add, and_self, true_and, and_true, Nat.lt_add_one, decide_true, decide_false, decide_eq_true_eq , gSl_tS, gLen_tS, gLen_lS, gTup_str, gIn_tS, gNotIn_tS, gIn_lS, gNotIn_lS, gEq_int, gEq_str, gNe_int, gNe_str, cut_from, cut_to , gTup_str2, gIx_tup, atI_0, atI_1, atI_2, atI_3, gSl_tup, List.mem_cons, List.not_mem_nil, or_false, false_or, true_or, or_true, not_true_eq_false, not_false_eq_true , aCall, tak, giv, List.append_nil, aMeth, k_never_until, k_never_after, k_never_turns, k_never_most, k_never_within, k_never_and, k_never_or, k_until_never, k_until_after, k_until_turns, k_until_most, k_until_within, k_until_and, k_until_or, k_after_never, k_after_until, k_after_turns, k_after_most, k_after_within, k_after_and, k_after_or, k_turns_never, k_turns_until, k_turns_after, k_turns_most, k_turns_within, k_turns_and, k_turns_or, k_most_never, k_most_until, k_most_after, k_most_turns, k_most_within, k_most_and, k_most_or, k_within_never, k_within_until, k_within_after, k_within_turns, k_within_most, k_within_and, k_within_or, k_and_never, k_and_until, k_and_after, k_and_turns, k_and_most, k_and_within, k_and_or, k_or_never, k_or_until, k_or_after, k_or_turns, k_or_most, k_or_within, k_or_and, joints, h1, h2, or_self, gLstS, Sen.plains, e, Nat.reduceLeDiff]
  | n + 1, .join k ss, hs, hd => by
    rw [Sen.ok] at hs
    rw [Sen.dep] at hd
    rw [Sen.d, Sen.plains, dL_map, plainsL_map]
    have e1 : (ss.map fun s => (s.d, s.plains.map Pl.d)).map Prod.fst = ss.map Sen.d := by simp
    have e2 : (ss.map fun s => (s.d, s.plains.map Pl.d)).flatMap Prod.snd = (ss.flatMap Sen.plains).map Pl.d := by
      rw [List.flatMap_map, List.map_flatMap]
    have hlen : ((ss.flatMap Sen.plains).map Pl.d).length ≤ 16000000 := by
      rw [List.length_map, ← plainsL_map]
      have := hs.2.1.2
      omega
    have lc := aLc2_flat (src := aItems (aFz (aOp [.pl 0, .ex (aC (.int 1))] (l2 gIx)))) (i := 1) (j := 2) (src1 := aItems (aFz (aCall 1 [.pl 1] [] (d_plain_of n)))) (ρ := [some (.sh (.tup [.str (jn k), .tup (ss.map Sen.d)])), none, none]) (ss.map fun s => (s.d, s.plains.map Pl.d))
      (by rw [e1]; simp only [aDef, pre, outs, List.map_cons, List.map_nil, List.replicate, List.cons_append, List.nil_append, List.length_cons, List.length_nil, sSeq, sSet, sRet, sRetN, sIf, sDrop, sPar, sAsg, sNext, aB, aC, aVar, aMove, aFz, aTV, aNot, aAnd, aOr, aIfE, aAndV, aOrV, aOp, aSl, aP, evA, rsv, l1, l2, Res.bind, Res.out, List.getElem?_cons_zero, List.getElem?_cons_succ, List.set_cons_zero, List.set_cons_succ, Option.map_some, Option.map_none, fz, shs, if_true, if_false, ite_true, ite_false, Bool.false_eq_true, reduceIte, reduceCtorEq, Nat.reduceAdd, Nat.reduceSub, Nat.reduceLT, Nat.reduceLeDiff, Nat.reduceEqDiff, Bool.not_true, Bool.not_false, Nat.sub_self, Nat.zero_add, and_self, true_and, and_true, Nat.lt_add_one, decide_true, decide_false, decide_eq_true_eq , gSl_tS, gLen_tS, gLen_lS, gTup_str, gIn_tS, gNotIn_tS, gIn_lS, gNotIn_lS, gEq_int, gEq_str, gNe_int, gNe_str, cut_from, cut_to , gTup_str2, gIx_tup, atI_0, atI_1, atI_2, atI_3, gSl_tup, List.mem_cons, List.not_mem_nil, or_false, false_or, true_or, or_true, not_true_eq_false, not_false_eq_true , aCall, tak, giv, List.append_nil, aMeth, k_never_until, k_never_after, k_never_turns, k_never_most, k_never_within, k_never_and, k_never_or, k_until_never, k_until_after, k_until_turns, k_until_most, k_until_within, k_until_and, k_until_or, k_after_never, k_after_until, k_after_turns, k_after_most, k_after_within, k_after_and, k_after_or, k_turns_never, k_turns_until, k_turns_after, k_turns_most, k_turns_within, k_turns_and, k_turns_or, k_most_never, k_most_until, k_most_after, k_most_turns, k_most_within, k_most_and, k_most_or, k_within_never, k_within_until, k_within_after, k_within_turns, k_within_most, k_within_and, k_within_or, k_and_never, k_and_until, k_and_after, k_and_turns, k_and_most, k_and_within, k_and_or, k_or_never, k_or_until, k_or_after, k_or_turns, k_or_most, k_or_within, k_or_and, aItems, itemsD]) rfl rfl (by decide) (by rw [e2]; exact hlen) (fun p hp => by
      obtain ⟨s, hm, rfl⟩ := List.mem_map.mp hp
      have ih := t_plain_of n s (okL_mem hs.2.2 s hm) (by have := dep_mem hm; omega)
      simp only [aDef, pre, outs, List.map_cons, List.map_nil, List.replicate, List.cons_append, List.nil_append, List.length_cons, List.length_nil, sSeq, sSet, sRet, sRetN, sIf, sDrop, sPar, sAsg, sNext, aB, aC, aVar, aMove, aFz, aTV, aNot, aAnd, aOr, aIfE, aAndV, aOrV, aOp, aSl, aP, evA, rsv, l1, l2, Res.bind, Res.out, List.getElem?_cons_zero, List.getElem?_cons_succ, List.set_cons_zero, List.set_cons_succ, Option.map_some, Option.map_none, fz, shs, if_true, if_false, ite_true, ite_false, Bool.false_eq_true, reduceIte, reduceCtorEq, Nat.reduceAdd, Nat.reduceSub, Nat.reduceLT, Nat.reduceLeDiff, Nat.reduceEqDiff, Bool.not_true, Bool.not_false, Nat.sub_self, Nat.zero_add, and_self, true_and, and_true, Nat.lt_add_one, decide_true, decide_false, decide_eq_true_eq , gSl_tS, gLen_tS, gLen_lS, gTup_str, gIn_tS, gNotIn_tS, gIn_lS, gNotIn_lS, gEq_int, gEq_str, gNe_int, gNe_str, cut_from, cut_to , gTup_str2, gIx_tup, atI_0, atI_1, atI_2, atI_3, gSl_tup, List.mem_cons, List.not_mem_nil, or_false, false_or, true_or, or_true, not_true_eq_false, not_false_eq_true , aCall, tak, giv, List.append_nil, aMeth, k_never_until, k_never_after, k_never_turns, k_never_most, k_never_within, k_never_and, k_never_or, k_until_never, k_until_after, k_until_turns, k_until_most, k_until_within, k_until_and, k_until_or, k_after_never, k_after_until, k_after_turns, k_after_most, k_after_within, k_after_and, k_after_or, k_turns_never, k_turns_until, k_turns_after, k_turns_most, k_turns_within, k_turns_and, k_turns_or, k_most_never, k_most_until, k_most_after, k_most_turns, k_most_within, k_most_and, k_most_or, k_within_never, k_within_until, k_within_after, k_within_turns, k_within_most, k_within_and, k_within_or, k_and_never, k_and_until, k_and_after, k_and_turns, k_and_most, k_and_within, k_and_or, k_or_never, k_or_until, k_or_after, k_or_turns, k_or_most, k_or_within, k_or_and, aItems, ih, fzL_sh, itemsD])
    rw [e2] at lc
    unfold d_plain_of b_plain_of
    have hj := jn_in k
    simp only [aDef, pre, outs, List.map_cons, List.map_nil, List.replicate, List.cons_append, List.nil_append, List.length_cons, List.length_nil, sSeq, sSet, sRet, sRetN, sIf, sDrop, sPar, sAsg, sNext, aB, aC, aVar, aMove, aFz, aTV, aNot, aAnd, aOr, aIfE, aAndV, aOrV, aOp, aSl, aP, evA, rsv, l1, l2, Res.bind, Res.out, List.getElem?_cons_zero, List.getElem?_cons_succ, List.set_cons_zero, List.set_cons_succ, Option.map_some, Option.map_none, fz, shs, if_true, if_false, ite_true, ite_false, Bool.false_eq_true, reduceIte, reduceCtorEq, Nat.reduceAdd, Nat.reduceSub, Nat.reduceLT, Nat.reduceLeDiff, Nat.reduceEqDiff, Bool.not_true, Bool.not_false, Nat.sub_self, Nat.zero_add, and_self, true_and, and_true, Nat.lt_add_one, decide_true, decide_false, decide_eq_true_eq , gSl_tS, gLen_tS, gLen_lS, gTup_str, gIn_tS, gNotIn_tS, gIn_lS, gNotIn_lS, gEq_int, gEq_str, gNe_int, gNe_str, cut_from, cut_to , gTup_str2, gIx_tup, atI_0, atI_1, atI_2, atI_3, gSl_tup, List.mem_cons, List.not_mem_nil, or_false, false_or, true_or, or_true, not_true_eq_false, not_false_eq_true , aCall, tak, giv, List.append_nil, aMeth, k_never_until, k_never_after, k_never_turns, k_never_most, k_never_within, k_never_and, k_never_or, k_until_never, k_until_after, k_until_turns, k_until_most, k_until_within, k_until_and, k_until_or, k_after_never, k_after_until, k_after_turns, k_after_most, k_after_within, k_after_and, k_after_or, k_turns_never, k_turns_until, k_turns_after, k_turns_most, k_turns_within, k_turns_and, k_turns_or, k_most_never, k_most_until, k_most_after, k_most_turns, k_most_within, k_most_and, k_most_or, k_within_never, k_within_until, k_within_after, k_within_turns, k_within_most, k_within_and, k_within_or, k_and_never, k_and_until, k_and_after, k_and_turns, k_and_most, k_and_within, k_and_or, k_or_never, k_or_until, k_or_after, k_or_turns, k_or_most, k_or_within, k_or_and, joints, hj, lc]
theorem kind_oI (xs : List Int) : kindO (oI xs) = "list" := rfl
theorem pop_oI (x : Int) (xs : List Int) : fPopAt (oI (x :: xs)) [.sh (.int 0)] = some (oI xs, .sh (.int x)) := by
  simp [fPopAt, oI, seqIndex?]
theorem gAny_bl (bs : List Bool) : gAny (.lst ((bs.map D.bl).map O.sh)) = some (.sh (.bl (bs.any id))) := by
  have h : lstD (.lst ((bs.map D.bl).map O.sh)) = some (bs.map D.bl) := shs_map _
  unfold gAny onBools
  rw [h]
  simp only [boolsD_map]
theorem gAll_bl (bs : List Bool) : gAll (.lst ((bs.map D.bl).map O.sh)) = some (.sh (.bl (bs.all id))) := by
  have h : lstD (.lst ((bs.map D.bl).map O.sh)) = some (bs.map D.bl) := shs_map _
  unfold gAll onBools
  rw [h]
  simp only [boolsD_map]
theorem t_breaks (g : Pl → Int) : ∀ (n : Nat) (s : Sen), s.ok → s.dep < n → ∀ rest : List Int, d_breaks n [.sh s.d, oI (s.plains.map g ++ rest)] = .ret (.sh (.bl (s.brk fun p => decide (g p = endm p)))) [.sh s.d, oI rest]
  | 0, s, _, h, _ => by omega
  | n + 1, .one p, _, _, rest => by
    obtain ⟨k, r, e, h1, h2⟩ := pl_shape p
    have ee := t_end p
    have es : (Sen.one p).d = .tup (.str k :: r) := by rw [Sen.d, e]
    rw [es]
    rw [e] at ee
    have ek := kind_oI (g p :: rest)
    have ep := pop_oI (g p) rest
    unfold d_breaks b_breaks
    simp only [Sen.plains, Sen.brk, List.map_cons, List.map_nil, List.singleton_append]
    simp only [aDef, pre, outs, List.map_cons, List.map_nil, List.replicate, List.cons_append, List.nil_append, List.length_cons, List.length_nil, sSeq, sSet, sRet, sRetN, sIf, sDrop, sPar, sAsg, sNext, aB, aC, aVar, aMove, aFz, aTV, aNot, aAnd, aOr, aIfE, aAndV, aOrV, aOp, aSl, aP, evA, rsv, l1, l2, Res.bind, Res.out, List.getElem?_cons_zero, List.getElem?_cons_succ, List.set_cons_zero, List.set_cons_succ, Option.map_some, Option.map_none, fz, shs, if_true, if_false, ite_true, ite_false, Bool.false_eq_true, reduceIte, reduceCtorEq, Nat.reduceAdd, Nat.reduceSub, Nat.reduceLT, Nat.reduceLeDiff, Nat.reduceEqDiff, Bool.not_true, Bool.not_false, Nat.sub_self, Nat.zero_add, and_self, true_and, and_true, Nat.lt_add_one, decide_true, decide_false, decide_eq_true_eq , gSl_tS, gLen_tS, gLen_lS, gTup_str, gIn_tS, gNotIn_tS, gIn_lS, gNotIn_lS, gEq_int, gEq_str, gNe_int, gNe_str, cut_from, cut_to , gTup_str2, gIx_tup, atI_0, atI_1, atI_2, atI_3, gSl_tup, List.mem_cons, List.not_mem_nil, or_false, false_or, true_or, or_true, not_true_eq_false, not_false_eq_true , aCall, tak, giv, List.append_nil, aMeth, k_never_until, k_never_after, k_never_turns, k_never_most, k_never_within, k_never_and, k_never_or, k_until_never, k_until_after, k_until_turns, k_until_most, k_until_within, k_until_and, k_until_or, k_after_never, k_after_until, k_after_turns, k_after_most, k_after_within, k_after_and, k_after_or, k_turns_never, k_turns_until, k_turns_after, k_turns_most, k_turns_within, k_turns_and, k_turns_or, k_most_never, k_most_until, k_most_after, k_most_turns, k_most_within, k_most_and, k_most_or, k_within_never, k_within_until, k_within_after, k_within_turns, k_within_most, k_within_and, k_within_or, k_and_never, k_and_until, k_and_after, k_and_turns, k_and_most, k_and_within, k_and_or, k_or_never, k_or_until, k_or_after, k_or_turns, k_or_most, k_or_within, k_or_and, joints, h1, h2, or_self, ek, ep, ee]
  | n + 1, .join k ss, hs, hd, rest => by
    rw [Sen.ok] at hs
    rw [Sen.dep] at hd
    rw [Sen.d, Sen.plains, dL_map, plainsL_map]
    obtain ⟨X, hX⟩ : ∃ X, X = D.tup [.str (jn k), .tup (ss.map Sen.d)] := ⟨_, rfl⟩
    have key : ∀ qs : List Sen, (∀ s ∈ qs, s ∈ ss) → lcL [3] (aN 3) aYes (aCall 2 [.pl 3, .pl 1] [] (d_breaks n)) (qs.map Sen.d) [some (.sh X), some (oI ((qs.flatMap Sen.plains).map g ++ rest)), none, none] =
        .ok ((qs.map (Sen.brk fun p => decide (g p = endm p))).map D.bl) [some (.sh X), some (oI rest), none, none] := by
      intro qs
      induction qs with
      | nil => exact fun _ => rfl
      | cons s qs ih =>
        intro hm
        have hms := hm s (by simp)
        have e := t_breaks g n s (okL_mem hs.2.2 s hms) (by have := dep_mem hms; omega) ((qs.flatMap Sen.plains).map g ++ rest)
        have ih := ih fun q hq => hm q (by simp [hq])
        rw [List.map_cons, List.flatMap_cons, List.map_append, List.append_assoc, lcL, aN_in (by simp)]
        have ec : aCall 2 [.pl 3, .pl 1] [] (d_breaks n) [some (.sh X), some (oI (s.plains.map g ++ ((qs.flatMap Sen.plains).map g ++ rest))), none, some (.sh s.d)] =
            .ok (.sh (.bl (s.brk fun p => decide (g p = endm p)))) [some (.sh X), some (oI ((qs.flatMap Sen.plains).map g ++ rest)), none, some (.sh s.d)] := by
          unfold oI at e ⊢
          simp only [aDef, pre, outs, List.map_cons, List.map_nil, List.replicate, List.cons_append, List.nil_append, List.length_cons, List.length_nil, sSeq, sSet, sRet, sRetN, sIf, sDrop, sPar, sAsg, sNext, aB, aC, aVar, aMove, aFz, aTV, aNot, aAnd, aOr, aIfE, aAndV, aOrV, aOp, aSl, aP, evA, rsv, l1, l2, Res.bind, Res.out, List.getElem?_cons_zero, List.getElem?_cons_succ, List.set_cons_zero, List.set_cons_succ, Option.map_some, Option.map_none, fz, shs, if_true, if_false, ite_true, ite_false, Bool.false_eq_true, reduceIte, reduceCtorEq, Nat.reduceAdd, Nat.reduceSub, Nat.reduceLT, Nat.reduceLeDiff, Nat.reduceEqDiff, Bool.not_true, Bool.not_false, Nat.sub_self, Nat.zero_add, and_self, true_and, and_true, Nat.lt_add_one, decide_true, decide_false, decide_eq_true_eq , gSl_tS, gLen_tS, gLen_lS, gTup_str, gIn_tS, gNotIn_tS, gIn_lS, gNotIn_lS, gEq_int, gEq_str, gNe_int, gNe_str, cut_from, cut_to , gTup_str2, gIx_tup, atI_0, atI_1, atI_2, atI_3, gSl_tup, List.mem_cons, List.not_mem_nil, or_false, false_or, true_or, or_true, not_true_eq_false, not_false_eq_true , aCall, tak, giv, List.append_nil, aMeth, k_never_until, k_never_after, k_never_turns, k_never_most, k_never_within, k_never_and, k_never_or, k_until_never, k_until_after, k_until_turns, k_until_most, k_until_within, k_until_and, k_until_or, k_after_never, k_after_until, k_after_turns, k_after_most, k_after_within, k_after_and, k_after_or, k_turns_never, k_turns_until, k_turns_after, k_turns_most, k_turns_within, k_turns_and, k_turns_or, k_most_never, k_most_until, k_most_after, k_most_turns, k_most_within, k_most_and, k_most_or, k_within_never, k_within_until, k_within_after, k_within_turns, k_within_most, k_within_and, k_within_or, k_and_never, k_and_until, k_and_after, k_and_turns, k_and_most, k_and_within, k_and_or, k_or_never, k_or_until, k_or_after, k_or_turns, k_or_most, k_or_within, k_or_and, e]
        simp only [List.set_cons_succ, List.set_cons_zero, aYes, Res.bind, if_true, ec, wipeS]
        first
          | (rw [ih]; simp [fz])
          | (have ih' : lcL [3] (aN 3) (fun ρ => Res.ok true ρ) (aCall 2 [.pl 3, .pl 1] [] (d_breaks n)) (qs.map Sen.d) [some (.sh X), some (oI ((qs.flatMap Sen.plains).map g ++ rest)), none, none] = _ := ih
             rw [ih']; simp [fz])
    have lc : aLc (aItems (aFz (aOp [.pl 0, .ex (aC (.int 1))] (l2 gIx)))) [3] (aN 3) aYes (aCall 2 [.pl 3, .pl 1] [] (d_breaks n)) [some (.sh X), some (oI ((ss.flatMap Sen.plains).map g ++ rest)), none, none] =
        .ok (.lst (((ss.map (Sen.brk fun p => decide (g p = endm p))).map D.bl).map O.sh)) [some (.sh X), some (oI rest), none, none] := by
      have es : aItems (aFz (aOp [.pl 0, .ex (aC (.int 1))] (l2 gIx))) [some (.sh X), some (oI ((ss.flatMap Sen.plains).map g ++ rest)), none, none] = .ok (ss.map Sen.d) [some (.sh X), some (oI ((ss.flatMap Sen.plains).map g ++ rest)), none, none] := by
        rw [hX]
        simp only [aDef, pre, outs, List.map_cons, List.map_nil, List.replicate, List.cons_append, List.nil_append, List.length_cons, List.length_nil, sSeq, sSet, sRet, sRetN, sIf, sDrop, sPar, sAsg, sNext, aB, aC, aVar, aMove, aFz, aTV, aNot, aAnd, aOr, aIfE, aAndV, aOrV, aOp, aSl, aP, evA, rsv, l1, l2, Res.bind, Res.out, List.getElem?_cons_zero, List.getElem?_cons_succ, List.set_cons_zero, List.set_cons_succ, Option.map_some, Option.map_none, fz, shs, if_true, if_false, ite_true, ite_false, Bool.false_eq_true, reduceIte, reduceCtorEq, Nat.reduceAdd, Nat.reduceSub, Nat.reduceLT, Nat.reduceLeDiff, Nat.reduceEqDiff, Bool.not_true, Bool.not_false, Nat.sub_self, Nat.zero_add, and_self, true_and, and_true, Nat.lt_add_one, decide_true, decide_false, decide_eq_true_eq , gSl_tS, gLen_tS, gLen_lS, gTup_str, gIn_tS, gNotIn_tS, gIn_lS, gNotIn_lS, gEq_int, gEq_str, gNe_int, gNe_str, cut_from, cut_to , gTup_str2, gIx_tup, atI_0, atI_1, atI_2, atI_3, gSl_tup, List.mem_cons, List.not_mem_nil, or_false, false_or, true_or, or_true, not_true_eq_false, not_false_eq_true , aCall, tak, giv, List.append_nil, aMeth, k_never_until, k_never_after, k_never_turns, k_never_most, k_never_within, k_never_and, k_never_or, k_until_never, k_until_after, k_until_turns, k_until_most, k_until_within, k_until_and, k_until_or, k_after_never, k_after_until, k_after_turns, k_after_most, k_after_within, k_after_and, k_after_or, k_turns_never, k_turns_until, k_turns_after, k_turns_most, k_turns_within, k_turns_and, k_turns_or, k_most_never, k_most_until, k_most_after, k_most_turns, k_most_within, k_most_and, k_most_or, k_within_never, k_within_until, k_within_after, k_within_turns, k_within_most, k_within_and, k_within_or, k_and_never, k_and_until, k_and_after, k_and_turns, k_and_most, k_and_within, k_and_or, k_or_never, k_or_until, k_or_after, k_or_turns, k_or_most, k_or_within, k_or_and, aItems, itemsD]
      unfold aLc
      rw [es]
      simp only [Res.bind]
      rw [if_pos (by rw [List.length_map]; have := hs.2.1.1; omega)]
      have w : wipeS [some (.sh X), some (oI ((ss.flatMap Sen.plains).map g ++ rest)), none, none] [3] = [some (.sh X), some (oI ((ss.flatMap Sen.plains).map g ++ rest)), none, none] := rfl
      rw [w, key ss fun _ h => h]
      rfl
    rw [← hX]
    have g0 : gIx (.sh X) (.sh (.int 0)) = some (.sh (.str (jn k))) := by rw [hX]; rfl
    unfold d_breaks b_breaks
    cases k with
    | true =>
      have j1 : jn true = "and" := rfl
      rw [j1] at g0
      simp only [aDef, pre, outs, List.map_cons, List.map_nil, List.replicate, List.cons_append, List.nil_append, List.length_cons, List.length_nil, sSeq, sSet, sRet, sRetN, sIf, sDrop, sPar, sAsg, sNext, aB, aC, aVar, aMove, aFz, aTV, aNot, aAnd, aOr, aIfE, aAndV, aOrV, aOp, aSl, aP, evA, rsv, l1, l2, Res.bind, Res.out, List.getElem?_cons_zero, List.getElem?_cons_succ, List.set_cons_zero, List.set_cons_succ, Option.map_some, Option.map_none, fz, shs, if_true, if_false, ite_true, ite_false, Bool.false_eq_true, reduceIte, reduceCtorEq, Nat.reduceAdd, Nat.reduceSub, Nat.reduceLT, Nat.reduceLeDiff, Nat.reduceEqDiff, Bool.not_true, Bool.not_false, Nat.sub_self, Nat.zero_add, and_self, true_and, and_true, Nat.lt_add_one, decide_true, decide_false, decide_eq_true_eq , gSl_tS, gLen_tS, gLen_lS, gTup_str, gIn_tS, gNotIn_tS, gIn_lS, gNotIn_lS, gEq_int, gEq_str, gNe_int, gNe_str, cut_from, cut_to , gTup_str2, gIx_tup, atI_0, atI_1, atI_2, atI_3, gSl_tup, List.mem_cons, List.not_mem_nil, or_false, false_or, true_or, or_true, not_true_eq_false, not_false_eq_true , aCall, tak, giv, List.append_nil, aMeth, k_never_until, k_never_after, k_never_turns, k_never_most, k_never_within, k_never_and, k_never_or, k_until_never, k_until_after, k_until_turns, k_until_most, k_until_within, k_until_and, k_until_or, k_after_never, k_after_until, k_after_turns, k_after_most, k_after_within, k_after_and, k_after_or, k_turns_never, k_turns_until, k_turns_after, k_turns_most, k_turns_within, k_turns_and, k_turns_or, k_most_never, k_most_until, k_most_after, k_most_turns, k_most_within, k_most_and, k_most_or, k_within_never, k_within_until, k_within_after, k_within_turns, k_within_most, k_within_and, k_within_or, k_and_never, k_and_until, k_and_after, k_and_turns, k_and_most, k_and_within, k_and_or, k_or_never, k_or_until, k_or_after, k_or_turns, k_or_most, k_or_within, k_or_and, joints, g0, lc, gAny_bl, Sen.brk, brkL_map]
    | false =>
      have j1 : jn false = "or" := rfl
      rw [j1] at g0
      simp only [aDef, pre, outs, List.map_cons, List.map_nil, List.replicate, List.cons_append, List.nil_append, List.length_cons, List.length_nil, sSeq, sSet, sRet, sRetN, sIf, sDrop, sPar, sAsg, sNext, aB, aC, aVar, aMove, aFz, aTV, aNot, aAnd, aOr, aIfE, aAndV, aOrV, aOp, aSl, aP, evA, rsv, l1, l2, Res.bind, Res.out, List.getElem?_cons_zero, List.getElem?_cons_succ, List.set_cons_zero, List.set_cons_succ, Option.map_some, Option.map_none, fz, shs, if_true, if_false, ite_true, ite_false, Bool.false_eq_true, reduceIte, reduceCtorEq, Nat.reduceAdd, Nat.reduceSub, Nat.reduceLT, Nat.reduceLeDiff, Nat.reduceEqDiff, Bool.not_true, Bool.not_false, Nat.sub_self, Nat.zero_add, and_self, true_and, and_true, Nat.lt_add_one, decide_true, decide_false, decide_eq_true_eq , gSl_tS, gLen_tS, gLen_lS, gTup_str, gIn_tS, gNotIn_tS, gIn_lS, gNotIn_lS, gEq_int, gEq_str, gNe_int, gNe_str, cut_from, cut_to , gTup_str2, gIx_tup, atI_0, atI_1, atI_2, atI_3, gSl_tup, List.mem_cons, List.not_mem_nil, or_false, false_or, true_or, or_true, not_true_eq_false, not_false_eq_true , aCall, tak, giv, List.append_nil, aMeth, k_never_until, k_never_after, k_never_turns, k_never_most, k_never_within, k_never_and, k_never_or, k_until_never, k_until_after, k_until_turns, k_until_most, k_until_within, k_until_and, k_until_or, k_after_never, k_after_until, k_after_turns, k_after_most, k_after_within, k_after_and, k_after_or, k_turns_never, k_turns_until, k_turns_after, k_turns_most, k_turns_within, k_turns_and, k_turns_or, k_most_never, k_most_until, k_most_after, k_most_turns, k_most_within, k_most_and, k_most_or, k_within_never, k_within_until, k_within_after, k_within_turns, k_within_most, k_within_and, k_within_or, k_and_never, k_and_until, k_and_after, k_and_turns, k_and_most, k_and_within, k_and_or, k_or_never, k_or_until, k_or_after, k_or_turns, k_or_most, k_or_within, k_or_and, joints, g0, lc, gAll_bl, Sen.brk, brkL_map]
end Lw
end
section
open PySem L2 Den
namespace Lw
theorem minL_mem : ∀ {l : List Nat}, l ≠ [] → minL l ∈ l
  | [a], _ => by simp [minL]
  | a :: b :: r, _ => by
    have ih := minL_mem (l := b :: r) (by simp)
    rw [minL]
    · rcases Nat.le_total a (minL (b :: r)) with h | h
      · rw [Nat.min_eq_left h]; simp
      · rw [Nat.min_eq_right h]; exact List.mem_cons_of_mem _ ih
    · simp
theorem minL_lb : ∀ {l : List Nat} {x : Nat}, x ∈ l → minL l ≤ x
  | [a], x, h => by simp at h; simp [minL, h]
  | a :: b :: r, x, h => by
    rw [minL]
    · rcases List.mem_cons.mp h with rfl | h
      · exact Nat.min_le_left _ _
      · exact Nat.le_trans (Nat.min_le_right _ _) (minL_lb h)
    · simp
theorem maxL_mem : ∀ {l : List Nat}, l ≠ [] → maxL l ∈ l
  | a :: r, _ => by
    rw [maxL]
    cases r with
    | nil => simp [maxL]
    | cons b r =>
      have ih := maxL_mem (l := b :: r) (by simp)
      rcases Nat.le_total a (maxL (b :: r)) with h | h
      · rw [Nat.max_eq_right h]; exact List.mem_cons_of_mem _ ih
      · rw [Nat.max_eq_left h]; simp
theorem maxL_ub : ∀ {l : List Nat} {x : Nat}, x ∈ l → x ≤ maxL l
  | a :: r, x, h => by
    rw [maxL]
    rcases List.mem_cons.mp h with rfl | h
    · exact Nat.le_max_left _ _
    · exact Nat.le_trans (maxL_ub h) (Nat.le_max_right _ _)
theorem min_cast {l : List Nat} (h : l ≠ []) : (l.map fun n : Nat => (n : Int)).min? = some ((minL l : Nat) : Int) := by
  rw [List.min?_eq_some_iff]
  refine ⟨List.mem_map_of_mem (minL_mem h), fun b hb => ?_⟩
  obtain ⟨x, hx, rfl⟩ := List.mem_map.mp hb
  have := minL_lb hx
  omega
theorem max_cast {l : List Nat} (h : l ≠ []) : (l.map fun n : Nat => (n : Int)).max? = some ((maxL l : Nat) : Int) := by
  rw [List.max?_eq_some_iff]
  refine ⟨List.mem_map_of_mem (maxL_mem h), fun b hb => ?_⟩
  obtain ⟨x, hx, rfl⟩ := List.mem_map.mp hb
  have := maxL_ub hx
  omega
theorem gMinL_oI {l : List Nat} (h : l ≠ []) : gMinL (oI (l.map fun n : Nat => (n : Int))) = some (.sh (.int (minL l : Nat))) := by
  unfold gMinL onInts
  rw [lstD_oI]
  simp only [intsD_map, min_cast h, Option.map_some]
theorem gMaxL_oI {l : List Nat} (h : l ≠ []) : gMaxL (oI (l.map fun n : Nat => (n : Int))) = some (.sh (.int (maxL l : Nat))) := by
  unfold gMaxL onInts
  rw [lstD_oI]
  simp only [intsD_map, max_cast h, Option.map_some]
theorem gLstS_two (a b : Str) : gLstS [.sh (.str a), .sh (.str b)] = some (oS [a, b]) := by simp [gLstS, shs, oS]
theorem seq_ret {p : aT} {g h : aS} {ρ ρ' ρ2 : Store} {o : O} (hp : p ρ = .ok true ρ') (hg : g ρ' = .ret o ρ2) : sSeq (sIf p g sNext) h ρ = .ret o ρ2 := by
  unfold sSeq sIf
  simp only [hp, Res.out, if_true, hg]
theorem seq_skip {p : aT} {g h : aS} {ρ ρ' : Store} (hp : p ρ = .ok false ρ') : sSeq (sIf p g sNext) h ρ = h ρ' := by
  unfold sSeq sIf sNext
  simp only [hp, Res.out, Bool.false_eq_true, if_false]
theorem seq_nx {g h : aS} {ρ ρ' : Store} (hg : g ρ = .nx ρ') : sSeq g h ρ = h ρ' := by
  unfold sSeq
  simp only [hg]
theorem def_ret {pb : List Bool} {m : Nat} {body : aS} {os os' : List O} {o : O} {ρ : Store} (hl : os.length = pb.length) (hb : body ((pre pb os).map some ++ List.replicate (m - pb.length) none) = .ret o ρ) (ho : outs pb os ρ = some os') : aDef pb m body os = .ret o os' := by
  unfold aDef
  rw [if_pos hl, hb]
  simp only [ho]
theorem call2_sh {F : aF} {a b : D} {o : O} {rest : Store} (h : F [.sh a, .sh b] = .ret o [.sh a, .sh b]) : aCall 2 [.pl 0, .pl 1] [] F (some (.sh a) :: some (.sh b) :: rest) = .ok o (some (.sh a) :: some (.sh b) :: rest) := by
  simp [aCall, evA, Res.bind, tak, giv, h]
theorem ret_ok {g : aE} {ρ ρ' : Store} {o : O} (h : g ρ = .ok o ρ') : sRet g ρ = .ret o ρ' := by
  unfold sRet
  rw [h]
  rfl
theorem set_ok {g : aE} {ρ ρ' : Store} {o : O} {i : Nat} (h : g ρ = .ok o ρ') (hi : i < ρ'.length) : sSet i g ρ = .nx (ρ'.set i (some o)) := by
  unfold sSet
  rw [h]
  simp only [Res.out]
  rw [if_pos hi]
theorem aOp_lit2 {g : List O → Option O} {a b : D} {w : O} (h : g [.sh a, .sh b] = some w) : aOp [.ex (aC a), .ex (aC b)] g = fun ρ => .ok w ρ := by
  funext ρ
  simp [aOp, evA, aC, Res.bind, rsv, h]
theorem gNotIn_oS (c : Str) (xs : List Str) : gNotIn (.sh (.str c)) (oS xs) = some (.sh (.bl (!decide (c ∈ xs)))) := by
  have e := inG_lS c xs
  have : inG (.sh (.str c)) (oS xs) = some (decide (c ∈ xs)) := by
    unfold inG
    simp only [dicD, seqD, fz_oS, lS, fz, flat_strs, flatD, inF_strs, and_self, if_true]
    split
    · rename_i h; cases h
    · simp only [dicD, seqD, fz_oS, lS, fz, flat_strs, flatD, inF_strs, and_self, if_true]
  simp [gNotIn, this]
section
variable {w : List Str} {f : Pl → Nat} (hf : ∀ p : Pl, p.ok → d__law_plain_at [.sh p.d, .sh (tS w)] = .ret (.sh (.int (f p))) [.sh p.d, .sh (tS w)])
include hf
theorem t_sentence_at : ∀ (n : Nat) (s : Sen), s.ok → s.dep < n → d__law_sentence_at n [.sh s.d, .sh (tS w)] = .ret (.sh (.int (s.sat f))) [.sh s.d, .sh (tS w)]
  | 0, s, _, h => by omega
  | n + 1, .one p, hs, _ => by
    obtain ⟨k, r, e, h1, h2⟩ := pl_shape p
    have ee := hf p hs
    have es : (Sen.one p).d = .tup (.str k :: r) := by rw [Sen.d, e]
    rw [es]
    rw [e] at ee
    unfold d__law_sentence_at b__law_sentence_at
    clear hf
    generalize d__law_plain_at = F at ee ⊢
    rw [aOp_lit2 (gLstS_two "and" "or")]
    have hN := fun c => gNotIn_oS c ["and", "or"]
    generalize oS ["and", "or"] = L at hN ⊢
    refine def_ret (ρ := [some (.sh (.tup (.str k :: r))), some (.sh (tS w)), none, none]) rfl (seq_ret (ρ' := [some (.sh (.tup (.str k :: r))), some (.sh (tS w)), none, none]) ?_ ?_) rfl
    · simp only [List.map_cons, List.map_nil, List.length_cons, List.length_nil, List.replicate, List.cons_append, List.nil_append, pre, if_true, Nat.reduceAdd, Nat.reduceSub]
      simp only [aDef, pre, outs, List.map_cons, List.map_nil, List.replicate, List.cons_append, List.nil_append, List.length_cons, List.length_nil, sSeq, sSet, sRet, sRetN, sIf, sDrop, sPar, sAsg, sNext, aB, aC, aVar, aMove, aFz, aTV, aNot, aAnd, aOr, aIfE, aAndV, aOrV, aOp, aSl, aP, evA, rsv, l1, l2, Res.bind, Res.out, List.getElem?_cons_zero, List.getElem?_cons_succ, List.set_cons_zero, List.set_cons_succ, Option.map_some, Option.map_none, fz, shs, if_true, if_false, ite_true, ite_false, Bool.false_eq_true, reduceIte, reduceCtorEq, Nat.reduceAdd, Nat.reduceSub, Nat.reduceLT, Nat.reduceLeDiff, Nat.reduceEqDiff, Bool.not_true, Bool.not_false, Nat.sub_self, Nat.zero_add, and_self, true_and, and_true, Nat.lt_add_one, decide_true, decide_false, decide_eq_true_eq , gSl_tS, gLen_tS, gLen_lS, gTup_str, gIn_tS, gNotIn_tS, gIn_lS, gNotIn_lS, gEq_int, gEq_str, gNe_int, gNe_str, cut_from, cut_to , gTup_str2, gIx_tup, atI_0, atI_1, atI_2, atI_3, gSl_tup, List.mem_cons, List.not_mem_nil, or_false, false_or, true_or, or_true, not_true_eq_false, not_false_eq_true , aCall, tak, giv, List.append_nil, aMeth, k_never_until, k_never_after, k_never_turns, k_never_most, k_never_within, k_never_and, k_never_or, k_until_never, k_until_after, k_until_turns, k_until_most, k_until_within, k_until_and, k_until_or, k_after_never, k_after_until, k_after_turns, k_after_most, k_after_within, k_after_and, k_after_or, k_turns_never, k_turns_until, k_turns_after, k_turns_most, k_turns_within, k_turns_and, k_turns_or, k_most_never, k_most_until, k_most_after, k_most_turns, k_most_within, k_most_and, k_most_or, k_within_never, k_within_until, k_within_after, k_within_turns, k_within_most, k_within_and, k_within_or, k_and_never, k_and_until, k_and_after, k_and_turns, k_and_most, k_and_within, k_and_or, k_or_never, k_or_until, k_or_after, k_or_turns, k_or_most, k_or_within, k_or_and, hN, h1, h2, or_self]
    · rw [Sen.sat]
      exact ret_ok (call2_sh ee)
  | n + 1, .join k ss, hs, hd => by
    rw [Sen.ok] at hs
    rw [Sen.dep] at hd
    rw [Sen.d, dL_map]
    obtain ⟨X, hX⟩ : ∃ X, X = D.tup [.str (jn k), .tup (ss.map Sen.d)] := ⟨_, rfl⟩
    have e1 : (ss.map fun s => (s.d, D.int (s.sat f))).map Prod.fst = ss.map Sen.d := by simp
    have e2 : ((ss.map fun s => (s.d, D.int (s.sat f))).map Prod.snd) = (((ss.map (Sen.sat f)).map fun n : Nat => (n : Int)).map D.int) := by simp
    have lc := aLc_pairs (src := aItems (aFz (aOp [.pl 0, .ex (aC (.int 1))] (l2 gIx)))) (i := 3) (ge := aCall 2 [.pl 3, .pl 1] [] (d__law_sentence_at n)) (ρ0 := [some (.sh X), some (.sh (tS w)), none, none]) (ρ := [some (.sh X), some (.sh (tS w)), none, none]) (ss.map fun s => (s.d, D.int (s.sat f)))
      (by rw [e1, hX]; simp only [aDef, pre, outs, List.map_cons, List.map_nil, List.replicate, List.cons_append, List.nil_append, List.length_cons, List.length_nil, sSeq, sSet, sRet, sRetN, sIf, sDrop, sPar, sAsg, sNext, aB, aC, aVar, aMove, aFz, aTV, aNot, aAnd, aOr, aIfE, aAndV, aOrV, aOp, aSl, aP, evA, rsv, l1, l2, Res.bind, Res.out, List.getElem?_cons_zero, List.getElem?_cons_succ, List.set_cons_zero, List.set_cons_succ, Option.map_some, Option.map_none, fz, shs, if_true, if_false, ite_true, ite_false, Bool.false_eq_true, reduceIte, reduceCtorEq, Nat.reduceAdd, Nat.reduceSub, Nat.reduceLT, Nat.reduceLeDiff, Nat.reduceEqDiff, Bool.not_true, Bool.not_false, Nat.sub_self, Nat.zero_add, and_self, true_and, and_true, Nat.lt_add_one, decide_true, decide_false, decide_eq_true_eq , gSl_tS, gLen_tS, gLen_lS, gTup_str, gIn_tS, gNotIn_tS, gIn_lS, gNotIn_lS, gEq_int, gEq_str, gNe_int, gNe_str, cut_from, cut_to , gTup_str2, gIx_tup, atI_0, atI_1, atI_2, atI_3, gSl_tup, List.mem_cons, List.not_mem_nil, or_false, false_or, true_or, or_true, not_true_eq_false, not_false_eq_true , aCall, tak, giv, List.append_nil, aMeth, k_never_until, k_never_after, k_never_turns, k_never_most, k_never_within, k_never_and, k_never_or, k_until_never, k_until_after, k_until_turns, k_until_most, k_until_within, k_until_and, k_until_or, k_after_never, k_after_until, k_after_turns, k_after_most, k_after_within, k_after_and, k_after_or, k_turns_never, k_turns_until, k_turns_after, k_turns_most, k_turns_within, k_turns_and, k_turns_or, k_most_never, k_most_until, k_most_after, k_most_turns, k_most_within, k_most_and, k_most_or, k_within_never, k_within_until, k_within_after, k_within_turns, k_within_most, k_within_and, k_within_or, k_and_never, k_and_until, k_and_after, k_and_turns, k_and_most, k_and_within, k_and_or, k_or_never, k_or_until, k_or_after, k_or_turns, k_or_most, k_or_within, k_or_and, aItems, itemsD]) (by rw [List.length_map]; have := hs.2.1.1; omega) rfl (fun p hp => by
        obtain ⟨s, hm, rfl⟩ := List.mem_map.mp hp
        have ih := t_sentence_at n s (okL_mem hs.2.2 s hm) (by have := dep_mem hm; omega)
        exact ⟨.sh (.int (s.sat f)), by simp only [aDef, pre, outs, List.map_cons, List.map_nil, List.replicate, List.cons_append, List.nil_append, List.length_cons, List.length_nil, sSeq, sSet, sRet, sRetN, sIf, sDrop, sPar, sAsg, sNext, aB, aC, aVar, aMove, aFz, aTV, aNot, aAnd, aOr, aIfE, aAndV, aOrV, aOp, aSl, aP, evA, rsv, l1, l2, Res.bind, Res.out, List.getElem?_cons_zero, List.getElem?_cons_succ, List.set_cons_zero, List.set_cons_succ, Option.map_some, Option.map_none, fz, shs, if_true, if_false, ite_true, ite_false, Bool.false_eq_true, reduceIte, reduceCtorEq, Nat.reduceAdd, Nat.reduceSub, Nat.reduceLT, Nat.reduceLeDiff, Nat.reduceEqDiff, Bool.not_true, Bool.not_false, Nat.sub_self, Nat.zero_add, and_self, true_and, and_true, Nat.lt_add_one, decide_true, decide_false, decide_eq_true_eq , gSl_tS, gLen_tS, gLen_lS, gTup_str, gIn_tS, gNotIn_tS, gIn_lS, gNotIn_lS, gEq_int, gEq_str, gNe_int, gNe_str, cut_from, cut_to , gTup_str2, gIx_tup, atI_0, atI_1, atI_2, atI_3, gSl_tup, List.mem_cons, List.not_mem_nil, or_false, false_or, true_or, or_true, not_true_eq_false, not_false_eq_true , aCall, tak, giv, List.append_nil, aMeth, k_never_until, k_never_after, k_never_turns, k_never_most, k_never_within, k_never_and, k_never_or, k_until_never, k_until_after, k_until_turns, k_until_most, k_until_within, k_until_and, k_until_or, k_after_never, k_after_until, k_after_turns, k_after_most, k_after_within, k_after_and, k_after_or, k_turns_never, k_turns_until, k_turns_after, k_turns_most, k_turns_within, k_turns_and, k_turns_or, k_most_never, k_most_until, k_most_after, k_most_turns, k_most_within, k_most_and, k_most_or, k_within_never, k_within_until, k_within_after, k_within_turns, k_within_most, k_within_and, k_within_or, k_and_never, k_and_until, k_and_after, k_and_turns, k_and_most, k_and_within, k_and_or, k_or_never, k_or_until, k_or_after, k_or_turns, k_or_most, k_or_within, k_or_and, ih], rfl⟩)
    rw [e2] at lc
    rw [← hX]
    have g0 : gIx (.sh X) (.sh (.int 0)) = some (.sh (.str (jn k))) := by rw [hX]; rfl
    have hne : ss.map (Sen.sat f) ≠ [] := fun h => hs.1 (List.map_eq_nil_iff.mp h)
    have gm := gMinL_oI hne
    have gx := gMaxL_oI hne
    unfold oI at gm gx
    unfold d__law_sentence_at b__law_sentence_at
    clear hf
    generalize d__law_plain_at = F
    generalize d__law_sentence_at n = G at lc ⊢
    rw [aOp_lit2 (gLstS_two "and" "or")]
    have hN := fun c => gNotIn_oS c ["and", "or"]
    generalize oS ["and", "or"] = L at hN ⊢
    generalize tS w = Wd at lc ⊢
    have hj := jn_in k
    generalize hLs : O.lst ((((ss.map (Sen.sat f)).map fun n : Nat => (n : Int)).map D.int).map O.sh) = Ls at lc gm gx
    refine def_ret (ρ := [some (.sh X), some (.sh Wd), some Ls, none]) rfl ((seq_skip (ρ' := [some (.sh X), some (.sh Wd), none, none]) ?_).trans ((seq_nx (set_ok lc (by simp))).trans ?_)) rfl
    · simp only [List.map_cons, List.map_nil, List.length_cons, List.length_nil, List.replicate, List.cons_append, List.nil_append, pre, if_true, Nat.reduceAdd, Nat.reduceSub]
      simp only [aDef, pre, outs, List.map_cons, List.map_nil, List.replicate, List.cons_append, List.nil_append, List.length_cons, List.length_nil, sSeq, sSet, sRet, sRetN, sIf, sDrop, sPar, sAsg, sNext, aB, aC, aVar, aMove, aFz, aTV, aNot, aAnd, aOr, aIfE, aAndV, aOrV, aOp, aSl, aP, evA, rsv, l1, l2, Res.bind, Res.out, List.getElem?_cons_zero, List.getElem?_cons_succ, List.set_cons_zero, List.set_cons_succ, Option.map_some, Option.map_none, fz, shs, if_true, if_false, ite_true, ite_false, Bool.false_eq_true, reduceIte, reduceCtorEq, Nat.reduceAdd, Nat.reduceSub, Nat.reduceLT, Nat.reduceLeDiff, Nat.reduceEqDiff, Bool.not_true, Bool.not_false, Nat.sub_self, Nat.zero_add, and_self, true_and, and_true, Nat.lt_add_one, decide_true, decide_false, decide_eq_true_eq , gSl_tS, gLen_tS, gLen_lS, gTup_str, gIn_tS, gNotIn_tS, gIn_lS, gNotIn_lS, gEq_int, gEq_str, gNe_int, gNe_str, cut_from, cut_to , gTup_str2, gIx_tup, atI_0, atI_1, atI_2, atI_3, gSl_tup, List.mem_cons, List.not_mem_nil, or_false, false_or, true_or, or_true, not_true_eq_false, not_false_eq_true , aCall, tak, giv, List.append_nil, aMeth, k_never_until, k_never_after, k_never_turns, k_never_most, k_never_within, k_never_and, k_never_or, k_until_never, k_until_after, k_until_turns, k_until_most, k_until_within, k_until_and, k_until_or, k_after_never, k_after_until, k_after_turns, k_after_most, k_after_within, k_after_and, k_after_or, k_turns_never, k_turns_until, k_turns_after, k_turns_most, k_turns_within, k_turns_and, k_turns_or, k_most_never, k_most_until, k_most_after, k_most_turns, k_most_within, k_most_and, k_most_or, k_within_never, k_within_until, k_within_after, k_within_turns, k_within_most, k_within_and, k_within_or, k_and_never, k_and_until, k_and_after, k_and_turns, k_and_most, k_and_within, k_and_or, k_or_never, k_or_until, k_or_after, k_or_turns, k_or_most, k_or_within, k_or_and, g0, hN, hj]
    · cases k with
      | true =>
        have j1 : jn true = "and" := rfl
        rw [j1] at g0
        rw [Sen.sat, satL_map]
        refine ret_ok ?_
        simp only [aDef, pre, outs, List.map_cons, List.map_nil, List.replicate, List.cons_append, List.nil_append, List.length_cons, List.length_nil, sSeq, sSet, sRet, sRetN, sIf, sDrop, sPar, sAsg, sNext, aB, aC, aVar, aMove, aFz, aTV, aNot, aAnd, aOr, aIfE, aAndV, aOrV, aOp, aSl, aP, evA, rsv, l1, l2, Res.bind, Res.out, List.getElem?_cons_zero, List.getElem?_cons_succ, List.set_cons_zero, List.set_cons_succ, Option.map_some, Option.map_none, fz, shs, if_true, if_false, ite_true, ite_false, Bool.false_eq_true, reduceIte, reduceCtorEq, Nat.reduceAdd, Nat.reduceSub, Nat.reduceLT, Nat.reduceLeDiff, Nat.reduceEqDiff, Bool.not_true, Bool.not_false, Nat.sub_self, Nat.zero_add, and_self, true_and, and_true, Nat.lt_add_one, decide_true, decide_false, decide_eq_true_eq , gSl_tS, gLen_tS, gLen_lS, gTup_str, gIn_tS, gNotIn_tS, gIn_lS, gNotIn_lS, gEq_int, gEq_str, gNe_int, gNe_str, cut_from, cut_to , gTup_str2, gIx_tup, atI_0, atI_1, atI_2, atI_3, gSl_tup, List.mem_cons, List.not_mem_nil, or_false, false_or, true_or, or_true, not_true_eq_false, not_false_eq_true , aCall, tak, giv, List.append_nil, aMeth, k_never_until, k_never_after, k_never_turns, k_never_most, k_never_within, k_never_and, k_never_or, k_until_never, k_until_after, k_until_turns, k_until_most, k_until_within, k_until_and, k_until_or, k_after_never, k_after_until, k_after_turns, k_after_most, k_after_within, k_after_and, k_after_or, k_turns_never, k_turns_until, k_turns_after, k_turns_most, k_turns_within, k_turns_and, k_turns_or, k_most_never, k_most_until, k_most_after, k_most_turns, k_most_within, k_most_and, k_most_or, k_within_never, k_within_until, k_within_after, k_within_turns, k_within_most, k_within_and, k_within_or, k_and_never, k_and_until, k_and_after, k_and_turns, k_and_most, k_and_within, k_and_or, k_or_never, k_or_until, k_or_after, k_or_turns, k_or_most, k_or_within, k_or_and, g0, gm]
      | false =>
        have j1 : jn false = "or" := rfl
        rw [j1] at g0
        rw [Sen.sat, satL_map]
        refine ret_ok ?_
        simp only [aDef, pre, outs, List.map_cons, List.map_nil, List.replicate, List.cons_append, List.nil_append, List.length_cons, List.length_nil, sSeq, sSet, sRet, sRetN, sIf, sDrop, sPar, sAsg, sNext, aB, aC, aVar, aMove, aFz, aTV, aNot, aAnd, aOr, aIfE, aAndV, aOrV, aOp, aSl, aP, evA, rsv, l1, l2, Res.bind, Res.out, List.getElem?_cons_zero, List.getElem?_cons_succ, List.set_cons_zero, List.set_cons_succ, Option.map_some, Option.map_none, fz, shs, if_true, if_false, ite_true, ite_false, Bool.false_eq_true, reduceIte, reduceCtorEq, Nat.reduceAdd, Nat.reduceSub, Nat.reduceLT, Nat.reduceLeDiff, Nat.reduceEqDiff, Bool.not_true, Bool.not_false, Nat.sub_self, Nat.zero_add, and_self, true_and, and_true, Nat.lt_add_one, decide_true, decide_false, decide_eq_true_eq , gSl_tS, gLen_tS, gLen_lS, gTup_str, gIn_tS, gNotIn_tS, gIn_lS, gNotIn_lS, gEq_int, gEq_str, gNe_int, gNe_str, cut_from, cut_to , gTup_str2, gIx_tup, atI_0, atI_1, atI_2, atI_3, gSl_tup, List.mem_cons, List.not_mem_nil, or_false, false_or, true_or, or_true, not_true_eq_false, not_false_eq_true , aCall, tak, giv, List.append_nil, aMeth, k_never_until, k_never_after, k_never_turns, k_never_most, k_never_within, k_never_and, k_never_or, k_until_never, k_until_after, k_until_turns, k_until_most, k_until_within, k_until_and, k_until_or, k_after_never, k_after_until, k_after_turns, k_after_most, k_after_within, k_after_and, k_after_or, k_turns_never, k_turns_until, k_turns_after, k_turns_most, k_turns_within, k_turns_and, k_turns_or, k_most_never, k_most_until, k_most_after, k_most_turns, k_most_within, k_most_and, k_most_or, k_within_never, k_within_until, k_within_after, k_within_turns, k_within_most, k_within_and, k_within_or, k_and_never, k_and_until, k_and_after, k_and_turns, k_and_most, k_and_within, k_and_or, k_or_never, k_or_until, k_or_after, k_or_turns, k_or_most, k_or_within, k_or_and, g0, gx]
end
mutual
theorem plains_ok : ∀ (s : Sen), s.ok → ∀ p ∈ s.plains, p.ok
  | .one p, h, q, hq => by
    rw [Sen.plains, List.mem_singleton] at hq
    rw [hq]
    exact h
  | .join k ss, h, q, hq => by
    rw [Sen.ok] at h
    rw [Sen.plains] at hq
    exact plainsL_ok ss h.2.2 q hq
theorem plainsL_ok : ∀ (ss : List Sen), Sen.okL ss → ∀ p ∈ Sen.plainsL ss, p.ok
  | [], _, q, hq => by rw [Sen.plainsL] at hq; cases hq
  | s :: ss, h, q, hq => by
    rw [Sen.okL] at h
    rw [Sen.plainsL] at hq
    rcases List.mem_append.mp hq with hq | hq
    · exact plains_ok s h.1 q hq
    · exact plainsL_ok ss h.2 q hq
end
theorem plains_len (s : Sen) (h : s.ok) : s.plains.length ≤ 10000 := by
  cases s with
  | one p => simp [Sen.plains]
  | join k ss =>
    rw [Sen.ok] at h
    rw [Sen.plains]
    exact h.2.1.2
end Lw
end
section
open PySem L2 Den
namespace Lw
/-! ### broken_at -/
def XM (X : O) (ms : List Int) : Prop := X = .sh (lI ms) ∨ X = oI ms
theorem gList_XM {X : O} {ms : List Int} (h : XM X ms) : gList X = some (oI ms) := by
  rcases h with rfl | rfl
  · rfl
  · have h : shs ((ms.map D.int).map O.sh) = some (ms.map D.int) := shs_map _
    unfold oI gList
    simp only [tupD, lstD, h]
/-- the step of all minds -/
theorem zip_same (PL : List Pl) (g : Pl → Int) : zipD (PL.map Pl.d) ((PL.map g).map D.int) = PL.map fun p => D.tup [p.d, .int (g p)] := by
  unfold zipD
  rw [List.map_map]
  induction PL with
  | nil => rfl
  | cons p PL ih =>
    simp only [List.map_cons, List.zip_cons_cons, ih]
    rfl
theorem minds_step {A W : O} {L : D} {ms : D} {at_ : Int} {x : Str} (g g' : Pl → Int) (hW : gIx W (.sh (.int at_)) = some (.sh (.str x))) :
    ∀ (qs : List Pl), (∀ p ∈ qs, d_behind_mind [.sh p.d, .sh (.int (g p)), .sh (.str x)] = .ret (.sh (.int (g' p))) [.sh p.d, .sh (.int (g p)), .sh (.str x)]) →
      lcL [5, 6] (aUnp [(aN 5), (aN 6)]) aYes (aCall 3 [.pl 5, .pl 6, .ex (aOp [.pl 1, .pl 4] (l2 gIx))] [] (d_behind_mind)) (qs.map fun p => D.tup [p.d, .int (g p)]) [some A, some W, some (.sh L), some (.sh ms), some (.sh (.int at_)), none, none] =
        .ok ((qs.map g').map D.int) [some A, some W, some (.sh L), some (.sh ms), some (.sh (.int at_)), none, none]
  | [], _ => rfl
  | p :: qs, h => by
    have h1 := h p (by simp)
    have ih := minds_step (A := A) (W := W) (L := L) (ms := ms) g g' hW qs fun q hq => h q (by simp [hq])
    revert h1 ih
    generalize d_behind_mind = F
    intro h1 ih
    have ec : aCall 3 [.pl 5, .pl 6, .ex (aOp [.pl 1, .pl 4] (l2 gIx))] [] F [some A, some W, some (.sh L), some (.sh ms), some (.sh (.int at_)), some (.sh p.d), some (.sh (.int (g p)))] =
        .ok (.sh (.int (g' p))) [some A, some W, some (.sh L), some (.sh ms), some (.sh (.int at_)), some (.sh p.d), some (.sh (.int (g p)))] := by
      simp only [aDef, pre, outs, List.map_cons, List.map_nil, List.replicate, List.cons_append, List.nil_append, List.length_cons, List.length_nil, sSeq, sSet, sRet, sRetN, sIf, sDrop, sPar, sAsg, sNext, aB, aC, aVar, aMove, aFz, aTV, aNot, aAnd, aOr, aIfE, aAndV, aOrV, aOp, aSl, aP, evA, rsv, l1, l2, Res.bind, Res.out, List.getElem?_cons_zero, List.getElem?_cons_succ, List.set_cons_zero, List.set_cons_succ, Option.map_some, Option.map_none, fz, shs, if_true, if_false, ite_true, ite_false, Bool.false_eq_true, reduceIte, reduceCtorEq, Nat.reduceAdd, Nat.reduceSub, Nat.reduceLT, Nat.reduceLeDiff, Nat.reduceEqDiff, Bool.not_true, Bool.not_false, Nat.sub_self, Nat.zero_add, and_self, true_and, and_true, Nat.lt_add_one, decide_true, decide_false, decide_eq_true_eq , gSl_tS, gLen_tS, gLen_lS, gTup_str, gIn_tS, gNotIn_tS, gIn_lS, gNotIn_lS, gEq_int, gEq_str, gNe_int, gNe_str, cut_from, cut_to , gTup_str2, gIx_tup, atI_0, atI_1, atI_2, atI_3, gSl_tup, List.mem_cons, List.not_mem_nil, or_false, false_or, true_or, or_true, not_true_eq_false, not_false_eq_true , aCall, tak, giv, List.append_nil, aMeth, k_never_until, k_never_after, k_never_turns, k_never_most, k_never_within, k_never_and, k_never_or, k_until_never, k_until_after, k_until_turns, k_until_most, k_until_within, k_until_and, k_until_or, k_after_never, k_after_until, k_after_turns, k_after_most, k_after_within, k_after_and, k_after_or, k_turns_never, k_turns_until, k_turns_after, k_turns_most, k_turns_within, k_turns_and, k_turns_or, k_most_never, k_most_until, k_most_after, k_most_turns, k_most_within, k_most_and, k_most_or, k_within_never, k_within_until, k_within_after, k_within_turns, k_within_most, k_within_and, k_within_or, k_and_never, k_and_until, k_and_after, k_and_turns, k_and_most, k_and_within, k_and_or, k_or_never, k_or_until, k_or_after, k_or_turns, k_or_most, k_or_within, k_or_and, hW, h1]
    have et : aUnp [(aN 5), (aN 6)] (D.tup [p.d, .int (g p)]) [some A, some W, some (.sh L), some (.sh ms), some (.sh (.int at_)), none, none] = some [some A, some W, some (.sh L), some (.sh ms), some (.sh (.int at_)), some (.sh p.d), some (.sh (.int (g p)))] := rfl
    rw [List.map_cons, lcL, et]
    simp only [aYes, Res.bind, if_true, ec, wipeS, List.set_cons_succ, List.set_cons_zero]
    first
      | (rw [ih]; simp [fz])
      | (have ih' : lcL [5, 6] (aUnp [(aN 5), (aN 6)]) (fun ρ => Res.ok true ρ) (aCall 3 [.pl 5, .pl 6, .ex (aOp [.pl 1, .pl 4] (l2 gIx))] [] F) (qs.map fun p => D.tup [p.d, .int (g p)]) [some A, some W, some (.sh L), some (.sh ms), some (.sh (.int at_)), none, none] = _ := ih
         rw [ih']; simp [fz])
theorem minds_lc {A W X : O} {PL : List Pl} {at_ : Int} {x : Str} (g g' : Pl → Int) (hX : XM X (PL.map g)) (hW : gIx W (.sh (.int at_)) = some (.sh (.str x))) (hl : PL.length ≤ 10000)
    (h : ∀ p ∈ PL, d_behind_mind [.sh p.d, .sh (.int (g p)), .sh (.str x)] = .ret (.sh (.int (g' p))) [.sh p.d, .sh (.int (g p)), .sh (.str x)]) :
    aLc (aZip (aVar 2) (aVar 3)) [5, 6] (aUnp [(aN 5), (aN 6)]) aYes (aCall 3 [.pl 5, .pl 6, .ex (aOp [.pl 1, .pl 4] (l2 gIx))] [] (d_behind_mind)) [some A, some W, some (.sh (.lst (PL.map Pl.d))), some X, some (.sh (.int at_)), none, none] =
      .ok (oI (PL.map g')) [some A, some W, some (.sh (.lst (PL.map Pl.d))), some (.sh (lI (PL.map g))), some (.sh (.int at_)), none, none] := by
  have hz : aZip (aVar 2) (aVar 3) [some A, some W, some (.sh (.lst (PL.map Pl.d))), some X, some (.sh (.int at_)), none, none] = .ok (PL.map fun p => D.tup [p.d, .int (g p)]) [some A, some W, some (.sh (.lst (PL.map Pl.d))), some (.sh (lI (PL.map g))), some (.sh (.int at_)), none, none] := by
    rw [← zip_same]
    rcases hX with rfl | rfl
    · rfl
    · have e : fz (oI (PL.map g)) = lI (PL.map g) := fz_oI _
      unfold oI at e ⊢
      unfold aZip aVar
      simp only [List.getElem?_cons_succ, List.getElem?_cons_zero, Res.bind, List.set_cons_succ, List.set_cons_zero, e]
      rfl
  have key := minds_step (A := A) (W := W) (L := .lst (PL.map Pl.d)) (ms := lI (PL.map g)) g g' hW PL h
  unfold aLc
  rw [hz]
  simp only [Res.bind]
  rw [if_pos (by rw [List.length_map]; omega)]
  have w : wipeS [some A, some W, some (.sh (.lst (PL.map Pl.d))), some (.sh (lI (PL.map g))), some (.sh (.int at_)), none, none] [5, 6] = [some A, some W, some (.sh (.lst (PL.map Pl.d))), some (.sh (lI (PL.map g))), some (.sh (.int at_)), none, none] := rfl
  rw [w, key]
  rfl
end Lw
end
section
open PySem L2 Den
namespace Lw
theorem cond_abs {F : aF} {A : D} {W L X a : O} {ms : List Int} {b : Bool} (hX : gList X = some (oI ms)) (hF : F [.sh A, oI ms] = .ret (.sh (.bl b)) [.sh A, oI []]) :
    aNot (aB (aCall 2 [.pl 0, .ex (aOp [.pl 3] (l1 gList))] [] F)) [some (.sh A), some W, some L, some X, some a, none, none] = .ok (!b) [some (.sh A), some W, some L, some X, some a, none, none] := by
  simp only [aDef, pre, outs, List.map_cons, List.map_nil, List.replicate, List.cons_append, List.nil_append, List.length_cons, List.length_nil, sSeq, sSet, sRet, sRetN, sIf, sDrop, sPar, sAsg, sNext, aB, aC, aVar, aMove, aFz, aTV, aNot, aAnd, aOr, aIfE, aAndV, aOrV, aOp, aSl, aP, evA, rsv, l1, l2, Res.bind, Res.out, List.getElem?_cons_zero, List.getElem?_cons_succ, List.set_cons_zero, List.set_cons_succ, Option.map_some, Option.map_none, fz, shs, if_true, if_false, ite_true, ite_false, Bool.false_eq_true, reduceIte, reduceCtorEq, Nat.reduceAdd, Nat.reduceSub, Nat.reduceLT, Nat.reduceLeDiff, Nat.reduceEqDiff, Bool.not_true, Bool.not_false, Nat.sub_self, Nat.zero_add, and_self, true_and, and_true, Nat.lt_add_one, decide_true, decide_false, decide_eq_true_eq , gSl_tS, gLen_tS, gLen_lS, gTup_str, gIn_tS, gNotIn_tS, gIn_lS, gNotIn_lS, gEq_int, gEq_str, gNe_int, gNe_str, cut_from, cut_to , gTup_str2, gIx_tup, atI_0, atI_1, atI_2, atI_3, gSl_tup, List.mem_cons, List.not_mem_nil, or_false, false_or, true_or, or_true, not_true_eq_false, not_false_eq_true , aCall, tak, giv, List.append_nil, aMeth, k_never_until, k_never_after, k_never_turns, k_never_most, k_never_within, k_never_and, k_never_or, k_until_never, k_until_after, k_until_turns, k_until_most, k_until_within, k_until_and, k_until_or, k_after_never, k_after_until, k_after_turns, k_after_most, k_after_within, k_after_and, k_after_or, k_turns_never, k_turns_until, k_turns_after, k_turns_most, k_turns_within, k_turns_and, k_turns_or, k_most_never, k_most_until, k_most_after, k_most_turns, k_most_within, k_most_and, k_most_or, k_within_never, k_within_until, k_within_after, k_within_turns, k_within_most, k_within_and, k_within_or, k_and_never, k_and_until, k_and_after, k_and_turns, k_and_most, k_and_within, k_and_or, k_or_never, k_or_until, k_or_after, k_or_turns, k_or_most, k_or_within, k_or_and, hX, hF]
theorem test_end {W : O} {A L X : O} {k n : Int} (hW : gLen W = some (.sh (.int n))) : aB (aOp [.pl 4, .ex (aOp [.pl 1] (l1 gLen))] (l2 gEq)) [some A, some W, some L, some X, some (.sh (.int k)), none, none] = .ok (decide (k = n)) [some A, some W, some L, some X, some (.sh (.int k)), none, none] := by
  simp only [aDef, pre, outs, List.map_cons, List.map_nil, List.replicate, List.cons_append, List.nil_append, List.length_cons, List.length_nil, sSeq, sSet, sRet, sRetN, sIf, sDrop, sPar, sAsg, sNext, aB, aC, aVar, aMove, aFz, aTV, aNot, aAnd, aOr, aIfE, aAndV, aOrV, aOp, aSl, aP, evA, rsv, l1, l2, Res.bind, Res.out, List.getElem?_cons_zero, List.getElem?_cons_succ, List.set_cons_zero, List.set_cons_succ, Option.map_some, Option.map_none, fz, shs, if_true, if_false, ite_true, ite_false, Bool.false_eq_true, reduceIte, reduceCtorEq, Nat.reduceAdd, Nat.reduceSub, Nat.reduceLT, Nat.reduceLeDiff, Nat.reduceEqDiff, Bool.not_true, Bool.not_false, Nat.sub_self, Nat.zero_add, and_self, true_and, and_true, Nat.lt_add_one, decide_true, decide_false, decide_eq_true_eq , gSl_tS, gLen_tS, gLen_lS, gTup_str, gIn_tS, gNotIn_tS, gIn_lS, gNotIn_lS, gEq_int, gEq_str, gNe_int, gNe_str, cut_from, cut_to , gTup_str2, gIx_tup, atI_0, atI_1, atI_2, atI_3, gSl_tup, List.mem_cons, List.not_mem_nil, or_false, false_or, true_or, or_true, not_true_eq_false, not_false_eq_true , aCall, tak, giv, List.append_nil, aMeth, k_never_until, k_never_after, k_never_turns, k_never_most, k_never_within, k_never_and, k_never_or, k_until_never, k_until_after, k_until_turns, k_until_most, k_until_within, k_until_and, k_until_or, k_after_never, k_after_until, k_after_turns, k_after_most, k_after_within, k_after_and, k_after_or, k_turns_never, k_turns_until, k_turns_after, k_turns_most, k_turns_within, k_turns_and, k_turns_or, k_most_never, k_most_until, k_most_after, k_most_turns, k_most_within, k_most_and, k_most_or, k_within_never, k_within_until, k_within_after, k_within_turns, k_within_most, k_within_and, k_within_or, k_and_never, k_and_until, k_and_after, k_and_turns, k_and_most, k_and_within, k_and_or, k_or_never, k_or_until, k_or_after, k_or_turns, k_or_most, k_or_within, k_or_and, hW]
theorem aug_one {A W L X : O} {k : Int} : sAug 4 (aC (.int 1)) gAddI [some A, some W, some L, some X, some (.sh (.int k)), none, none] = .nx [some A, some W, some L, some X, some (.sh (.int (k + 1))), none, none] := by
  simp only [aDef, pre, outs, List.map_cons, List.map_nil, List.replicate, List.cons_append, List.nil_append, List.length_cons, List.length_nil, sSeq, sSet, sRet, sRetN, sIf, sDrop, sPar, sAsg, sNext, aB, aC, aVar, aMove, aFz, aTV, aNot, aAnd, aOr, aIfE, aAndV, aOrV, aOp, aSl, aP, evA, rsv, l1, l2, Res.bind, Res.out, List.getElem?_cons_zero, List.getElem?_cons_succ, List.set_cons_zero, List.set_cons_succ, Option.map_some, Option.map_none, fz, shs, if_true, if_false, ite_true, ite_false, Bool.false_eq_true, reduceIte, reduceCtorEq, Nat.reduceAdd, Nat.reduceSub, Nat.reduceLT, Nat.reduceLeDiff, Nat.reduceEqDiff, Bool.not_true, Bool.not_false, Nat.sub_self, Nat.zero_add, and_self, true_and, and_true, Nat.lt_add_one, decide_true, decide_false, decide_eq_true_eq , gSl_tS, gLen_tS, gLen_lS, gTup_str, gIn_tS, gNotIn_tS, gIn_lS, gNotIn_lS, gEq_int, gEq_str, gNe_int, gNe_str, cut_from, cut_to , gTup_str2, gIx_tup, atI_0, atI_1, atI_2, atI_3, gSl_tup, List.mem_cons, List.not_mem_nil, or_false, false_or, true_or, or_true, not_true_eq_false, not_false_eq_true , aCall, tak, giv, List.append_nil, aMeth, k_never_until, k_never_after, k_never_turns, k_never_most, k_never_within, k_never_and, k_never_or, k_until_never, k_until_after, k_until_turns, k_until_most, k_until_within, k_until_and, k_until_or, k_after_never, k_after_until, k_after_turns, k_after_most, k_after_within, k_after_and, k_after_or, k_turns_never, k_turns_until, k_turns_after, k_turns_most, k_turns_within, k_turns_and, k_turns_or, k_most_never, k_most_until, k_most_after, k_most_turns, k_most_within, k_most_and, k_most_or, k_within_never, k_within_until, k_within_after, k_within_turns, k_within_most, k_within_and, k_within_or, k_and_never, k_and_until, k_and_after, k_and_turns, k_and_most, k_and_within, k_and_or, k_or_never, k_or_until, k_or_after, k_or_turns, k_or_most, k_or_within, k_or_and, sAug, gAddI]
theorem seq_ret0 {g h : aS} {ρ ρ' : Store} {o : O} (hg : g ρ = .ret o ρ') : sSeq g h ρ = .ret o ρ' := by
  unfold sSeq
  simp only [hg]
theorem call1_sh {F : aF} {a : D} {o : O} {rest : Store} (h : F [.sh a] = .ret o [.sh a]) : aCall 1 [.pl 0] [] F (some (.sh a) :: rest) = .ok o (some (.sh a) :: rest) := by
  simp [aCall, evA, Res.bind, tak, giv, h]
theorem asg_abs {g : aE} {ρ0 : Store} {A W L x y : Option O} {zs : List D} (h : g ρ0 = .ok (.lst (zs.map O.sh)) [A, W, L, x, y, none, none]) :
    sAsg (aOp [.ex (aFz g), .ex (aC (.int 0))] Den.gTup) (aUnp [(aN 3), (aN 4)]) ρ0 = .nx [A, W, L, some (.sh (.lst zs)), some (.sh (.int 0)), none, none] := by
  have e : fzL (zs.map O.sh) = zs := fzL_sh zs
  simp [sAsg, aOp, evA, aFz, aC, h, Res.bind, Res.out, rsv, Den.gTup, shs, fz, e, aUnp, aGs, aN]
section
variable {s : Sen} (hs : s.ok) (hd : s.dep < 8) {w : List Str} (hw : okSs w) (hl : w.length ≤ 100000) {W : O} (hWl : gLen W = some (.sh (.int w.length))) (hWi : ∀ (k : Nat) (x : Str), w[k]? = some x → gIx W (.sh (.int (k : Int))) = some (.sh (.str x)))
include hs hd hw hl hWl hWi
theorem loop_ok {A : D} {body : aS} {cond : aT} {sat : Nat} {st : Nat → O → Store} {XK : Nat → O → Prop}
    (hc : ∀ k X, k ≤ w.length → XK k X → cond (st k X) = .ok (!decide (sat ≤ k)) (st k X)) (he : ∀ X, XK w.length X → body (st w.length X) = .ret (.sh .non) (st w.length X))
    (hb : ∀ k X, k < w.length → XK k X → ∃ X', XK (k + 1) X' ∧ body (st k X) = .nx (st (k + 1) X')) :
    ∀ (d k : Nat) (X : O), k + d = w.length → k ≤ sat → XK k X → ∃ X', sWhile cond body (st k X) = if sat ≤ w.length then .nx (st sat X') else .ret (.sh .non) (st w.length X')
  | d, k, X, hk, hsat, hX => by
    by_cases h : sat ≤ k
    · have e : sat = k := by omega
      subst e
      refine ⟨X, ?_⟩
      rw [sWhile_eq, hc sat X (by omega) hX, if_pos (by omega)]
      simp [Res.out]
    · cases d with
      | zero =>
        have e : k = w.length := by omega
        subst e
        refine ⟨X, ?_⟩
        rw [sWhile_eq, hc _ X (by omega) hX, if_neg (by omega)]
        simp only [Res.out, h, decide_false, Bool.not_false, if_true]
        rw [he X hX]
      | succ d =>
        obtain ⟨X1, h1, h2⟩ := hb k X (by omega) hX
        obtain ⟨X', e⟩ := loop_ok (A := A) hc he hb d (k + 1) X1 (by omega) (by omega) h1
        refine ⟨X', ?_⟩
        rw [sWhile_eq, hc k X (by omega) hX]
        simp only [Res.out, h, decide_false, Bool.not_false, if_true]
        rw [h2]
        exact e
theorem t_broken_at : d_broken_at [.sh s.d, W] = .ret (if s.sat (fun p => pa p w) ≤ w.length then .sh (.int (s.sat (fun p => pa p w) : Nat)) else .sh .non) [.sh s.d, W] := by
  obtain ⟨sat, hsat⟩ : ∃ n, n = s.sat (fun p => pa p w) := ⟨_, rfl⟩
  rw [← hsat]
  obtain ⟨PL, hPL⟩ : ∃ l, l = s.plains := ⟨_, rfl⟩
  have hpo : ∀ p ∈ PL, p.ok := fun p hp => plains_ok s hs p (hPL ▸ hp)
  have hpl : PL.length ≤ 10000 := hPL ▸ plains_len s hs
  have M : ∀ k, k ≤ w.length → (s.brk fun p => decide (Mn p (w.take k) = endm p)) = decide (sat ≤ k) := fun k hk => by
    rw [hsat]
    refine brk_sat (fun p hp => ?_) s hs
    rw [decide_eq_decide]
    exact (pa_le hp hk hl).symm
  obtain ⟨X', hloop⟩ := loop_ok hs hd hw hl hWl hWi (A := s.d) (sat := sat)
    (cond := aNot (aB (aCall 2 [.pl 0, .ex (aOp [.pl 3] (l1 gList))] [] (d_breaks 8))))
    (body := sSeq (sIf (aB (aOp [.pl 4, .ex (aOp [.pl 1] (l1 gLen))] (l2 gEq))) (sRet (aC .non)) sNext)
    (sSeq (sSet 3 (aLc (aZip (aVar 2) (aVar 3)) [5, 6] (aUnp [(aN 5), (aN 6)]) aYes (aCall 3 [.pl 5, .pl 6, .ex (aOp [.pl 1, .pl 4] (l2 gIx))] [] (d_behind_mind))))
    (sAug 4 (aC (.int 1)) gAddI)))
    (st := fun k X => [some (.sh s.d), some W, some (.sh (.lst (PL.map Pl.d))), some X, some (.sh (.int (k : Nat))), none, none]) (XK := fun k X => XM X (PL.map fun p => Mn p (w.take k)))
    (fun k X hk hX => by
      have hF := t_breaks (fun p => Mn p (w.take k)) 8 s hs hd []
      rw [List.append_nil, M k hk, ← hPL] at hF
      exact cond_abs (gList_XM hX) hF)
    (fun X hX => by
      refine (seq_ret (ρ' := _) ((test_end hWl).trans ?_) (ret_ok rfl))
      rw [decide_eq_true rfl])
    (fun k X hk hX => by
      have hne : decide (((k : Nat) : Int) = (w.length : Int)) = false := decide_eq_false (by omega)
      have hx := hWi k w[k] (List.getElem?_eq_getElem hk)
      have lc := minds_lc (A := .sh s.d) (fun p => Mn p (w.take k)) (fun p => Mn p (w.take (k + 1))) hX hx hpl (fun p hp => by
        have e : Mn p (w.take (k + 1)) = step p (Mn p (w.take k)) w[k] := by rw [← mn_snoc, List.take_append_getElem]
        rw [e]
        exact t_behind (hpo p hp) (mind_ok (hpo p hp) _).1 (hw _ (List.getElem_mem hk)))
      refine ⟨oI (PL.map fun p => Mn p (w.take (k + 1))), .inr rfl, ?_⟩
      refine (seq_skip (ρ' := _) ((test_end hWl).trans (by rw [hne]))).trans ((seq_nx (set_ok lc (by simp))).trans ?_)
      have e : ((k + 1 : Nat) : Int) = (k : Int) + 1 := by omega
      rw [e]
      exact aug_one)
    w.length 0 (.sh (lI (PL.map fun p => Mn p (w.take 0)))) (by omega) (by omega) (.inl rfl)
  have hplain := t_plain_of 8 s hs hd
  rw [← hPL] at hplain
  have h1 := set_ok (i := 2) (call1_sh (F := d_plain_of 8) (rest := [some W, none, none, none, none, none]) hplain) (by simp)
  have hz := aLc_pairs (src := aItems (aVar 2)) (i := 5) (ge := aC (.int 0)) (ρ0 := [some (.sh s.d), some W, some (.lst ((PL.map Pl.d).map O.sh)), none, none, none, none]) (ρ := [some (.sh s.d), some W, some (.sh (.lst (PL.map Pl.d))), none, none, none, none]) (PL.map fun p => (p.d, D.int 0))
    (by
      have e : fzL ((PL.map Pl.d).map O.sh) = PL.map Pl.d := fzL_sh _
      unfold aItems aVar
      simp only [List.getElem?_cons_succ, List.getElem?_cons_zero, Res.bind, List.set_cons_succ, List.set_cons_zero, fz, e, itemsD]
      rw [List.map_map]
      rfl) (by rw [List.length_map]; omega) rfl (fun p hp => by
      obtain ⟨q, _, rfl⟩ := List.mem_map.mp hp
      exact ⟨.sh (.int 0), rfl, rfl⟩)
  have h2 := asg_abs hz
  have ez : (PL.map fun p => (p.d, D.int 0)).map Prod.snd = (PL.map fun p => Mn p (w.take 0)).map D.int := by
    rw [List.map_map, List.map_map]
    apply List.map_congr_left
    intro p _
    rfl
  rw [ez] at h2
  unfold d_broken_at
  by_cases h : sat ≤ w.length
  · rw [if_pos h] at hloop ⊢
    exact def_ret rfl ((seq_nx h1).trans ((seq_nx h2).trans ((seq_nx hloop).trans (ret_ok rfl)))) rfl
  · rw [if_neg h] at hloop ⊢
    exact def_ret rfl ((seq_nx h1).trans ((seq_nx h2).trans (seq_ret0 hloop))) rfl
end
end Lw
end
section
open PySem L2 Den
namespace Lw
/-! ### the pen -/
def penO (c : List Int) (at_ dig cnt fold : Int) : O := .dic [(.str "cells", .sh (lI c)), (.str "at", .sh (.int at_)), (.str "digits", .sh (.int dig)), (.str "count", .sh (.int cnt)), (.str "fold", .sh (.int fold))]
theorem q1 : ¬ (("cells" : Str) = "at") := by decide +kernel
theorem q2 : ¬ (("cells" : Str) = "digits") := by decide +kernel
theorem q3 : ¬ (("cells" : Str) = "count") := by decide +kernel
theorem q4 : ¬ (("cells" : Str) = "fold") := by decide +kernel
theorem q5 : ¬ (("at" : Str) = "digits") := by decide +kernel
theorem q6 : ¬ (("at" : Str) = "count") := by decide +kernel
theorem q7 : ¬ (("at" : Str) = "fold") := by decide +kernel
theorem q8 : ¬ (("digits" : Str) = "count") := by decide +kernel
theorem q9 : ¬ (("digits" : Str) = "fold") := by decide +kernel
theorem q10 : ¬ (("count" : Str) = "fold") := by decide +kernel
theorem q11 : ¬ (("at" : Str) = "cells") := by decide +kernel
theorem q12 : ¬ (("digits" : Str) = "cells") := by decide +kernel
theorem q13 : ¬ (("count" : Str) = "cells") := by decide +kernel
theorem q14 : ¬ (("fold" : Str) = "cells") := by decide +kernel
theorem q15 : ¬ (("digits" : Str) = "at") := by decide +kernel
theorem q16 : ¬ (("count" : Str) = "at") := by decide +kernel
theorem q17 : ¬ (("fold" : Str) = "at") := by decide +kernel
theorem q18 : ¬ (("count" : Str) = "digits") := by decide +kernel
theorem q19 : ¬ (("fold" : Str) = "digits") := by decide +kernel
theorem q20 : ¬ (("fold" : Str) = "count") := by decide +kernel
section
variable {c : List Int} {at_ dig cnt fold v : Int}
theorem ix_cells : gIx (penO c at_ dig cnt fold) (.sh (.str "cells")) = some (.sh (lI c)) := by simp [gIx, penO, keyD, valD, keyEq, q1, q2, q3, q4, q11, q12, q13, q14]
theorem ix_at : gIx (penO c at_ dig cnt fold) (.sh (.str "at")) = some (.sh (.int at_)) := by simp [gIx, penO, keyD, valD, keyEq, q1, q5, q6, q7, q15, q16, q17]
theorem ix_digits : gIx (penO c at_ dig cnt fold) (.sh (.str "digits")) = some (.sh (.int dig)) := by simp [gIx, penO, keyD, valD, keyEq, q2, q5, q8, q9, q18, q19]
theorem ix_count : gIx (penO c at_ dig cnt fold) (.sh (.str "count")) = some (.sh (.int cnt)) := by simp [gIx, penO, keyD, valD, keyEq, q3, q6, q8, q10, q20]
theorem ix_fold : gIx (penO c at_ dig cnt fold) (.sh (.str "fold")) = some (.sh (.int fold)) := by simp [gIx, penO, keyD, valD, keyEq, q4, q7, q9, q10]
theorem set_at : setO (penO c at_ dig cnt fold) (.sh (.str "at")) (.int v) = some (penO c v dig cnt fold) := by simp [setO, penO, keyD, putD, keyEq, kD, q1, q15, q16, q17]
theorem set_digits : setO (penO c at_ dig cnt fold) (.sh (.str "digits")) (.int v) = some (penO c at_ v cnt fold) := by simp [setO, penO, keyD, putD, keyEq, kD, q2, q5, q18, q19]
theorem set_count : setO (penO c at_ dig cnt fold) (.sh (.str "count")) (.int v) = some (penO c at_ dig v fold) := by simp [setO, penO, keyD, putD, keyEq, kD, q3, q6, q8, q20]
theorem set_fold : setO (penO c at_ dig cnt fold) (.sh (.str "fold")) (.int v) = some (penO c at_ dig cnt v) := by simp [setO, penO, keyD, putD, keyEq, kD, q4, q7, q9, q10]
end
/-- a pen that has drawn at most B times -/
def PenOk (B : Nat) (o : O) : Prop := ∃ c at_ dig cnt fold, o = penO c at_ dig cnt fold ∧ c.length ≤ 63 ∧ 0 ≤ at_ ∧ at_ ≤ c.length ∧ 0 ≤ dig ∧ 0 ≤ cnt ∧ cnt ≤ B ∧ 0 ≤ fold ∧ fold < 2147483648
theorem PenOk.mono {B C : Nat} {o : O} (h : PenOk B o) (k : B ≤ C) : PenOk C o := by
  obtain ⟨c, a, d, n, f, e, h1, h2, h3, h4, h5, h6, h7, h8⟩ := h
  exact ⟨c, a, d, n, f, e, h1, h2, h3, h4, h5, by omega, h7, h8⟩
end Lw
end
section
open PySem L2 Den
namespace Lw
theorem sub_ok {i : Nat} {g gi : aE} {ρ ρ1 ρ2 : Store} {o k x0 x x' : O} (h1 : g ρ = .ok o ρ1) (h2 : ρ1[i]? = some (some x0)) (h3 : gi ρ1 = .ok k ρ2) (h4 : ρ2[i]? = some (some x)) (h5 : setO x k (fz o) = some x') : sSub i g gi ρ = .nx (ρ2.set i (some x')) := by
  unfold sSub
  simp only [h1, Res.out, h2, h3, h4, h5]
theorem if_yes {p : aT} {g h : aS} {ρ ρ' : Store} (hp : p ρ = .ok true ρ') : sIf p g h ρ = g ρ' := by
  unfold sIf
  simp only [hp, Res.out, if_true]
theorem if_no {p : aT} {g h : aS} {ρ ρ' : Store} (hp : p ρ = .ok false ρ') : sIf p g h ρ = h ρ' := by
  unfold sIf
  simp only [hp, Res.out, Bool.false_eq_true, if_false]
theorem gLen_lI (xs : List Int) : gLen (.sh (lI xs)) = some (.sh (.int xs.length)) := by simp [gLen, lI]
theorem gIx_lI {xs : List Int} {k : Nat} {x : Int} (h : xs[k]? = some x) : gIx (.sh (lI xs)) (.sh (.int (k : Int))) = some (.sh (.int x)) := by simp [gIx, lI, Den.atI_nat, h]
section
variable {c : List Int} {at_ dig cnt fold many : Int} {M x y z : Option O}
theorem rd {key : Str} {v : O} (h : gIx (penO c at_ dig cnt fold) (.sh (.str key)) = some v) : aOp [.pl 0, .ex (aC (.str key))] (l2 gIx) [some (penO c at_ dig cnt fold), M, x, y, z] = .ok v [some (penO c at_ dig cnt fold), M, x, y, z] := by
  simp only [aDef, pre, outs, List.map_cons, List.map_nil, List.replicate, List.cons_append, List.nil_append, List.length_cons, List.length_nil, sSeq, sSet, sRet, sRetN, sIf, sDrop, sPar, sAsg, sNext, aB, aC, aVar, aMove, aFz, aTV, aNot, aAnd, aOr, aIfE, aAndV, aOrV, aOp, aSl, aP, evA, rsv, l1, l2, Res.bind, Res.out, List.getElem?_cons_zero, List.getElem?_cons_succ, List.set_cons_zero, List.set_cons_succ, Option.map_some, Option.map_none, fz, shs, if_true, if_false, ite_true, ite_false, Bool.false_eq_true, reduceIte, reduceCtorEq, Nat.reduceAdd, Nat.reduceSub, Nat.reduceLT, Nat.reduceLeDiff, Nat.reduceEqDiff, Bool.not_true, Bool.not_false, Nat.sub_self, Nat.zero_add, and_self, true_and, and_true, Nat.lt_add_one, decide_true, decide_false, decide_eq_true_eq , gSl_tS, gLen_tS, gLen_lS, gTup_str, gIn_tS, gNotIn_tS, gIn_lS, gNotIn_lS, gEq_int, gEq_str, gNe_int, gNe_str, cut_from, cut_to , gTup_str2, gIx_tup, atI_0, atI_1, atI_2, atI_3, gSl_tup, List.mem_cons, List.not_mem_nil, or_false, false_or, true_or, or_true, not_true_eq_false, not_false_eq_true , aCall, tak, giv, List.append_nil, aMeth, k_never_until, k_never_after, k_never_turns, k_never_most, k_never_within, k_never_and, k_never_or, k_until_never, k_until_after, k_until_turns, k_until_most, k_until_within, k_until_and, k_until_or, k_after_never, k_after_until, k_after_turns, k_after_most, k_after_within, k_after_and, k_after_or, k_turns_never, k_turns_until, k_turns_after, k_turns_most, k_turns_within, k_turns_and, k_turns_or, k_most_never, k_most_until, k_most_after, k_most_turns, k_most_within, k_most_and, k_most_or, k_within_never, k_within_until, k_within_after, k_within_turns, k_within_most, k_within_and, k_within_or, k_and_never, k_and_until, k_and_after, k_and_turns, k_and_most, k_and_within, k_and_or, k_or_never, k_or_until, k_or_after, k_or_turns, k_or_most, k_or_within, k_or_and, h]
theorem dr1 : sSub 0 (aOp [.ex (aOp [.pl 0, .ex (aC (.str "count"))] (l2 gIx)), .ex (aC (.int 1))] (l2 gAdd)) (aC (.str "count")) [some (penO c at_ dig cnt fold), M, x, y, z] = .nx [some (penO c at_ dig (cnt + 1) fold), M, x, y, z] := by
  refine sub_ok (o := .sh (.int (cnt + 1))) (k := .sh (.str "count")) (ρ1 := [some (penO c at_ dig cnt fold), M, x, y, z]) (ρ2 := [some (penO c at_ dig cnt fold), M, x, y, z]) ?_ rfl rfl rfl set_count
  simp only [aDef, pre, outs, List.map_cons, List.map_nil, List.replicate, List.cons_append, List.nil_append, List.length_cons, List.length_nil, sSeq, sSet, sRet, sRetN, sIf, sDrop, sPar, sAsg, sNext, aB, aC, aVar, aMove, aFz, aTV, aNot, aAnd, aOr, aIfE, aAndV, aOrV, aOp, aSl, aP, evA, rsv, l1, l2, Res.bind, Res.out, List.getElem?_cons_zero, List.getElem?_cons_succ, List.set_cons_zero, List.set_cons_succ, Option.map_some, Option.map_none, fz, shs, if_true, if_false, ite_true, ite_false, Bool.false_eq_true, reduceIte, reduceCtorEq, Nat.reduceAdd, Nat.reduceSub, Nat.reduceLT, Nat.reduceLeDiff, Nat.reduceEqDiff, Bool.not_true, Bool.not_false, Nat.sub_self, Nat.zero_add, and_self, true_and, and_true, Nat.lt_add_one, decide_true, decide_false, decide_eq_true_eq , gSl_tS, gLen_tS, gLen_lS, gTup_str, gIn_tS, gNotIn_tS, gIn_lS, gNotIn_lS, gEq_int, gEq_str, gNe_int, gNe_str, cut_from, cut_to , gTup_str2, gIx_tup, atI_0, atI_1, atI_2, atI_3, gSl_tup, List.mem_cons, List.not_mem_nil, or_false, false_or, true_or, or_true, not_true_eq_false, not_false_eq_true , aCall, tak, giv, List.append_nil, aMeth, k_never_until, k_never_after, k_never_turns, k_never_most, k_never_within, k_never_and, k_never_or, k_until_never, k_until_after, k_until_turns, k_until_most, k_until_within, k_until_and, k_until_or, k_after_never, k_after_until, k_after_turns, k_after_most, k_after_within, k_after_and, k_after_or, k_turns_never, k_turns_until, k_turns_after, k_turns_most, k_turns_within, k_turns_and, k_turns_or, k_most_never, k_most_until, k_most_after, k_most_turns, k_most_within, k_most_and, k_most_or, k_within_never, k_within_until, k_within_after, k_within_turns, k_within_most, k_within_and, k_within_or, k_and_never, k_and_until, k_and_after, k_and_turns, k_and_most, k_and_within, k_and_or, k_or_never, k_or_until, k_or_after, k_or_turns, k_or_most, k_or_within, k_or_and, ix_count, gAdd]
theorem cond1 : aAnd (aB (aOp [.ex (aOp [.pl 0, .ex (aC (.str "digits"))] (l2 gIx)), .ex (aC (.int 0))] (l2 gEq))) (aB (aOp [.ex (aOp [.pl 0, .ex (aC (.str "at"))] (l2 gIx)), .ex (aOp [.ex (aOp [.pl 0, .ex (aC (.str "cells"))] (l2 gIx))] (l1 gLen))] (l2 gLt))) [some (penO c at_ dig cnt fold), M, x, y, z] =
    .ok (decide (dig = 0) && decide (at_ < c.length)) [some (penO c at_ dig cnt fold), M, x, y, z] := by
  by_cases h : dig = 0
  · simp only [aDef, pre, outs, List.map_cons, List.map_nil, List.replicate, List.cons_append, List.nil_append, List.length_cons, List.length_nil, sSeq, sSet, sRet, sRetN, sIf, sDrop, sPar, sAsg, sNext, aB, aC, aVar, aMove, aFz, aTV, aNot, aAnd, aOr, aIfE, aAndV, aOrV, aOp, aSl, aP, evA, rsv, l1, l2, Res.bind, Res.out, List.getElem?_cons_zero, List.getElem?_cons_succ, List.set_cons_zero, List.set_cons_succ, Option.map_some, Option.map_none, fz, shs, if_true, if_false, ite_true, ite_false, Bool.false_eq_true, reduceIte, reduceCtorEq, Nat.reduceAdd, Nat.reduceSub, Nat.reduceLT, Nat.reduceLeDiff, Nat.reduceEqDiff, Bool.not_true, Bool.not_false, Nat.sub_self, Nat.zero_add, and_self, true_and, and_true, Nat.lt_add_one, decide_true, decide_false, decide_eq_true_eq , gSl_tS, gLen_tS, gLen_lS, gTup_str, gIn_tS, gNotIn_tS, gIn_lS, gNotIn_lS, gEq_int, gEq_str, gNe_int, gNe_str, cut_from, cut_to , gTup_str2, gIx_tup, atI_0, atI_1, atI_2, atI_3, gSl_tup, List.mem_cons, List.not_mem_nil, or_false, false_or, true_or, or_true, not_true_eq_false, not_false_eq_true , aCall, tak, giv, List.append_nil, aMeth, k_never_until, k_never_after, k_never_turns, k_never_most, k_never_within, k_never_and, k_never_or, k_until_never, k_until_after, k_until_turns, k_until_most, k_until_within, k_until_and, k_until_or, k_after_never, k_after_until, k_after_turns, k_after_most, k_after_within, k_after_and, k_after_or, k_turns_never, k_turns_until, k_turns_after, k_turns_most, k_turns_within, k_turns_and, k_turns_or, k_most_never, k_most_until, k_most_after, k_most_turns, k_most_within, k_most_and, k_most_or, k_within_never, k_within_until, k_within_after, k_within_turns, k_within_most, k_within_and, k_within_or, k_and_never, k_and_until, k_and_after, k_and_turns, k_and_most, k_and_within, k_and_or, k_or_never, k_or_until, k_or_after, k_or_turns, k_or_most, k_or_within, k_or_and, ix_digits, ix_at, ix_cells, gLen_lI, gLt, h, Bool.true_and]
  · simp only [aDef, pre, outs, List.map_cons, List.map_nil, List.replicate, List.cons_append, List.nil_append, List.length_cons, List.length_nil, sSeq, sSet, sRet, sRetN, sIf, sDrop, sPar, sAsg, sNext, aB, aC, aVar, aMove, aFz, aTV, aNot, aAnd, aOr, aIfE, aAndV, aOrV, aOp, aSl, aP, evA, rsv, l1, l2, Res.bind, Res.out, List.getElem?_cons_zero, List.getElem?_cons_succ, List.set_cons_zero, List.set_cons_succ, Option.map_some, Option.map_none, fz, shs, if_true, if_false, ite_true, ite_false, Bool.false_eq_true, reduceIte, reduceCtorEq, Nat.reduceAdd, Nat.reduceSub, Nat.reduceLT, Nat.reduceLeDiff, Nat.reduceEqDiff, Bool.not_true, Bool.not_false, Nat.sub_self, Nat.zero_add, and_self, true_and, and_true, Nat.lt_add_one, decide_true, decide_false, decide_eq_true_eq , gSl_tS, gLen_tS, gLen_lS, gTup_str, gIn_tS, gNotIn_tS, gIn_lS, gNotIn_lS, gEq_int, gEq_str, gNe_int, gNe_str, cut_from, cut_to , gTup_str2, gIx_tup, atI_0, atI_1, atI_2, atI_3, gSl_tup, List.mem_cons, List.not_mem_nil, or_false, false_or, true_or, or_true, not_true_eq_false, not_false_eq_true , aCall, tak, giv, List.append_nil, aMeth, k_never_until, k_never_after, k_never_turns, k_never_most, k_never_within, k_never_and, k_never_or, k_until_never, k_until_after, k_until_turns, k_until_most, k_until_within, k_until_and, k_until_or, k_after_never, k_after_until, k_after_turns, k_after_most, k_after_within, k_after_and, k_after_or, k_turns_never, k_turns_until, k_turns_after, k_turns_most, k_turns_within, k_turns_and, k_turns_or, k_most_never, k_most_until, k_most_after, k_most_turns, k_most_within, k_most_and, k_most_or, k_within_never, k_within_until, k_within_after, k_within_turns, k_within_most, k_within_and, k_within_or, k_and_never, k_and_until, k_and_after, k_and_turns, k_and_most, k_and_within, k_and_or, k_or_never, k_or_until, k_or_after, k_or_turns, k_or_most, k_or_within, k_or_and, ix_digits, ix_at, ix_cells, gLen_lI, gLt, h, Bool.false_and]
theorem dr2 {k : Nat} {cell : Int} (hk : c[k]? = some cell) : sSet 3 (aOp [.ex (aOp [.pl 0, .ex (aC (.str "cells"))] (l2 gIx)), .ex (aOp [.pl 0, .ex (aC (.str "at"))] (l2 gIx))] (l2 gIx)) [some (penO c k dig cnt fold), M, x, y, z] = .nx [some (penO c k dig cnt fold), M, x, some (.sh (.int cell)), z] := by
  refine set_ok (i := 3) (o := .sh (.int cell)) (ρ' := [some (penO c k dig cnt fold), M, x, y, z]) ?_ (by simp)
  simp only [aDef, pre, outs, List.map_cons, List.map_nil, List.replicate, List.cons_append, List.nil_append, List.length_cons, List.length_nil, sSeq, sSet, sRet, sRetN, sIf, sDrop, sPar, sAsg, sNext, aB, aC, aVar, aMove, aFz, aTV, aNot, aAnd, aOr, aIfE, aAndV, aOrV, aOp, aSl, aP, evA, rsv, l1, l2, Res.bind, Res.out, List.getElem?_cons_zero, List.getElem?_cons_succ, List.set_cons_zero, List.set_cons_succ, Option.map_some, Option.map_none, fz, shs, if_true, if_false, ite_true, ite_false, Bool.false_eq_true, reduceIte, reduceCtorEq, Nat.reduceAdd, Nat.reduceSub, Nat.reduceLT, Nat.reduceLeDiff, Nat.reduceEqDiff, Bool.not_true, Bool.not_false, Nat.sub_self, Nat.zero_add, and_self, true_and, and_true, Nat.lt_add_one, decide_true, decide_false, decide_eq_true_eq , gSl_tS, gLen_tS, gLen_lS, gTup_str, gIn_tS, gNotIn_tS, gIn_lS, gNotIn_lS, gEq_int, gEq_str, gNe_int, gNe_str, cut_from, cut_to , gTup_str2, gIx_tup, atI_0, atI_1, atI_2, atI_3, gSl_tup, List.mem_cons, List.not_mem_nil, or_false, false_or, true_or, or_true, not_true_eq_false, not_false_eq_true , aCall, tak, giv, List.append_nil, aMeth, k_never_until, k_never_after, k_never_turns, k_never_most, k_never_within, k_never_and, k_never_or, k_until_never, k_until_after, k_until_turns, k_until_most, k_until_within, k_until_and, k_until_or, k_after_never, k_after_until, k_after_turns, k_after_most, k_after_within, k_after_and, k_after_or, k_turns_never, k_turns_until, k_turns_after, k_turns_most, k_turns_within, k_turns_and, k_turns_or, k_most_never, k_most_until, k_most_after, k_most_turns, k_most_within, k_most_and, k_most_or, k_within_never, k_within_until, k_within_after, k_within_turns, k_within_most, k_within_and, k_within_or, k_and_never, k_and_until, k_and_after, k_and_turns, k_and_most, k_and_within, k_and_or, k_or_never, k_or_until, k_or_after, k_or_turns, k_or_most, k_or_within, k_or_and, ix_cells, ix_at, gIx_lI hk]
theorem dr3 : sSub 0 (aOp [.ex (aOp [.pl 0, .ex (aC (.str "at"))] (l2 gIx)), .ex (aC (.int 1))] (l2 gAdd)) (aC (.str "at")) [some (penO c at_ dig cnt fold), M, x, y, z] = .nx [some (penO c (at_ + 1) dig cnt fold), M, x, y, z] := by
  refine sub_ok (o := .sh (.int (at_ + 1))) (k := .sh (.str "at")) (ρ1 := [some (penO c at_ dig cnt fold), M, x, y, z]) (ρ2 := [some (penO c at_ dig cnt fold), M, x, y, z]) ?_ rfl rfl rfl set_at
  simp only [aDef, pre, outs, List.map_cons, List.map_nil, List.replicate, List.cons_append, List.nil_append, List.length_cons, List.length_nil, sSeq, sSet, sRet, sRetN, sIf, sDrop, sPar, sAsg, sNext, aB, aC, aVar, aMove, aFz, aTV, aNot, aAnd, aOr, aIfE, aAndV, aOrV, aOp, aSl, aP, evA, rsv, l1, l2, Res.bind, Res.out, List.getElem?_cons_zero, List.getElem?_cons_succ, List.set_cons_zero, List.set_cons_succ, Option.map_some, Option.map_none, fz, shs, if_true, if_false, ite_true, ite_false, Bool.false_eq_true, reduceIte, reduceCtorEq, Nat.reduceAdd, Nat.reduceSub, Nat.reduceLT, Nat.reduceLeDiff, Nat.reduceEqDiff, Bool.not_true, Bool.not_false, Nat.sub_self, Nat.zero_add, and_self, true_and, and_true, Nat.lt_add_one, decide_true, decide_false, decide_eq_true_eq , gSl_tS, gLen_tS, gLen_lS, gTup_str, gIn_tS, gNotIn_tS, gIn_lS, gNotIn_lS, gEq_int, gEq_str, gNe_int, gNe_str, cut_from, cut_to , gTup_str2, gIx_tup, atI_0, atI_1, atI_2, atI_3, gSl_tup, List.mem_cons, List.not_mem_nil, or_false, false_or, true_or, or_true, not_true_eq_false, not_false_eq_true , aCall, tak, giv, List.append_nil, aMeth, k_never_until, k_never_after, k_never_turns, k_never_most, k_never_within, k_never_and, k_never_or, k_until_never, k_until_after, k_until_turns, k_until_most, k_until_within, k_until_and, k_until_or, k_after_never, k_after_until, k_after_turns, k_after_most, k_after_within, k_after_and, k_after_or, k_turns_never, k_turns_until, k_turns_after, k_turns_most, k_turns_within, k_turns_and, k_turns_or, k_most_never, k_most_until, k_most_after, k_most_turns, k_most_within, k_most_and, k_most_or, k_within_never, k_within_until, k_within_after, k_within_turns, k_within_most, k_within_and, k_within_or, k_and_never, k_and_until, k_and_after, k_and_turns, k_and_most, k_and_within, k_and_or, k_or_never, k_or_until, k_or_after, k_or_turns, k_or_most, k_or_within, k_or_and, ix_at, gAdd]
theorem dr4 {big cell : Int} {g : aE} (hg : g = fun ρ => .ok (.sh (.int big)) ρ) : sSub 0 (aOp [.pl 3, .ex g] (l2 Den.gSub)) (aC (.str "digits")) [some (penO c at_ dig cnt fold), M, x, some (.sh (.int cell)), z] = .nx [some (penO c at_ (cell - big) cnt fold), M, x, some (.sh (.int cell)), z] := by
  refine sub_ok (o := .sh (.int (cell - big))) (k := .sh (.str "digits")) (ρ1 := [some (penO c at_ dig cnt fold), M, x, some (.sh (.int cell)), z]) (ρ2 := [some (penO c at_ dig cnt fold), M, x, some (.sh (.int cell)), z]) ?_ rfl rfl rfl set_digits
  simp only [aDef, pre, outs, List.map_cons, List.map_nil, List.replicate, List.cons_append, List.nil_append, List.length_cons, List.length_nil, sSeq, sSet, sRet, sRetN, sIf, sDrop, sPar, sAsg, sNext, aB, aC, aVar, aMove, aFz, aTV, aNot, aAnd, aOr, aIfE, aAndV, aOrV, aOp, aSl, aP, evA, rsv, l1, l2, Res.bind, Res.out, List.getElem?_cons_zero, List.getElem?_cons_succ, List.set_cons_zero, List.set_cons_succ, Option.map_some, Option.map_none, fz, shs, if_true, if_false, ite_true, ite_false, Bool.false_eq_true, reduceIte, reduceCtorEq, Nat.reduceAdd, Nat.reduceSub, Nat.reduceLT, Nat.reduceLeDiff, Nat.reduceEqDiff, Bool.not_true, Bool.not_false, Nat.sub_self, Nat.zero_add, and_self, true_and, and_true, Nat.lt_add_one, decide_true, decide_false, decide_eq_true_eq , gSl_tS, gLen_tS, gLen_lS, gTup_str, gIn_tS, gNotIn_tS, gIn_lS, gNotIn_lS, gEq_int, gEq_str, gNe_int, gNe_str, cut_from, cut_to , gTup_str2, gIx_tup, atI_0, atI_1, atI_2, atI_3, gSl_tup, List.mem_cons, List.not_mem_nil, or_false, false_or, true_or, or_true, not_true_eq_false, not_false_eq_true , aCall, tak, giv, List.append_nil, aMeth, k_never_until, k_never_after, k_never_turns, k_never_most, k_never_within, k_never_and, k_never_or, k_until_never, k_until_after, k_until_turns, k_until_most, k_until_within, k_until_and, k_until_or, k_after_never, k_after_until, k_after_turns, k_after_most, k_after_within, k_after_and, k_after_or, k_turns_never, k_turns_until, k_turns_after, k_turns_most, k_turns_within, k_turns_and, k_turns_or, k_most_never, k_most_until, k_most_after, k_most_turns, k_most_within, k_most_and, k_most_or, k_within_never, k_within_until, k_within_after, k_within_turns, k_within_most, k_within_and, k_within_or, k_and_never, k_and_until, k_and_after, k_and_turns, k_and_most, k_and_within, k_and_or, k_or_never, k_or_until, k_or_after, k_or_turns, k_or_most, k_or_within, k_or_and, hg, Den.gSub]
theorem cond2 {big cell : Int} {g : aE} (hg : g = fun ρ => .ok (.sh (.int big)) ρ) : aB (aOp [.pl 3, .ex g] (l2 gGe)) [some (penO c at_ dig cnt fold), M, x, some (.sh (.int cell)), z] = .ok (decide (big ≤ cell)) [some (penO c at_ dig cnt fold), M, x, some (.sh (.int cell)), z] := by
  simp only [aDef, pre, outs, List.map_cons, List.map_nil, List.replicate, List.cons_append, List.nil_append, List.length_cons, List.length_nil, sSeq, sSet, sRet, sRetN, sIf, sDrop, sPar, sAsg, sNext, aB, aC, aVar, aMove, aFz, aTV, aNot, aAnd, aOr, aIfE, aAndV, aOrV, aOp, aSl, aP, evA, rsv, l1, l2, Res.bind, Res.out, List.getElem?_cons_zero, List.getElem?_cons_succ, List.set_cons_zero, List.set_cons_succ, Option.map_some, Option.map_none, fz, shs, if_true, if_false, ite_true, ite_false, Bool.false_eq_true, reduceIte, reduceCtorEq, Nat.reduceAdd, Nat.reduceSub, Nat.reduceLT, Nat.reduceLeDiff, Nat.reduceEqDiff, Bool.not_true, Bool.not_false, Nat.sub_self, Nat.zero_add, and_self, true_and, and_true, Nat.lt_add_one, decide_true, decide_false, decide_eq_true_eq , gSl_tS, gLen_tS, gLen_lS, gTup_str, gIn_tS, gNotIn_tS, gIn_lS, gNotIn_lS, gEq_int, gEq_str, gNe_int, gNe_str, cut_from, cut_to , gTup_str2, gIx_tup, atI_0, atI_1, atI_2, atI_3, gSl_tup, List.mem_cons, List.not_mem_nil, or_false, false_or, true_or, or_true, not_true_eq_false, not_false_eq_true , aCall, tak, giv, List.append_nil, aMeth, k_never_until, k_never_after, k_never_turns, k_never_most, k_never_within, k_never_and, k_never_or, k_until_never, k_until_after, k_until_turns, k_until_most, k_until_within, k_until_and, k_until_or, k_after_never, k_after_until, k_after_turns, k_after_most, k_after_within, k_after_and, k_after_or, k_turns_never, k_turns_until, k_turns_after, k_turns_most, k_turns_within, k_turns_and, k_turns_or, k_most_never, k_most_until, k_most_after, k_most_turns, k_most_within, k_most_and, k_most_or, k_within_never, k_within_until, k_within_after, k_within_turns, k_within_most, k_within_and, k_within_or, k_and_never, k_and_until, k_and_after, k_and_turns, k_and_most, k_and_within, k_and_or, k_or_never, k_or_until, k_or_after, k_or_turns, k_or_most, k_or_within, k_or_and, hg, gGe]
theorem mul_small {i j : Int} (h : -18446744073709551616 < i ∧ i < 18446744073709551616) : gMul (.sh (.int i)) (.sh (.int j)) = some (.sh (.int (i * j))) := by
  show (if _ then _ else _) = _
  rw [if_pos (.inl h)]
theorem mod_pos {i j : Int} (h : 0 < j) : gMod (.sh (.int i)) (.sh (.int j)) = some (.sh (.int (i % j))) := by
  show (if _ then _ else _) = _
  rw [if_pos h]
theorem fdiv_pos {i j : Int} (h : 0 < j ∧ j < 1073741824) : gFdiv (.sh (.int i)) (.sh (.int j)) = some (.sh (.int (i / j))) := by
  show (if _ then _ else _) = _
  rw [if_pos h]
theorem dr5 {cell m1 m2 : Int} (h1 : 0 ≤ fold ∧ fold < 2147483648) (h2 : 0 < m2) : sSub 0 (aOp [.ex (aOp [.ex (aOp [.ex (aOp [.ex (aOp [.pl 0, .ex (aC (.str "fold"))] (l2 gIx)), .ex (aC (.int m1))] (l2 gMul)), .pl 3] (l2 gAdd))] (l1 gInt)), .ex (aC (.int m2))] (l2 gMod)) (aC (.str "fold")) [some (penO c at_ dig cnt fold), M, x, some (.sh (.int cell)), z] =
    .nx [some (penO c at_ dig cnt ((fold * m1 + cell) % m2)), M, x, some (.sh (.int cell)), z] := by
  have hm := mul_small (i := fold) (j := m1) (by omega)
  have hd := mod_pos (i := fold * m1 + cell) h2
  refine sub_ok (o := .sh (.int ((fold * m1 + cell) % m2))) (k := .sh (.str "fold")) (ρ1 := [some (penO c at_ dig cnt fold), M, x, some (.sh (.int cell)), z]) (ρ2 := [some (penO c at_ dig cnt fold), M, x, some (.sh (.int cell)), z]) ?_ rfl rfl rfl set_fold
  simp only [aDef, pre, outs, List.map_cons, List.map_nil, List.replicate, List.cons_append, List.nil_append, List.length_cons, List.length_nil, sSeq, sSet, sRet, sRetN, sIf, sDrop, sPar, sAsg, sNext, aB, aC, aVar, aMove, aFz, aTV, aNot, aAnd, aOr, aIfE, aAndV, aOrV, aOp, aSl, aP, evA, rsv, l1, l2, Res.bind, Res.out, List.getElem?_cons_zero, List.getElem?_cons_succ, List.set_cons_zero, List.set_cons_succ, Option.map_some, Option.map_none, fz, shs, if_true, if_false, ite_true, ite_false, Bool.false_eq_true, reduceIte, reduceCtorEq, Nat.reduceAdd, Nat.reduceSub, Nat.reduceLT, Nat.reduceLeDiff, Nat.reduceEqDiff, Bool.not_true, Bool.not_false, Nat.sub_self, Nat.zero_add, and_self, true_and, and_true, Nat.lt_add_one, decide_true, decide_false, decide_eq_true_eq , gSl_tS, gLen_tS, gLen_lS, gTup_str, gIn_tS, gNotIn_tS, gIn_lS, gNotIn_lS, gEq_int, gEq_str, gNe_int, gNe_str, cut_from, cut_to , gTup_str2, gIx_tup, atI_0, atI_1, atI_2, atI_3, gSl_tup, List.mem_cons, List.not_mem_nil, or_false, false_or, true_or, or_true, not_true_eq_false, not_false_eq_true , aCall, tak, giv, List.append_nil, aMeth, k_never_until, k_never_after, k_never_turns, k_never_most, k_never_within, k_never_and, k_never_or, k_until_never, k_until_after, k_until_turns, k_until_most, k_until_within, k_until_and, k_until_or, k_after_never, k_after_until, k_after_turns, k_after_most, k_after_within, k_after_and, k_after_or, k_turns_never, k_turns_until, k_turns_after, k_turns_most, k_turns_within, k_turns_and, k_turns_or, k_most_never, k_most_until, k_most_after, k_most_turns, k_most_within, k_most_and, k_most_or, k_within_never, k_within_until, k_within_after, k_within_turns, k_within_most, k_within_and, k_within_or, k_and_never, k_and_until, k_and_after, k_and_turns, k_and_most, k_and_within, k_and_or, k_or_never, k_or_until, k_or_after, k_or_turns, k_or_most, k_or_within, k_or_and, ix_fold, hm, gAdd, gInt, hd]
theorem cond3 : aB (aOp [.ex (aOp [.pl 0, .ex (aC (.str "digits"))] (l2 gIx)), .ex (aC (.int 0))] (l2 gGt)) [some (penO c at_ dig cnt fold), M, x, y, z] = .ok (decide (0 < dig)) [some (penO c at_ dig cnt fold), M, x, y, z] := by
  simp only [aDef, pre, outs, List.map_cons, List.map_nil, List.replicate, List.cons_append, List.nil_append, List.length_cons, List.length_nil, sSeq, sSet, sRet, sRetN, sIf, sDrop, sPar, sAsg, sNext, aB, aC, aVar, aMove, aFz, aTV, aNot, aAnd, aOr, aIfE, aAndV, aOrV, aOp, aSl, aP, evA, rsv, l1, l2, Res.bind, Res.out, List.getElem?_cons_zero, List.getElem?_cons_succ, List.set_cons_zero, List.set_cons_succ, Option.map_some, Option.map_none, fz, shs, if_true, if_false, ite_true, ite_false, Bool.false_eq_true, reduceIte, reduceCtorEq, Nat.reduceAdd, Nat.reduceSub, Nat.reduceLT, Nat.reduceLeDiff, Nat.reduceEqDiff, Bool.not_true, Bool.not_false, Nat.sub_self, Nat.zero_add, and_self, true_and, and_true, Nat.lt_add_one, decide_true, decide_false, decide_eq_true_eq , gSl_tS, gLen_tS, gLen_lS, gTup_str, gIn_tS, gNotIn_tS, gIn_lS, gNotIn_lS, gEq_int, gEq_str, gNe_int, gNe_str, cut_from, cut_to , gTup_str2, gIx_tup, atI_0, atI_1, atI_2, atI_3, gSl_tup, List.mem_cons, List.not_mem_nil, or_false, false_or, true_or, or_true, not_true_eq_false, not_false_eq_true , aCall, tak, giv, List.append_nil, aMeth, k_never_until, k_never_after, k_never_turns, k_never_most, k_never_within, k_never_and, k_never_or, k_until_never, k_until_after, k_until_turns, k_until_most, k_until_within, k_until_and, k_until_or, k_after_never, k_after_until, k_after_turns, k_after_most, k_after_within, k_after_and, k_after_or, k_turns_never, k_turns_until, k_turns_after, k_turns_most, k_turns_within, k_turns_and, k_turns_or, k_most_never, k_most_until, k_most_after, k_most_turns, k_most_within, k_most_and, k_most_or, k_within_never, k_within_until, k_within_after, k_within_turns, k_within_most, k_within_and, k_within_or, k_and_never, k_and_until, k_and_after, k_and_turns, k_and_most, k_and_within, k_and_or, k_or_never, k_or_until, k_or_after, k_or_turns, k_or_most, k_or_within, k_or_and, ix_digits, gGt]
theorem dr6 (h : 0 < many) : sSet 4 (aOp [.ex (aOp [.ex (aOp [.pl 0, .ex (aC (.str "digits"))] (l2 gIx))] (l1 gInt)), .pl 1] (l2 gMod)) [some (penO c at_ dig cnt fold), some (.sh (.int many)), x, y, z] = .nx [some (penO c at_ dig cnt fold), some (.sh (.int many)), x, y, some (.sh (.int (dig % many)))] := by
  refine set_ok (i := 4) (o := .sh (.int (dig % many))) (ρ' := [some (penO c at_ dig cnt fold), some (.sh (.int many)), x, y, z]) ?_ (by simp)
  have hd := mod_pos (i := dig) h
  simp only [aDef, pre, outs, List.map_cons, List.map_nil, List.replicate, List.cons_append, List.nil_append, List.length_cons, List.length_nil, sSeq, sSet, sRet, sRetN, sIf, sDrop, sPar, sAsg, sNext, aB, aC, aVar, aMove, aFz, aTV, aNot, aAnd, aOr, aIfE, aAndV, aOrV, aOp, aSl, aP, evA, rsv, l1, l2, Res.bind, Res.out, List.getElem?_cons_zero, List.getElem?_cons_succ, List.set_cons_zero, List.set_cons_succ, Option.map_some, Option.map_none, fz, shs, if_true, if_false, ite_true, ite_false, Bool.false_eq_true, reduceIte, reduceCtorEq, Nat.reduceAdd, Nat.reduceSub, Nat.reduceLT, Nat.reduceLeDiff, Nat.reduceEqDiff, Bool.not_true, Bool.not_false, Nat.sub_self, Nat.zero_add, and_self, true_and, and_true, Nat.lt_add_one, decide_true, decide_false, decide_eq_true_eq , gSl_tS, gLen_tS, gLen_lS, gTup_str, gIn_tS, gNotIn_tS, gIn_lS, gNotIn_lS, gEq_int, gEq_str, gNe_int, gNe_str, cut_from, cut_to , gTup_str2, gIx_tup, atI_0, atI_1, atI_2, atI_3, gSl_tup, List.mem_cons, List.not_mem_nil, or_false, false_or, true_or, or_true, not_true_eq_false, not_false_eq_true , aCall, tak, giv, List.append_nil, aMeth, k_never_until, k_never_after, k_never_turns, k_never_most, k_never_within, k_never_and, k_never_or, k_until_never, k_until_after, k_until_turns, k_until_most, k_until_within, k_until_and, k_until_or, k_after_never, k_after_until, k_after_turns, k_after_most, k_after_within, k_after_and, k_after_or, k_turns_never, k_turns_until, k_turns_after, k_turns_most, k_turns_within, k_turns_and, k_turns_or, k_most_never, k_most_until, k_most_after, k_most_turns, k_most_within, k_most_and, k_most_or, k_within_never, k_within_until, k_within_after, k_within_turns, k_within_most, k_within_and, k_within_or, k_and_never, k_and_until, k_and_after, k_and_turns, k_and_most, k_and_within, k_and_or, k_or_never, k_or_until, k_or_after, k_or_turns, k_or_most, k_or_within, k_or_and, ix_digits, gInt, hd]
theorem dr7 (h : 0 < many ∧ many < 1073741824) : sSub 0 (aOp [.ex (aOp [.pl 0, .ex (aC (.str "digits"))] (l2 gIx)), .pl 1] (l2 gFdiv)) (aC (.str "digits")) [some (penO c at_ dig cnt fold), some (.sh (.int many)), x, y, z] = .nx [some (penO c at_ (dig / many) cnt fold), some (.sh (.int many)), x, y, z] := by
  refine sub_ok (o := .sh (.int (dig / many))) (k := .sh (.str "digits")) (ρ1 := [some (penO c at_ dig cnt fold), some (.sh (.int many)), x, y, z]) (ρ2 := [some (penO c at_ dig cnt fold), some (.sh (.int many)), x, y, z]) ?_ rfl rfl rfl set_digits
  have hd := fdiv_pos (i := dig) h
  simp only [aDef, pre, outs, List.map_cons, List.map_nil, List.replicate, List.cons_append, List.nil_append, List.length_cons, List.length_nil, sSeq, sSet, sRet, sRetN, sIf, sDrop, sPar, sAsg, sNext, aB, aC, aVar, aMove, aFz, aTV, aNot, aAnd, aOr, aIfE, aAndV, aOrV, aOp, aSl, aP, evA, rsv, l1, l2, Res.bind, Res.out, List.getElem?_cons_zero, List.getElem?_cons_succ, List.set_cons_zero, List.set_cons_succ, Option.map_some, Option.map_none, fz, shs, if_true, if_false, ite_true, ite_false, Bool.false_eq_true, reduceIte, reduceCtorEq, Nat.reduceAdd, Nat.reduceSub, Nat.reduceLT, Nat.reduceLeDiff, Nat.reduceEqDiff, Bool.not_true, Bool.not_false, Nat.sub_self, Nat.zero_add, and_self, true_and, and_true, Nat.lt_add_one, decide_true, decide_false, decide_eq_true_eq , gSl_tS, gLen_tS, gLen_lS, gTup_str, gIn_tS, gNotIn_tS, gIn_lS, gNotIn_lS, gEq_int, gEq_str, gNe_int, gNe_str, cut_from, cut_to , gTup_str2, gIx_tup, atI_0, atI_1, atI_2, atI_3, gSl_tup, List.mem_cons, List.not_mem_nil, or_false, false_or, true_or, or_true, not_true_eq_false, not_false_eq_true , aCall, tak, giv, List.append_nil, aMeth, k_never_until, k_never_after, k_never_turns, k_never_most, k_never_within, k_never_and, k_never_or, k_until_never, k_until_after, k_until_turns, k_until_most, k_until_within, k_until_and, k_until_or, k_after_never, k_after_until, k_after_turns, k_after_most, k_after_within, k_after_and, k_after_or, k_turns_never, k_turns_until, k_turns_after, k_turns_most, k_turns_within, k_turns_and, k_turns_or, k_most_never, k_most_until, k_most_after, k_most_turns, k_most_within, k_most_and, k_most_or, k_within_never, k_within_until, k_within_after, k_within_turns, k_within_most, k_within_and, k_within_or, k_and_never, k_and_until, k_and_after, k_and_turns, k_and_most, k_and_within, k_and_or, k_or_never, k_or_until, k_or_after, k_or_turns, k_or_most, k_or_within, k_or_and, ix_digits, hd]
theorem dr8 {m1 m2 : Int} (h : 0 ≤ cnt ∧ cnt < 1099511627776) : sSet 2 (aOp [.ex (aOp [.ex (aOp [.pl 0, .ex (aC (.str "fold"))] (l2 gIx)), .ex (aOp [.ex (aOp [.pl 0, .ex (aC (.str "count"))] (l2 gIx)), .ex (aC (.int m1))] (l2 gMul))] (l2 gAdd)), .ex (aC (.int m2))] (l2 gAdd)) [some (penO c at_ dig cnt fold), M, x, y, z] =
    .nx [some (penO c at_ dig cnt fold), M, some (.sh (.int (fold + cnt * m1 + m2))), y, z] := by
  have hm := mul_small (i := cnt) (j := m1) (by omega)
  refine set_ok (i := 2) (o := .sh (.int (fold + cnt * m1 + m2))) (ρ' := [some (penO c at_ dig cnt fold), M, x, y, z]) ?_ (by simp)
  simp only [aDef, pre, outs, List.map_cons, List.map_nil, List.replicate, List.cons_append, List.nil_append, List.length_cons, List.length_nil, sSeq, sSet, sRet, sRetN, sIf, sDrop, sPar, sAsg, sNext, aB, aC, aVar, aMove, aFz, aTV, aNot, aAnd, aOr, aIfE, aAndV, aOrV, aOp, aSl, aP, evA, rsv, l1, l2, Res.bind, Res.out, List.getElem?_cons_zero, List.getElem?_cons_succ, List.set_cons_zero, List.set_cons_succ, Option.map_some, Option.map_none, fz, shs, if_true, if_false, ite_true, ite_false, Bool.false_eq_true, reduceIte, reduceCtorEq, Nat.reduceAdd, Nat.reduceSub, Nat.reduceLT, Nat.reduceLeDiff, Nat.reduceEqDiff, Bool.not_true, Bool.not_false, Nat.sub_self, Nat.zero_add, and_self, true_and, and_true, Nat.lt_add_one, decide_true, decide_false, decide_eq_true_eq , gSl_tS, gLen_tS, gLen_lS, gTup_str, gIn_tS, gNotIn_tS, gIn_lS, gNotIn_lS, gEq_int, gEq_str, gNe_int, gNe_str, cut_from, cut_to , gTup_str2, gIx_tup, atI_0, atI_1, atI_2, atI_3, gSl_tup, List.mem_cons, List.not_mem_nil, or_false, false_or, true_or, or_true, not_true_eq_false, not_false_eq_true , aCall, tak, giv, List.append_nil, aMeth, k_never_until, k_never_after, k_never_turns, k_never_most, k_never_within, k_never_and, k_never_or, k_until_never, k_until_after, k_until_turns, k_until_most, k_until_within, k_until_and, k_until_or, k_after_never, k_after_until, k_after_turns, k_after_most, k_after_within, k_after_and, k_after_or, k_turns_never, k_turns_until, k_turns_after, k_turns_most, k_turns_within, k_turns_and, k_turns_or, k_most_never, k_most_until, k_most_after, k_most_turns, k_most_within, k_most_and, k_most_or, k_within_never, k_within_until, k_within_after, k_within_turns, k_within_most, k_within_and, k_within_or, k_and_never, k_and_until, k_and_after, k_and_turns, k_and_most, k_and_within, k_and_or, k_or_never, k_or_until, k_or_after, k_or_turns, k_or_most, k_or_within, k_or_and, ix_fold, ix_count, hm, gAdd]
theorem pow_small {i j : Int} (h : 0 ≤ j ∧ j ≤ 1000000 ∧ i.natAbs < 18446744073709551616) : gPow (.sh (.int i)) (.sh (.int j)) = some (.sh (.int (i ^ j.toNat))) := by
  show (if _ then _ else _) = _
  rw [if_pos h]
theorem dr9 {A : O} {b p m k : Int} (hb : 0 ≤ p ∧ p ≤ 1000000 ∧ b.natAbs < 18446744073709551616) (hm : 0 < m) (hk : 0 < k ∧ k < 1073741824) (h : 0 < many) :
    sRet (aOp [.ex (aOp [.ex (aOp [.ex (aOp [.ex (aOp [.pl 2, .ex (aC (.int p))] (l2 gPow)), .ex (aC (.int m))] (l2 gMod))] (l1 gInt)), .ex (aC (.int k))] (l2 gFdiv)), .pl 1] (l2 gMod)) [some A, some (.sh (.int many)), some (.sh (.int b)), y, z] =
      .ret (.sh (.int (b ^ p.toNat % m / k % many))) [some A, some (.sh (.int many)), some (.sh (.int b)), y, z] := by
  have h1 := pow_small hb
  have h2 := mod_pos (i := b ^ p.toNat) hm
  have h3 := fdiv_pos (i := b ^ p.toNat % m) hk
  have h4 := mod_pos (i := b ^ p.toNat % m / k) h
  simp only [aDef, pre, outs, List.map_cons, List.map_nil, List.replicate, List.cons_append, List.nil_append, List.length_cons, List.length_nil, sSeq, sSet, sRet, sRetN, sIf, sDrop, sPar, sAsg, sNext, aB, aC, aVar, aMove, aFz, aTV, aNot, aAnd, aOr, aIfE, aAndV, aOrV, aOp, aSl, aP, evA, rsv, l1, l2, Res.bind, Res.out, List.getElem?_cons_zero, List.getElem?_cons_succ, List.set_cons_zero, List.set_cons_succ, Option.map_some, Option.map_none, fz, shs, if_true, if_false, ite_true, ite_false, Bool.false_eq_true, reduceIte, reduceCtorEq, Nat.reduceAdd, Nat.reduceSub, Nat.reduceLT, Nat.reduceLeDiff, Nat.reduceEqDiff, Bool.not_true, Bool.not_false, Nat.sub_self, Nat.zero_add, and_self, true_and, and_true, Nat.lt_add_one, decide_true, decide_false, decide_eq_true_eq , gSl_tS, gLen_tS, gLen_lS, gTup_str, gIn_tS, gNotIn_tS, gIn_lS, gNotIn_lS, gEq_int, gEq_str, gNe_int, gNe_str, cut_from, cut_to , gTup_str2, gIx_tup, atI_0, atI_1, atI_2, atI_3, gSl_tup, List.mem_cons, List.not_mem_nil, or_false, false_or, true_or, or_true, not_true_eq_false, not_false_eq_true , aCall, tak, giv, List.append_nil, aMeth, k_never_until, k_never_after, k_never_turns, k_never_most, k_never_within, k_never_and, k_never_or, k_until_never, k_until_after, k_until_turns, k_until_most, k_until_within, k_until_and, k_until_or, k_after_never, k_after_until, k_after_turns, k_after_most, k_after_within, k_after_and, k_after_or, k_turns_never, k_turns_until, k_turns_after, k_turns_most, k_turns_within, k_turns_and, k_turns_or, k_most_never, k_most_until, k_most_after, k_most_turns, k_most_within, k_most_and, k_most_or, k_within_never, k_within_until, k_within_after, k_within_turns, k_within_most, k_within_and, k_within_or, k_and_never, k_and_until, k_and_after, k_and_turns, k_and_most, k_and_within, k_and_or, k_or_never, k_or_until, k_or_after, k_or_turns, k_or_most, k_or_within, k_or_and, h1, h2, gInt, h3, h4]
end
end Lw
end
section
open PySem L2 Den
namespace Lw
theorem t_draw {B : Nat} {pen : O} {many : Int} (hp : PenOk B pen) (hB : B < 1099511627775) (hm : 0 < many ∧ many < 1073741824) :
    ∃ (r : Int) (pen' : O), d__law_draw [pen, .sh (.int many)] = .ret (.sh (.int r)) [pen', .sh (.int many)] ∧ 0 ≤ r ∧ r < many ∧ PenOk (B + 1) pen' := by
  obtain ⟨c, at_, dig, cnt, fold, rfl, hc, a0, a1, d0, n0, n1, f0, f1⟩ := hp
  obtain ⟨big, hb⟩ : ∃ b : Int, b = 1000000000000000000 := ⟨_, rfl⟩
  have gb := g1018
  rw [← hb] at gb
  have hg := aOp_cc gb
  unfold d__law_draw
  rw [hg]
  generalize hgg : (fun ρ => Res.ok (O.sh (D.int big)) ρ : aE) = g
  have hg' : g = fun ρ => Res.ok (O.sh (D.int big)) ρ := hgg.symm
  -- behind the if that reads a cell
  have s2 : ∃ (a' d' f' : Int) (y : Option O), sIf (aAnd (aB (aOp [.ex (aOp [.pl 0, .ex (aC (.str "digits"))] (l2 gIx)), .ex (aC (.int 0))] (l2 gEq))) (aB (aOp [.ex (aOp [.pl 0, .ex (aC (.str "at"))] (l2 gIx)), .ex (aOp [.ex (aOp [.pl 0, .ex (aC (.str "cells"))] (l2 gIx))] (l1 gLen))] (l2 gLt)))) (sSeq (sSet 3 (aOp [.ex (aOp [.pl 0, .ex (aC (.str "cells"))] (l2 gIx)), .ex (aOp [.pl 0, .ex (aC (.str "at"))] (l2 gIx))] (l2 gIx)))
      (sSeq (sSub 0 (aOp [.ex (aOp [.pl 0, .ex (aC (.str "at"))] (l2 gIx)), .ex (aC (.int 1))] (l2 gAdd)) (aC (.str "at")))
      (sIf (aB (aOp [.pl 3, .ex g] (l2 gGe))) (sSub 0 (aOp [.pl 3, .ex g] (l2 Den.gSub)) (aC (.str "digits"))) (sSub 0 (aOp [.ex (aOp [.ex (aOp [.ex (aOp [.ex (aOp [.pl 0, .ex (aC (.str "fold"))] (l2 gIx)), .ex (aC (.int 70009))] (l2 gMul)), .pl 3] (l2 gAdd))] (l1 gInt)), .ex (aC (.int 2147483477))] (l2 gMod)) (aC (.str "fold")))))) sNext
      [some (penO c at_ dig (cnt + 1) fold), some (.sh (.int many)), none, none, none] = .nx [some (penO c a' d' (cnt + 1) f'), some (.sh (.int many)), none, y, none] ∧ 0 ≤ a' ∧ a' ≤ c.length ∧ 0 ≤ d' ∧ 0 ≤ f' ∧ f' < 2147483648 := by
    by_cases h : dig = 0 ∧ at_ < c.length
    · obtain ⟨k, rfl⟩ := Int.eq_ofNat_of_zero_le a0
      have hk : k < c.length := by omega
      have hx := List.getElem?_eq_getElem hk
      have ht : (decide (dig = 0) && decide ((k : Int) < c.length)) = true := by simp [h.1]; omega
      by_cases hge : big ≤ c[k]
      · refine ⟨k + 1, c[k] - big, fold, some (.sh (.int c[k])), ?_, by omega, by omega, by omega, f0, f1⟩
        exact (if_yes (cond1.trans (by rw [ht]))).trans ((seq_nx (dr2 hx)).trans ((seq_nx dr3).trans ((if_yes ((cond2 hg').trans (by rw [decide_eq_true hge]))).trans (dr4 hg'))))
      · have hpos : (0 : Int) < 2147483477 := by omega
        refine ⟨k + 1, dig, (fold * 70009 + c[k]) % 2147483477, some (.sh (.int c[k])), ?_, by omega, by omega, d0, Int.emod_nonneg _ (by omega), by have := Int.emod_lt_of_pos (fold * 70009 + c[k]) hpos; omega⟩
        exact (if_yes (cond1.trans (by rw [ht]))).trans ((seq_nx (dr2 hx)).trans ((seq_nx dr3).trans ((if_no ((cond2 hg').trans (by rw [decide_eq_false hge]))).trans (dr5 ⟨f0, f1⟩ hpos))))
    · have ht : (decide (dig = 0) && decide (at_ < c.length)) = false := by
        rw [Bool.and_eq_false_iff, decide_eq_false_iff_not, decide_eq_false_iff_not]
        by_cases h1 : dig = 0
        · exact .inr fun h2 => h ⟨h1, h2⟩
        · exact .inl h1
      exact ⟨at_, dig, fold, none, (if_no (cond1.trans (by rw [ht]))).trans rfl, a0, a1, d0, f0, f1⟩
  obtain ⟨a', d', f', y, e2, a2, a3, d2, f2, f3⟩ := s2
  by_cases h : 0 < d'
  · have hr0 : 0 ≤ d' % many := Int.emod_nonneg _ (by omega)
    have hr1 := Int.emod_lt_of_pos d' hm.1
    refine ⟨d' % many, penO c a' (d' / many) (cnt + 1) f', ?_, hr0, hr1, c, a', d' / many, cnt + 1, f', rfl, hc, a2, a3, Int.ediv_nonneg d2 (by omega), by omega, by omega, f2, f3⟩
    exact def_ret rfl ((seq_nx dr1).trans ((seq_nx e2).trans (seq_ret (cond3.trans (by rw [decide_eq_true h])) ((seq_nx (dr6 hm.1)).trans ((seq_nx (dr7 hm)).trans (ret_ok rfl)))))) rfl
  · have hn : 0 ≤ cnt + 1 ∧ cnt + 1 < 1099511627776 := by omega
    have hpw : (0 : Int) ≤ 17 ∧ (17 : Int) ≤ 1000000 ∧ (f' + (cnt + 1) * 8069 + 41).natAbs < 18446744073709551616 := ⟨by omega, by omega, by omega⟩
    have hm1 : (0 : Int) < 2305843009213693951 := by omega
    have hk1 : (0 : Int) < 128 ∧ (128 : Int) < 1073741824 := ⟨by omega, by omega⟩
    refine ⟨_, penO c a' d' (cnt + 1) f', def_ret rfl ((seq_nx dr1).trans ((seq_nx e2).trans ((seq_skip (cond3.trans (by rw [decide_eq_false h]))).trans ((seq_nx (dr8 hn)).trans (dr9 hpw hm1 hk1 hm.1))))) rfl, Int.emod_nonneg _ (by omega), Int.emod_lt_of_pos _ hm.1, c, a', d', cnt + 1, f', rfl, hc, a2, a3, d2, by omega, by omega, f2, f3⟩
end Lw
end
section
open PySem L2 Den
namespace Lw
theorem PenOk.dic {B : Nat} {o : O} (h : PenOk B o) : ∃ kvs, o = .dic kvs := by
  obtain ⟨c, a, d, n, f, rfl, _⟩ := h
  exact ⟨_, rfl⟩
/-- f(pen, e) -/
theorem callp {F : aF} {g : aE} {pen pen' a a' o : O} {rest : Store} (hd : ∃ kvs, pen = .dic kvs) (hg : g (some pen :: rest) = .ok a (some pen :: rest)) (hF : F [pen, a] = .ret o [pen', a']) :
    aCall 2 [.pl 0, .ex g] [] F (some pen :: rest) = .ok o (some pen' :: rest) := by
  obtain ⟨kvs, rfl⟩ := hd
  simp [aCall, evA, Res.bind, tak, giv, hg, hF]
theorem op_pl_ex {f : O → O → Option O} {g : aE} {i : Nat} {ρ ρ' : Store} {S0 S a w : O} (h0 : ρ[i]? = some (some S0)) (hg : g ρ = .ok a ρ') (h1 : ρ'[i]? = some (some S)) (hf : f S a = some w) : aOp [.pl i, .ex g] (l2 f) ρ = .ok w ρ' := by
  simp [aOp, evA, h0, hg, Res.bind, rsv, h1, l2, hf]
theorem t_pick {B : Nat} {pen S : O} {n : Nat} {Pd : D → Prop} (hp : PenOk B pen) (hB : B < 1099511627775) (hl : gLen S = some (.sh (.int n))) (hn : 0 < n ∧ n < 1073741824) (hx : ∀ k : Nat, k < n → ∃ d, gIx S (.sh (.int (k : Int))) = some (.sh d) ∧ Pd d) :
    ∃ (d : D) (pen' : O), d__law_pick [pen, S] = .ret (.sh d) [pen', S] ∧ Pd d ∧ PenOk (B + 1) pen' := by
  obtain ⟨r, pen', e, r0, r1, hp'⟩ := t_draw (many := (n : Int)) hp hB (by omega)
  obtain ⟨k, rfl⟩ := Int.eq_ofNat_of_zero_le r0
  obtain ⟨d, hd, pd⟩ := hx k (by omega)
  refine ⟨d, pen', ?_, pd, hp'⟩
  unfold d__law_pick
  revert e
  generalize d__law_draw = F
  intro e
  have hc := callp (F := F) (g := aOp [.pl 1] (l1 gLen)) (pen := pen) (a := .sh (.int n)) (rest := [some S]) hp.dic (by simp only [aDef, pre, outs, List.map_cons, List.map_nil, List.replicate, List.cons_append, List.nil_append, List.length_cons, List.length_nil, sSeq, sSet, sRet, sRetN, sIf, sDrop, sPar, sAsg, sNext, aB, aC, aVar, aMove, aFz, aTV, aNot, aAnd, aOr, aIfE, aAndV, aOrV, aOp, aSl, aP, evA, rsv, l1, l2, Res.bind, Res.out, List.getElem?_cons_zero, List.getElem?_cons_succ, List.set_cons_zero, List.set_cons_succ, Option.map_some, Option.map_none, fz, shs, if_true, if_false, ite_true, ite_false, Bool.false_eq_true, reduceIte, reduceCtorEq, Nat.reduceAdd, Nat.reduceSub, Nat.reduceLT, Nat.reduceLeDiff, Nat.reduceEqDiff, Bool.not_true, Bool.not_false, Nat.sub_self, Nat.zero_add, and_self, true_and, and_true, Nat.lt_add_one, decide_true, decide_false, decide_eq_true_eq , gSl_tS, gLen_tS, gLen_lS, gTup_str, gIn_tS, gNotIn_tS, gIn_lS, gNotIn_lS, gEq_int, gEq_str, gNe_int, gNe_str, cut_from, cut_to , gTup_str2, gIx_tup, atI_0, atI_1, atI_2, atI_3, gSl_tup, List.mem_cons, List.not_mem_nil, or_false, false_or, true_or, or_true, not_true_eq_false, not_false_eq_true , aCall, tak, giv, List.append_nil, aMeth, k_never_until, k_never_after, k_never_turns, k_never_most, k_never_within, k_never_and, k_never_or, k_until_never, k_until_after, k_until_turns, k_until_most, k_until_within, k_until_and, k_until_or, k_after_never, k_after_until, k_after_turns, k_after_most, k_after_within, k_after_and, k_after_or, k_turns_never, k_turns_until, k_turns_after, k_turns_most, k_turns_within, k_turns_and, k_turns_or, k_most_never, k_most_until, k_most_after, k_most_turns, k_most_within, k_most_and, k_most_or, k_within_never, k_within_until, k_within_after, k_within_turns, k_within_most, k_within_and, k_within_or, k_and_never, k_and_until, k_and_after, k_and_turns, k_and_most, k_and_within, k_and_or, k_or_never, k_or_until, k_or_after, k_or_turns, k_or_most, k_or_within, k_or_and, hl]) e
  refine def_ret (ρ := [some pen', some S]) rfl (ret_ok ?_) rfl
  exact op_pl_ex rfl hc rfl hd
end Lw
end
section
open PySem L2 Den
namespace Lw
theorem key_nd : (([.inr "cells", .inr "at", .inr "digits", .inr "count", .inr "fold"] : List Key)).Nodup := by
  have e : ∀ {a b : Str}, ¬ a = b → ¬ ((Sum.inr a : Key) = .inr b) := fun h z => h (Sum.inr.inj z)
  simp only [List.nodup_cons, List.mem_cons, List.not_mem_nil, or_false, not_or, not_false_eq_true, List.nodup_nil, and_true]
  exact ⟨⟨e q1, e q2, e q3, e q4⟩, ⟨e q5, e q6, e q7⟩, ⟨e q8, e q9⟩, e q10⟩
theorem disp_pen {ns : List Int} {f : Int} {x : Option O} : aDisp [.ex (aFz (aC (.str "cells"))), .ex (aFz (aOp [.pl 0] (l1 gList))), .ex (aFz (aC (.str "at"))), .ex (aFz (aC (.int 0))), .ex (aFz (aC (.str "digits"))), .ex (aFz (aC (.int 0))), .ex (aFz (aC (.str "count"))), .ex (aFz (aC (.int 0))), .ex (aFz (aC (.str "fold"))), .ex (aFz (aVar 1))]
    [some (.sh (.wls (ns.map D.int))), some (.sh (.int f)), x] = .ok (penO ns 0 0 0 f) [some (.sh (.wls (ns.map D.int))), some (.sh (.int f)), x] := by
  have hgl : gList (.sh (.wls (ns.map D.int))) = some (oI ns) := rfl
  have e : fz (oI ns) = lI ns := fz_oI ns
  have ev : evA [.ex (aFz (aC (.str "cells"))), .ex (aFz (aOp [.pl 0] (l1 gList))), .ex (aFz (aC (.str "at"))), .ex (aFz (aC (.int 0))), .ex (aFz (aC (.str "digits"))), .ex (aFz (aC (.int 0))), .ex (aFz (aC (.str "count"))), .ex (aFz (aC (.int 0))), .ex (aFz (aC (.str "fold"))), .ex (aFz (aVar 1))]
      [some (.sh (.wls (ns.map D.int))), some (.sh (.int f)), x] = .ok [.o (.sh (.str "cells")), .o (.sh (lI ns)), .o (.sh (.str "at")), .o (.sh (.int 0)), .o (.sh (.str "digits")), .o (.sh (.int 0)), .o (.sh (.str "count")), .o (.sh (.int 0)), .o (.sh (.str "fold")), .o (.sh (.int f))] [some (.sh (.wls (ns.map D.int))), some (.sh (.int f)), x] := by
    simp only [aDef, pre, outs, List.map_cons, List.map_nil, List.replicate, List.cons_append, List.nil_append, List.length_cons, List.length_nil, sSeq, sSet, sRet, sRetN, sIf, sDrop, sPar, sAsg, sNext, aB, aC, aVar, aMove, aFz, aTV, aNot, aAnd, aOr, aIfE, aAndV, aOrV, aOp, aSl, aP, evA, rsv, l1, l2, Res.bind, Res.out, List.getElem?_cons_zero, List.getElem?_cons_succ, List.set_cons_zero, List.set_cons_succ, Option.map_some, Option.map_none, fz, shs, if_true, if_false, ite_true, ite_false, Bool.false_eq_true, reduceIte, reduceCtorEq, Nat.reduceAdd, Nat.reduceSub, Nat.reduceLT, Nat.reduceLeDiff, Nat.reduceEqDiff, Bool.not_true, Bool.not_false, Nat.sub_self, Nat.zero_add, and_self, true_and, and_true, Nat.lt_add_one, decide_true, decide_false, decide_eq_true_eq , gSl_tS, gLen_tS, gLen_lS, gTup_str, gIn_tS, gNotIn_tS, gIn_lS, gNotIn_lS, gEq_int, gEq_str, gNe_int, gNe_str, cut_from, cut_to , gTup_str2, gIx_tup, atI_0, atI_1, atI_2, atI_3, gSl_tup, List.mem_cons, List.not_mem_nil, or_false, false_or, true_or, or_true, not_true_eq_false, not_false_eq_true , aCall, tak, giv, List.append_nil, aMeth, k_never_until, k_never_after, k_never_turns, k_never_most, k_never_within, k_never_and, k_never_or, k_until_never, k_until_after, k_until_turns, k_until_most, k_until_within, k_until_and, k_until_or, k_after_never, k_after_until, k_after_turns, k_after_most, k_after_within, k_after_and, k_after_or, k_turns_never, k_turns_until, k_turns_after, k_turns_most, k_turns_within, k_turns_and, k_turns_or, k_most_never, k_most_until, k_most_after, k_most_turns, k_most_within, k_most_and, k_most_or, k_within_never, k_within_until, k_within_after, k_within_turns, k_within_most, k_within_and, k_within_or, k_and_never, k_and_until, k_and_after, k_and_turns, k_and_most, k_and_within, k_and_or, k_or_never, k_or_until, k_or_after, k_or_turns, k_or_most, k_or_within, k_or_and, hgl, e]
  have pr : prD [.sh (.str "cells"), .sh (lI ns), .sh (.str "at"), .sh (.int 0), .sh (.str "digits"), .sh (.int 0), .sh (.str "count"), .sh (.int 0), .sh (.str "fold"), .sh (.int f)] = some [(.inr "cells", lI ns), (.inr "at", .int 0), (.inr "digits", .int 0), (.inr "count", .int 0), (.inr "fold", .int f)] := rfl
  have rv : rsv [some (.sh (.wls (ns.map D.int))), some (.sh (.int f)), x] [.o (.sh (.str "cells")), .o (.sh (lI ns)), .o (.sh (.str "at")), .o (.sh (.int 0)), .o (.sh (.str "digits")), .o (.sh (.int 0)), .o (.sh (.str "count")), .o (.sh (.int 0)), .o (.sh (.str "fold")), .o (.sh (.int f))] = some [.sh (.str "cells"), .sh (lI ns), .sh (.str "at"), .sh (.int 0), .sh (.str "digits"), .sh (.int 0), .sh (.str "count"), .sh (.int 0), .sh (.str "fold"), .sh (.int f)] := rfl
  unfold aDisp
  rw [ev]
  simp only [Res.bind, rv, pr]
  rw [if_pos ⟨key_nd, by simp⟩]
  rfl
theorem pen_turn {A : O} {f n : Int} (h : 0 ≤ f ∧ f < 1000000241) : sSet 1 (aOp [.ex (aOp [.ex (aOp [.ex (aOp [.pl 1, .ex (aC (.int 101))] (l2 gMul)), .pl 2] (l2 gAdd))] (l1 gInt)), .ex (aC (.int 1000000241))] (l2 gMod)) [some A, some (.sh (.int f)), some (.sh (.int n))] =
    .nx [some A, some (.sh (.int ((f * 101 + n) % 1000000241))), some (.sh (.int n))] := by
  have h1 := mul_small (i := f) (j := 101) (by omega)
  have h2 := mod_pos (i := f * 101 + n) (j := 1000000241) (by omega)
  refine set_ok (i := 1) (o := .sh (.int ((f * 101 + n) % 1000000241))) (ρ' := [some A, some (.sh (.int f)), some (.sh (.int n))]) ?_ (by simp)
  generalize (101 : Int) = m1 at h1 h2 ⊢
  generalize (1000000241 : Int) = m2 at h2 ⊢
  simp only [aDef, pre, outs, List.map_cons, List.map_nil, List.replicate, List.cons_append, List.nil_append, List.length_cons, List.length_nil, sSeq, sSet, sRet, sRetN, sIf, sDrop, sPar, sAsg, sNext, aB, aC, aVar, aMove, aFz, aTV, aNot, aAnd, aOr, aIfE, aAndV, aOrV, aOp, aSl, aP, evA, rsv, l1, l2, Res.bind, Res.out, List.getElem?_cons_zero, List.getElem?_cons_succ, List.set_cons_zero, List.set_cons_succ, Option.map_some, Option.map_none, fz, shs, if_true, if_false, ite_true, ite_false, Bool.false_eq_true, reduceIte, reduceCtorEq, Nat.reduceAdd, Nat.reduceSub, Nat.reduceLT, Nat.reduceLeDiff, Nat.reduceEqDiff, Bool.not_true, Bool.not_false, Nat.sub_self, Nat.zero_add, and_self, true_and, and_true, Nat.lt_add_one, decide_true, decide_false, decide_eq_true_eq , gSl_tS, gLen_tS, gLen_lS, gTup_str, gIn_tS, gNotIn_tS, gIn_lS, gNotIn_lS, gEq_int, gEq_str, gNe_int, gNe_str, cut_from, cut_to , gTup_str2, gIx_tup, atI_0, atI_1, atI_2, atI_3, gSl_tup, List.mem_cons, List.not_mem_nil, or_false, false_or, true_or, or_true, not_true_eq_false, not_false_eq_true , aCall, tak, giv, List.append_nil, aMeth, k_never_until, k_never_after, k_never_turns, k_never_most, k_never_within, k_never_and, k_never_or, k_until_never, k_until_after, k_until_turns, k_until_most, k_until_within, k_until_and, k_until_or, k_after_never, k_after_until, k_after_turns, k_after_most, k_after_within, k_after_and, k_after_or, k_turns_never, k_turns_until, k_turns_after, k_turns_most, k_turns_within, k_turns_and, k_turns_or, k_most_never, k_most_until, k_most_after, k_most_turns, k_most_within, k_most_and, k_most_or, k_within_never, k_within_until, k_within_after, k_within_turns, k_within_most, k_within_and, k_within_or, k_and_never, k_and_until, k_and_after, k_and_turns, k_and_most, k_and_within, k_and_or, k_or_never, k_or_until, k_or_after, k_or_turns, k_or_most, k_or_within, k_or_and, h1, gAdd, gInt, h2]
theorem pen_loop {A : O} {body : aS} (hb : ∀ f n : Int, 0 ≤ f ∧ f < 1000000241 → body [some A, some (.sh (.int f)), some (.sh (.int n))] = .nx [some A, some (.sh (.int ((f * 101 + n) % 1000000241))), some (.sh (.int n))]) :
    ∀ (ns : List Int) (f : Int) (x : Option O), 0 ≤ f ∧ f < 1000000241 → ∃ f' y, forD (aN 2) body (ns.map D.int) [some A, some (.sh (.int f)), x] = .nx [some A, some (.sh (.int f')), y] ∧ 0 ≤ f' ∧ f' < 1000000241
  | [], f, x, h => ⟨f, x, rfl, h⟩
  | n :: ns, f, x, h => by
    have hp : (0 : Int) < 1000000241 := by omega
    obtain ⟨f', y, e, h'⟩ := pen_loop hb ns ((f * 101 + n) % 1000000241) (some (.sh (.int n))) ⟨Int.emod_nonneg _ (by omega), Int.emod_lt_of_pos _ hp⟩
    refine ⟨f', y, ?_, h'⟩
    rw [List.map_cons, forD, aN_in (by simp)]
    simp only [List.set_cons_succ, List.set_cons_zero]
    rw [hb f n h]
    exact e
theorem for_any {src : aI} {tg : aG} {body : aS} {ρ ρ' : Store} {ds : List D} (h : src ρ = .ok ds ρ') : sFor src tg body ρ = forD tg body ds ρ' := by
  unfold sFor
  rw [h]
  rfl
theorem t_pen {ns : List Int} (h : ns.length ≤ 63) : ∃ pen, d__law_pen [.sh (.wls (ns.map D.int))] = .ret pen [.sh (.wls (ns.map D.int))] ∧ PenOk 0 pen := by
  obtain ⟨f, y, e, h0, h1⟩ := pen_loop (A := .sh (.wls (ns.map D.int))) (fun f n h => pen_turn h) ns 11 none (by omega)
  refine ⟨penO ns 0 0 0 f, ?_, ns, 0, 0, 0, f, rfl, h, by omega, by omega, by omega, by omega, by omega, h0, by omega⟩
  unfold d__law_pen
  exact def_ret rfl ((seq_nx (set_ok (i := 1) (o := .sh (.int 11)) (ρ' := [some (.sh (.wls (ns.map D.int))), none, none]) rfl (by simp))).trans ((seq_nx ((for_any (ρ' := [some (.sh (.wls (ns.map D.int))), some (.sh (.int 11)), none]) rfl).trans e)).trans (ret_ok disp_pen))) rfl
end Lw
end
section
open PySem L2 Den
namespace Lw
theorem meth_ok {T : String} {i : Nat} {g : aE} {f : O → List O → Option (O × O)} {ρ ρ1 : Store} {o0 ox a o' w : O} (h0 : ρ[i]? = some (some o0)) (hk : kindO o0 = T) (hg : g ρ = .ok a ρ1) (h1 : ρ1[i]? = some (some ox)) (hf : f ox [a] = some (o', w)) : aMeth T i [.ex g] f ρ = .ok w (ρ1.set i (some o')) := by
  simp [aMeth, evA, h0, hk, hg, Res.bind, rsv, h1, hf]
theorem fz_ok {g : aE} {ρ ρ' : Store} {o : O} (h : g ρ = .ok o ρ') : aFz g ρ = .ok (.sh (fz o)) ρ' := by
  simp [aFz, h, Res.bind]
theorem drop_ok {g : aE} {ρ ρ' : Store} {o : O} (h : g ρ = .ok o ρ') : sDrop g ρ = .nx ρ' := by
  unfold sDrop
  rw [h]
  rfl
theorem seqIx {k n : Nat} (h : k < n) : seqIndex? (k : Int) n = some k := (ixN_seq (by unfold ixN; rw [if_pos (by omega), if_pos (by omega)]; simp)).1
theorem popAt_ok {left : List D} {k : Nat} {d : D} (hk : left[k]? = some d) (hl : left.length ≤ 1000000) : fPopAt (.lst (left.map O.sh)) [.sh (.int (k : Int))] = some (.lst ((left.eraseIdx k).map O.sh), .sh d) := by
  have hlt : k < left.length := (List.getElem?_eq_some_iff.mp hk).1
  have h1 : seqIndex? (k : Int) (left.map O.sh).length = some k := by rw [List.length_map]; exact seqIx hlt
  have h2 : (left.map O.sh)[k]? = some (.sh d) := by rw [List.getElem?_map, hk]; rfl
  unfold fPopAt
  simp only [h1, h2]
  rw [if_pos (by constructor <;> omega), map_erase]
theorem append_ok {found : List D} {d : D} (hl : found.length ≤ 1000000) : fAppend (.lst (found.map O.sh)) [.sh d] = some (.lst ((found ++ [d]).map O.sh), .sh .non) := by
  unfold fAppend
  simp only
  rw [if_pos (by rw [List.length_map]; omega), List.map_append]
  rfl
theorem shuf_turn {F : aF} {pen pen' : O} {S x : Option O} {left found : List D} {k : Nat} {d : D} (hd : ∃ kvs, pen = .dic kvs) (hF : F [pen, .sh (.int left.length)] = .ret (.sh (.int (k : Int))) [pen', .sh (.int left.length)]) (hk : left[k]? = some d) (hl : left.length ≤ 1000000) (hf : found.length ≤ 1000000) :
    sDrop (aMeth "list" 4 [.ex (aFz (aMeth "list" 3 [.ex (aFz (aCall 2 [.pl 0, .ex (aOp [.pl 3] (l1 gLen))] [] F))] fPopAt))] fAppend) [some pen, S, x, some (.lst (left.map O.sh)), some (.lst (found.map O.sh))] =
      .nx [some pen', S, x, some (.lst ((left.eraseIdx k).map O.sh)), some (.lst ((found ++ [d]).map O.sh))] := by
  have hlen : gLen (.lst (left.map O.sh)) = some (.sh (.int left.length)) := by simp [gLen]
  have hc := callp (F := F) (g := aOp [.pl 3] (l1 gLen)) (pen := pen) (a := .sh (.int left.length)) (rest := [S, x, some (.lst (left.map O.sh)), some (.lst (found.map O.sh))]) hd (by simp only [aDef, pre, outs, List.map_cons, List.map_nil, List.replicate, List.cons_append, List.nil_append, List.length_cons, List.length_nil, sSeq, sSet, sRet, sRetN, sIf, sDrop, sPar, sAsg, sNext, aB, aC, aVar, aMove, aFz, aTV, aNot, aAnd, aOr, aIfE, aAndV, aOrV, aOp, aSl, aP, evA, rsv, l1, l2, Res.bind, Res.out, List.getElem?_cons_zero, List.getElem?_cons_succ, List.set_cons_zero, List.set_cons_succ, Option.map_some, Option.map_none, fz, shs, if_true, if_false, ite_true, ite_false, Bool.false_eq_true, reduceIte, reduceCtorEq, Nat.reduceAdd, Nat.reduceSub, Nat.reduceLT, Nat.reduceLeDiff, Nat.reduceEqDiff, Bool.not_true, Bool.not_false, Nat.sub_self, Nat.zero_add, and_self, true_and, and_true, Nat.lt_add_one, decide_true, decide_false, decide_eq_true_eq , gSl_tS, gLen_tS, gLen_lS, gTup_str, gIn_tS, gNotIn_tS, gIn_lS, gNotIn_lS, gEq_int, gEq_str, gNe_int, gNe_str, cut_from, cut_to , gTup_str2, gIx_tup, atI_0, atI_1, atI_2, atI_3, gSl_tup, List.mem_cons, List.not_mem_nil, or_false, false_or, true_or, or_true, not_true_eq_false, not_false_eq_true , aCall, tak, giv, List.append_nil, aMeth, k_never_until, k_never_after, k_never_turns, k_never_most, k_never_within, k_never_and, k_never_or, k_until_never, k_until_after, k_until_turns, k_until_most, k_until_within, k_until_and, k_until_or, k_after_never, k_after_until, k_after_turns, k_after_most, k_after_within, k_after_and, k_after_or, k_turns_never, k_turns_until, k_turns_after, k_turns_most, k_turns_within, k_turns_and, k_turns_or, k_most_never, k_most_until, k_most_after, k_most_turns, k_most_within, k_most_and, k_most_or, k_within_never, k_within_until, k_within_after, k_within_turns, k_within_most, k_within_and, k_within_or, k_and_never, k_and_until, k_and_after, k_and_turns, k_and_most, k_and_within, k_and_or, k_or_never, k_or_until, k_or_after, k_or_turns, k_or_most, k_or_within, k_or_and, hlen]) hF
  have m1 := meth_ok (T := "list") (i := 3) (f := fPopAt) (o0 := .lst (left.map O.sh)) (ox := .lst (left.map O.sh)) (by rfl) rfl (fz_ok hc) (by rfl) (popAt_ok hk hl)
  exact drop_ok (meth_ok (T := "list") (i := 4) (f := fAppend) (o0 := .lst (found.map O.sh)) (ox := .lst (found.map O.sh)) rfl rfl (fz_ok m1) rfl (append_ok hf))
theorem shuf_loop {S : Option O} : ∀ (n : Nat) (lo : Int) (B : Nat) (pen : O) (x : Option O) (left found : List D), left.length = n → found.length + n ≤ 1000 → PenOk B pen → B + n < 1099511627775 →
    ∃ pen' y es, forD (aN 2) (sDrop (aMeth "list" 4 [.ex (aFz (aMeth "list" 3 [.ex (aFz (aCall 2 [.pl 0, .ex (aOp [.pl 3] (l1 gLen))] [] (d__law_draw)))] fPopAt))] fAppend)) ((List.range n).map fun i : Nat => D.int (lo + (i : Int))) [some pen, S, x, some (.lst (left.map O.sh)), some (.lst (found.map O.sh))] =
      .nx [some pen', S, y, some (.lst []), some (.lst ((found ++ es).map O.sh))] ∧ es.Perm left ∧ PenOk (B + n) pen'
  | 0, lo, B, pen, x, left, found, h, _, hp, _ => by
    have : left = [] := List.eq_nil_of_length_eq_zero h
    subst this
    exact ⟨pen, x, [], by rw [List.append_nil]; rfl, .refl _, hp⟩
  | n + 1, lo, B, pen, x, left, found, h, h2, hp, hB => by
    obtain ⟨r, pen1, e, r0, r1, hp1⟩ := t_draw (many := (left.length : Int)) hp (by omega) (by omega)
    obtain ⟨k, rfl⟩ := Int.eq_ofNat_of_zero_le r0
    have hk : k < left.length := by omega
    have hx := List.getElem?_eq_getElem hk
    obtain ⟨pen', y, es, e2, pm, hp'⟩ := shuf_loop (S := S) n (lo + 1) (B + 1) pen1 (some (.sh (.int (lo + ((0 : Nat) : Int))))) (left.eraseIdx k) (found ++ [left[k]]) (by rw [List.length_eraseIdx_of_lt hk]; omega) (by simp; omega) hp1 (by omega)
    refine ⟨pen', y, left[k] :: es, ?_, ?_, by have := hp'; rw [Nat.add_assoc, Nat.add_comm 1 n] at this; exact this⟩
    · rw [List.range_succ_eq_map, List.map_cons, List.map_map, forD, aN_in (by simp)]
      simp only [List.set_cons_succ, List.set_cons_zero]
      rw [shuf_turn hp.dic e hx (by omega) (by omega)]
      have er : (List.range n).map ((fun i : Nat => D.int (lo + (i : Int))) ∘ Nat.succ) = (List.range n).map fun i : Nat => D.int (lo + 1 + (i : Int)) := by
        apply List.map_congr_left
        intro i _
        simp only [Function.comp, D.int.injEq]
        omega
      rw [er]
      simp only
      rw [e2, List.append_assoc]
      rfl
    · exact (pm.cons _).trans (perm_erase hx).symm
end Lw
end
section
open PySem L2 Den
namespace Lw
theorem par_ok {i j : Nat} {g h : aE} {ρ ρ1 ρ2 : Store} {o u : O} (h1 : g ρ = .ok o ρ1) (h2 : h ρ1 = .ok u ρ2) (h3 : i < ρ2.length) (h4 : j < ρ2.length) : sPar i j g h ρ = .nx ((ρ2.set i (some o)).set j (some u)) := by
  unfold sPar
  simp only [h1, Res.out, h2]
  rw [if_pos ⟨h3, h4⟩]
theorem sFor_rng1 {g : aE} {tg : aG} {body : aS} {ρ ρ' : Store} {j : Int} (h1 : g ρ = .ok (.sh (.int j)) ρ') (hj : -1000000000 ≤ j ∧ j ≤ 1000000000) : sFor (aRng1 g) tg body ρ = forD tg body (rngD 0 j.toNat) ρ' := by
  unfold sFor aRng1
  rw [h1]
  simp only [Res.bind]
  rw [if_pos hj]
  rfl
theorem op1_ok {f : O → Option O} {i : Nat} {ρ : Store} {S w : O} (h : ρ[i]? = some (some S)) (hf : f S = some w) : aOp [.pl i] (l1 f) ρ = .ok w ρ := by
  simp [aOp, evA, h, Res.bind, rsv, l1, hf]
theorem t_shuffled {B : Nat} {pen S : O} {ds : List D} (hp : PenOk B pen) (hB : B + ds.length < 1099511627775) (hg : gList S = some (.lst (ds.map O.sh))) (hl : gLen S = some (.sh (.int ds.length))) (hn : ds.length ≤ 500) :
    ∃ (es : List D) (pen' : O), d__law_shuffled [pen, S] = .ret (.lst (es.map O.sh)) [pen', S] ∧ es.Perm ds ∧ PenOk (B + ds.length) pen' := by
  obtain ⟨pen', y, es, e, pm, hp'⟩ := shuf_loop (S := some S) ds.length 0 B pen none ds [] rfl (by simp; omega) hp hB
  refine ⟨es, pen', ?_, pm, hp'⟩
  have h1 := par_ok (i := 3) (j := 4) (g := aOp [.pl 1] (l1 gList)) (h := aOp [] gLstS) (ρ := [some pen, some S, none, none, none]) (op1_ok rfl hg) (u := .lst []) (ρ2 := [some pen, some S, none, none, none]) rfl (by simp) (by simp)
  have h2 := sFor_rng1 (g := aOp [.pl 1] (l1 gLen)) (tg := aN 2) (body := sDrop (aMeth "list" 4 [.ex (aFz (aMeth "list" 3 [.ex (aFz (aCall 2 [.pl 0, .ex (aOp [.pl 3] (l1 gLen))] [] (d__law_draw)))] fPopAt))] fAppend)) (ρ := [some pen, some S, none, some (.lst (ds.map O.sh)), some (.lst [])]) (op1_ok rfl hl) (by omega)
  have e1 : rngD 0 ((ds.length : Nat) : Int).toNat = (List.range ds.length).map fun i : Nat => D.int (0 + (i : Int)) := by rw [Int.toNat_natCast]; rfl
  rw [e1] at h2
  have h3 := h2.trans e
  unfold d__law_shuffled
  revert h3
  generalize sFor (aRng1 (aOp [.pl 1] (l1 gLen))) (aN 2) (sDrop (aMeth "list" 4 [.ex (aFz (aMeth "list" 3 [.ex (aFz (aCall 2 [.pl 0, .ex (aOp [.pl 3] (l1 gLen))] [] (d__law_draw)))] fPopAt))] fAppend)) = F
  intro h3
  exact def_ret rfl ((seq_nx h1).trans ((seq_nx h3).trans (ret_ok rfl))) rfl
end Lw
end
section
open PySem L2 Den
namespace Lw
theorem call2_shW {F : aF} {a : D} {W o : O} {rest : Store} (hW : (∃ d, W = .sh d) ∨ ∃ os, W = .lst os) (h : F [.sh a, W] = .ret o [.sh a, W]) : aCall 2 [.pl 0, .pl 1] [] F (some (.sh a) :: some W :: rest) = .ok o (some (.sh a) :: some W :: rest) := by
  rcases hW with ⟨d, rfl⟩ | ⟨os, rfl⟩
  · simp [aCall, evA, Res.bind, tak, giv, h]
  · simp [aCall, evA, Res.bind, tak, giv, h]
theorem t_is_broken {s : Sen} (hs : s.ok) (hd : s.dep < 8) {w : List Str} (hw : okSs w) (hl : w.length ≤ 100000) : d_is_broken [.sh s.d, .sh (tS w)] = .ret (.sh (.bl (decide (s.sat (fun p => pa p w) ≤ w.length)))) [.sh s.d, .sh (tS w)] := by
  have h := t_broken_at hs hd hw hl (W := .sh (tS w)) (gLen_tS w) (fun k x hx => gIx_tS hx)
  unfold d_is_broken
  revert h
  generalize d_broken_at = F
  generalize s.sat (fun p => pa p w) = n
  intro h
  have hc := call2_shW (F := F) (rest := []) (.inl ⟨_, rfl⟩) h
  refine def_ret (ρ := [some (.sh s.d), some (.sh (tS w))]) rfl (ret_ok ?_) rfl
  have hm : List.map some (pre [true, true] [O.sh s.d, .sh (tS w)]) ++ List.replicate (2 - [true, true].length) none = [some (O.sh s.d), some (.sh (tS w))] := rfl
  rw [hm]
  have ho : ∀ (g : aE) (o : O) (ρ : Store) (b : Bool), g ρ = .ok o ρ → gNotN o = some (.sh (.bl b)) → aOp [.ex g] (l1 gNotN) ρ = .ok (.sh (.bl b)) ρ := fun g o ρ b h1 h2 => by simp [aOp, evA, h1, Res.bind, rsv, l1, h2]
  refine ho _ _ _ _ hc ?_
  by_cases hn : n ≤ w.length
  · rw [if_pos hn, decide_eq_true hn]; rfl
  · rw [if_neg hn, decide_eq_false hn]; rfl
end Lw
end
section
open PySem L2 Den
namespace Lw
theorem sl_to {g : aE} {od : Od} {ρ ρ1 ρ2 : Store} {rs : List Rv} {o w : O} {j : Int} (h1 : evA [od] ρ = .ok rs ρ1) (h2 : g ρ1 = .ok (.sh (.int j)) ρ2) (h3 : rsv ρ2 rs = some [o]) (h4 : gSl o none (some j) = some w) : aSl od none (some g) gSl ρ = .ok w ρ2 := by
  simp [aSl, aP, h1, h2, h3, Res.bind, h4]
theorem gSl_lst (es : List D) (lo hi : Option Int) : gSl (.lst (es.map O.sh)) lo hi = some (.lst ((cutD es lo hi).map O.sh)) := by
  have e : gSl (.lst (es.map O.sh)) lo hi = (match lstD (.lst (es.map O.sh)) with
      | some ds => some (.lst ((cutD ds lo hi).map O.sh))
      | none => none) := rfl
  have h : lstD (.lst (es.map O.sh)) = some es := shs_map es
  rw [e, h]
/-- f(pen, S) -/
theorem callpp {F : aF} {pen pen' S o : O} {rest : Store} (hd : ∃ kvs, pen = .dic kvs) (hS : (∃ d, S = .sh d) ∨ ∃ os, S = .lst os) (hF : F [pen, S] = .ret o [pen', S]) : aCall 2 [.pl 0, .pl 1] [] F (some pen :: some S :: rest) = .ok o (some pen' :: some S :: rest) := by
  obtain ⟨kvs, rfl⟩ := hd
  rcases hS with ⟨d, rfl⟩ | ⟨os, rfl⟩
  · simp [aCall, evA, Res.bind, tak, giv, hF]
  · simp [aCall, evA, Res.bind, tak, giv, hF]
theorem t_some {B : Nat} {pen S : O} {ds : List D} {most : Nat} (hp : PenOk B pen) (hB : B + ds.length < 1099511627774) (hS : (∃ d, S = .sh d) ∨ ∃ os, S = .lst os) (hg : gList S = some (.lst (ds.map O.sh))) (hl : gLen S = some (.sh (.int ds.length))) (hn : ds.length ≤ 500) (hm : most ≤ 500) :
    ∃ (es : List D) (pen' : O), d__law_some [pen, S, .sh (.int most)] = .ret (.lst (es.map O.sh)) [pen', S, .sh (.int most)] ∧ es.length ≤ most ∧ (∃ r, (es ++ r).Perm ds) ∧ PenOk (B + ds.length + 1) pen' := by
  obtain ⟨es, pen1, e1, pm, hp1⟩ := t_shuffled hp (by omega) hg hl hn
  obtain ⟨r, pen2, e2, r0, r1, hp2⟩ := t_draw (many := (((min most ds.length : Nat) : Int) + 1)) hp1 (by omega) (by omega)
  obtain ⟨k, rfl⟩ := Int.eq_ofNat_of_zero_le r0
  refine ⟨es.take k, pen2, ?_, by rw [List.length_take]; omega, ⟨es.drop k, by rw [List.take_append_drop]; exact pm⟩, hp2⟩
  unfold d__law_some
  revert e1 e2
  generalize d__law_shuffled = F
  generalize d__law_draw = G
  intro e1 e2
  have c1 := callpp (F := F) (rest := [some (.sh (.int most))]) hp.dic hS e1
  have hmin : gMin2 (.sh (.int most)) (.sh (.int ds.length)) = some (.sh (.int ((min most ds.length : Nat) : Int))) := by
    show some (O.sh (D.int _)) = _
    congr 3
    split <;> omega
  have a1 : aOp [.ex (aOp [.pl 2, .ex (aOp [.pl 1] (l1 gLen))] (l2 gMin2)), .ex (aC (.int 1))] (l2 gAdd) [some pen1, some S, some (.sh (.int most))] = .ok (.sh (.int (((min most ds.length : Nat) : Int) + 1))) [some pen1, some S, some (.sh (.int most))] := by
    simp only [aDef, pre, outs, List.map_cons, List.map_nil, List.replicate, List.cons_append, List.nil_append, List.length_cons, List.length_nil, sSeq, sSet, sRet, sRetN, sIf, sDrop, sPar, sAsg, sNext, aB, aC, aVar, aMove, aFz, aTV, aNot, aAnd, aOr, aIfE, aAndV, aOrV, aOp, aSl, aP, evA, rsv, l1, l2, Res.bind, Res.out, List.getElem?_cons_zero, List.getElem?_cons_succ, List.set_cons_zero, List.set_cons_succ, Option.map_some, Option.map_none, fz, shs, if_true, if_false, ite_true, ite_false, Bool.false_eq_true, reduceIte, reduceCtorEq, Nat.reduceAdd, Nat.reduceSub, Nat.reduceLT, Nat.reduceLeDiff, Nat.reduceEqDiff, Bool.not_true, Bool.not_false, Nat.sub_self, Nat.zero_add, and_self, true_and, and_true, Nat.lt_add_one, decide_true, decide_false, decide_eq_true_eq , gSl_tS, gLen_tS, gLen_lS, gTup_str, gIn_tS, gNotIn_tS, gIn_lS, gNotIn_lS, gEq_int, gEq_str, gNe_int, gNe_str, cut_from, cut_to , gTup_str2, gIx_tup, atI_0, atI_1, atI_2, atI_3, gSl_tup, List.mem_cons, List.not_mem_nil, or_false, false_or, true_or, or_true, not_true_eq_false, not_false_eq_true , aCall, tak, giv, List.append_nil, aMeth, k_never_until, k_never_after, k_never_turns, k_never_most, k_never_within, k_never_and, k_never_or, k_until_never, k_until_after, k_until_turns, k_until_most, k_until_within, k_until_and, k_until_or, k_after_never, k_after_until, k_after_turns, k_after_most, k_after_within, k_after_and, k_after_or, k_turns_never, k_turns_until, k_turns_after, k_turns_most, k_turns_within, k_turns_and, k_turns_or, k_most_never, k_most_until, k_most_after, k_most_turns, k_most_within, k_most_and, k_most_or, k_within_never, k_within_until, k_within_after, k_within_turns, k_within_most, k_within_and, k_within_or, k_and_never, k_and_until, k_and_after, k_and_turns, k_and_most, k_and_within, k_and_or, k_or_never, k_or_until, k_or_after, k_or_turns, k_or_most, k_or_within, k_or_and, hl, hmin, gAdd]
  have c2 := callp (F := G) (rest := [some S, some (.sh (.int most))]) hp1.dic a1 e2
  refine def_ret (ρ := [some pen2, some S, some (.sh (.int most))]) rfl (ret_ok ?_) rfl
  refine sl_to (ρ1 := [some pen1, some S, some (.sh (.int most))]) (rs := [.o (.lst (es.map O.sh))]) (j := (k : Int)) ?_ c2 rfl (by rw [gSl_lst, cut_to])
  have hm2 : List.map some (pre [true, true, true] [pen, S, O.sh (D.int most)]) ++ List.replicate (3 - [true, true, true].length) none = [some pen, some S, some (.sh (.int most))] := rfl
  rw [hm2]
  simp [evA, c1, Res.bind]
end Lw
end
section
open PySem L2 Den
namespace Lw
theorem isi_int_tuple (i : Int) : gIsi "tuple" (.sh (.int i)) = some (.sh (.bl false)) := rfl
theorem isi_int_int (i : Int) : gIsi "int" (.sh (.int i)) = some (.sh (.bl true)) := rfl
theorem isi_int_bool (i : Int) : gIsi "bool" (.sh (.int i)) = some (.sh (.bl false)) := rfl
theorem isi_bl_tuple (b : Bool) : gIsi "tuple" (.sh (.bl b)) = some (.sh (.bl false)) := rfl
theorem isi_non_tuple : gIsi "tuple" (.sh .non) = some (.sh (.bl false)) := rfl
theorem isi_tup_tuple (ds : List D) : gIsi "tuple" (.sh (.tup ds)) = some (.sh (.bl true)) := rfl
theorem same_int (n : Nat) (i : Int) : d__law_same (n + 1) [.sh (.int i), .sh (.int i)] = .ret (.sh (.bl true)) [.sh (.int i), .sh (.int i)] := by
  unfold d__law_same b__law_same
  simp only [aDef, pre, outs, List.map_cons, List.map_nil, List.replicate, List.cons_append, List.nil_append, List.length_cons, List.length_nil, sSeq, sSet, sRet, sRetN, sIf, sDrop, sPar, sAsg, sNext, aB, aC, aVar, aMove, aFz, aTV, aNot, aAnd, aOr, aIfE, aAndV, aOrV, aOp, aSl, aP, evA, rsv, l1, l2, Res.bind, Res.out, List.getElem?_cons_zero, List.getElem?_cons_succ, List.set_cons_zero, List.set_cons_succ, Option.map_some, Option.map_none, fz, shs, if_true, if_false, ite_true, ite_false, Bool.false_eq_true, reduceIte, reduceCtorEq, Nat.reduceAdd, Nat.reduceSub, Nat.reduceLT, Nat.reduceLeDiff, Nat.reduceEqDiff, Bool.not_true, Bool.not_false, Nat.sub_self, Nat.zero_add, and_self, true_and, and_true, Nat.lt_add_one, decide_true, decide_false, decide_eq_true_eq , gSl_tS, gLen_tS, gLen_lS, gTup_str, gIn_tS, gNotIn_tS, gIn_lS, gNotIn_lS, gEq_int, gEq_str, gNe_int, gNe_str, cut_from, cut_to , gTup_str2, gIx_tup, atI_0, atI_1, atI_2, atI_3, gSl_tup, List.mem_cons, List.not_mem_nil, or_false, false_or, true_or, or_true, not_true_eq_false, not_false_eq_true , aCall, tak, giv, List.append_nil, aMeth, k_never_until, k_never_after, k_never_turns, k_never_most, k_never_within, k_never_and, k_never_or, k_until_never, k_until_after, k_until_turns, k_until_most, k_until_within, k_until_and, k_until_or, k_after_never, k_after_until, k_after_turns, k_after_most, k_after_within, k_after_and, k_after_or, k_turns_never, k_turns_until, k_turns_after, k_turns_most, k_turns_within, k_turns_and, k_turns_or, k_most_never, k_most_until, k_most_after, k_most_turns, k_most_within, k_most_and, k_most_or, k_within_never, k_within_until, k_within_after, k_within_turns, k_within_most, k_within_and, k_within_or, k_and_never, k_and_until, k_and_after, k_and_turns, k_and_most, k_and_within, k_and_or, k_or_never, k_or_until, k_or_after, k_or_turns, k_or_most, k_or_within, k_or_and, isi_int_tuple, isi_int_int, isi_int_bool, gIsN, gIsB, Den.isNon, isBl]
theorem same_bl (n : Nat) (b : Bool) : d__law_same (n + 1) [.sh (.bl b), .sh (.bl b)] = .ret (.sh (.bl true)) [.sh (.bl b), .sh (.bl b)] := by
  unfold d__law_same b__law_same
  cases b <;> simp [aDef, pre, outs, List.map_cons, List.map_nil, List.replicate, List.cons_append, List.nil_append, List.length_cons, List.length_nil, sSeq, sSet, sRet, sRetN, sIf, sDrop, sPar, sAsg, sNext, aB, aC, aVar, aMove, aFz, aTV, aNot, aAnd, aOr, aIfE, aAndV, aOrV, aOp, aSl, aP, evA, rsv, l1, l2, Res.bind, Res.out, List.getElem?_cons_zero, List.getElem?_cons_succ, List.set_cons_zero, List.set_cons_succ, Option.map_some, Option.map_none, fz, shs, if_true, if_false, ite_true, ite_false, Bool.false_eq_true, reduceIte, reduceCtorEq, Nat.reduceAdd, Nat.reduceSub, Nat.reduceLT, Nat.reduceLeDiff, Nat.reduceEqDiff, Bool.not_true, Bool.not_false, Nat.sub_self, Nat.zero_add, and_self, true_and, and_true, Nat.lt_add_one, decide_true, decide_false, decide_eq_true_eq , gSl_tS, gLen_tS, gLen_lS, gTup_str, gIn_tS, gNotIn_tS, gIn_lS, gNotIn_lS, gEq_int, gEq_str, gNe_int, gNe_str, cut_from, cut_to , gTup_str2, gIx_tup, atI_0, atI_1, atI_2, atI_3, gSl_tup, List.mem_cons, List.not_mem_nil, or_false, false_or, true_or, or_true, not_true_eq_false, not_false_eq_true , aCall, tak, giv, List.append_nil, aMeth, k_never_until, k_never_after, k_never_turns, k_never_most, k_never_within, k_never_and, k_never_or, k_until_never, k_until_after, k_until_turns, k_until_most, k_until_within, k_until_and, k_until_or, k_after_never, k_after_until, k_after_turns, k_after_most, k_after_within, k_after_and, k_after_or, k_turns_never, k_turns_until, k_turns_after, k_turns_most, k_turns_within, k_turns_and, k_turns_or, k_most_never, k_most_until, k_most_after, k_most_turns, k_most_within, k_most_and, k_most_or, k_within_never, k_within_until, k_within_after, k_within_turns, k_within_most, k_within_and, k_within_or, k_and_never, k_and_until, k_and_after, k_and_turns, k_and_most, k_and_within, k_and_or, k_or_never, k_or_until, k_or_after, k_or_turns, k_or_most, k_or_within, k_or_and, isi_bl_tuple, gIsN, gIsB, Den.isNon, isBl]
theorem same_non (n : Nat) : d__law_same (n + 1) [.sh .non, .sh .non] = .ret (.sh (.bl true)) [.sh .non, .sh .non] := by
  unfold d__law_same b__law_same
  simp only [aDef, pre, outs, List.map_cons, List.map_nil, List.replicate, List.cons_append, List.nil_append, List.length_cons, List.length_nil, sSeq, sSet, sRet, sRetN, sIf, sDrop, sPar, sAsg, sNext, aB, aC, aVar, aMove, aFz, aTV, aNot, aAnd, aOr, aIfE, aAndV, aOrV, aOp, aSl, aP, evA, rsv, l1, l2, Res.bind, Res.out, List.getElem?_cons_zero, List.getElem?_cons_succ, List.set_cons_zero, List.set_cons_succ, Option.map_some, Option.map_none, fz, shs, if_true, if_false, ite_true, ite_false, Bool.false_eq_true, reduceIte, reduceCtorEq, Nat.reduceAdd, Nat.reduceSub, Nat.reduceLT, Nat.reduceLeDiff, Nat.reduceEqDiff, Bool.not_true, Bool.not_false, Nat.sub_self, Nat.zero_add, and_self, true_and, and_true, Nat.lt_add_one, decide_true, decide_false, decide_eq_true_eq , gSl_tS, gLen_tS, gLen_lS, gTup_str, gIn_tS, gNotIn_tS, gIn_lS, gNotIn_lS, gEq_int, gEq_str, gNe_int, gNe_str, cut_from, cut_to , gTup_str2, gIx_tup, atI_0, atI_1, atI_2, atI_3, gSl_tup, List.mem_cons, List.not_mem_nil, or_false, false_or, true_or, or_true, not_true_eq_false, not_false_eq_true , aCall, tak, giv, List.append_nil, aMeth, k_never_until, k_never_after, k_never_turns, k_never_most, k_never_within, k_never_and, k_never_or, k_until_never, k_until_after, k_until_turns, k_until_most, k_until_within, k_until_and, k_until_or, k_after_never, k_after_until, k_after_turns, k_after_most, k_after_within, k_after_and, k_after_or, k_turns_never, k_turns_until, k_turns_after, k_turns_most, k_turns_within, k_turns_and, k_turns_or, k_most_never, k_most_until, k_most_after, k_most_turns, k_most_within, k_most_and, k_most_or, k_within_never, k_within_until, k_within_after, k_within_turns, k_within_most, k_within_and, k_within_or, k_and_never, k_and_until, k_and_after, k_and_turns, k_and_most, k_and_within, k_and_or, k_or_never, k_or_until, k_or_after, k_or_turns, k_or_most, k_or_within, k_or_and, isi_non_tuple, gIsN, gIsB, Den.isNon, isBl]
end Lw
end
section
open PySem L2 Den
namespace Lw
theorem lcL_turn {vs : List Nat} {tg : aG} {ge : aE} {d : D} {ds : List D} {ρ ρ1 ρ2 ρ3 : Store} {o : O} {r : List D} (h1 : tg d ρ = some ρ1) (h2 : ge ρ1 = .ok o ρ2) (h3 : lcL vs tg aYes ge ds (wipeS ρ2 vs) = .ok r ρ3) : lcL vs tg aYes ge (d :: ds) ρ = .ok (fz o :: r) ρ3 := by
  rw [lcL, h1]
  show (match (Res.ok true ρ1 : Res Bool).bind _ with | x => x) = _
  have e : aYes ρ1 = .ok true ρ1 := rfl
  simp only [Res.bind, if_true, h2, h3]
/-- a pair told as it is due -/
theorem same_pair (n : Nat) {v : D} {b : Bool} (hv : d__law_same (n + 1) [.sh v, .sh v] = .ret (.sh (.bl true)) [.sh v, .sh v]) :
    d__law_same (n + 2) [.sh (.tup [v, .bl b]), .sh (.tup [v, .bl b])] = .ret (.sh (.bl true)) [.sh (.tup [v, .bl b]), .sh (.tup [v, .bl b])] := by
  have hb := same_bl n b
  obtain ⟨T, hT⟩ : ∃ T, T = D.tup [v, .bl b] := ⟨_, rfl⟩
  show b__law_same (d__law_same (n + 1)) _ = _
  revert hv hb
  generalize d__law_same (n + 1) = F
  intro hv hb
  have lc : aLc (aZip (aVar 0) (aVar 1)) [2, 3] (aUnp [(aN 2), (aN 3)]) aYes (aCall 2 [.pl 2, .pl 3] [] F) [some (.sh T), some (.sh T), none, none] = .ok (.lst (([true, true].map D.bl).map O.sh)) [some (.sh T), some (.sh T), none, none] := by
    have hz : aZip (aVar 0) (aVar 1) [some (.sh T), some (.sh T), none, none] = .ok [.tup [v, v], .tup [.bl b, .bl b]] [some (.sh T), some (.sh T), none, none] := by rw [hT]; rfl
    have c1 : ∀ d : D, F [.sh d, .sh d] = .ret (.sh (.bl true)) [.sh d, .sh d] → aCall 2 [.pl 2, .pl 3] [] F [some (.sh T), some (.sh T), some (.sh d), some (.sh d)] = .ok (.sh (.bl true)) [some (.sh T), some (.sh T), some (.sh d), some (.sh d)] := fun d h => by
      simp only [aDef, pre, outs, List.map_cons, List.map_nil, List.replicate, List.cons_append, List.nil_append, List.length_cons, List.length_nil, sSeq, sSet, sRet, sRetN, sIf, sDrop, sPar, sAsg, sNext, aB, aC, aVar, aMove, aFz, aTV, aNot, aAnd, aOr, aIfE, aAndV, aOrV, aOp, aSl, aP, evA, rsv, l1, l2, Res.bind, Res.out, List.getElem?_cons_zero, List.getElem?_cons_succ, List.set_cons_zero, List.set_cons_succ, Option.map_some, Option.map_none, fz, shs, if_true, if_false, ite_true, ite_false, Bool.false_eq_true, reduceIte, reduceCtorEq, Nat.reduceAdd, Nat.reduceSub, Nat.reduceLT, Nat.reduceLeDiff, Nat.reduceEqDiff, Bool.not_true, Bool.not_false, Nat.sub_self, Nat.zero_add, and_self, true_and, and_true, Nat.lt_add_one, decide_true, decide_false, decide_eq_true_eq , gSl_tS, gLen_tS, gLen_lS, gTup_str, gIn_tS, gNotIn_tS, gIn_lS, gNotIn_lS, gEq_int, gEq_str, gNe_int, gNe_str, cut_from, cut_to , gTup_str2, gIx_tup, atI_0, atI_1, atI_2, atI_3, gSl_tup, List.mem_cons, List.not_mem_nil, or_false, false_or, true_or, or_true, not_true_eq_false, not_false_eq_true , aCall, tak, giv, List.append_nil, aMeth, k_never_until, k_never_after, k_never_turns, k_never_most, k_never_within, k_never_and, k_never_or, k_until_never, k_until_after, k_until_turns, k_until_most, k_until_within, k_until_and, k_until_or, k_after_never, k_after_until, k_after_turns, k_after_most, k_after_within, k_after_and, k_after_or, k_turns_never, k_turns_until, k_turns_after, k_turns_most, k_turns_within, k_turns_and, k_turns_or, k_most_never, k_most_until, k_most_after, k_most_turns, k_most_within, k_most_and, k_most_or, k_within_never, k_within_until, k_within_after, k_within_turns, k_within_most, k_within_and, k_within_or, k_and_never, k_and_until, k_and_after, k_and_turns, k_and_most, k_and_within, k_and_or, k_or_never, k_or_until, k_or_after, k_or_turns, k_or_most, k_or_within, k_or_and, h]
    have u1 : ∀ d : D, aUnp [(aN 2), (aN 3)] (.tup [d, d]) [some (.sh T), some (.sh T), none, none] = some [some (.sh T), some (.sh T), some (.sh d), some (.sh d)] := fun d => rfl
    have k1 := c1 v hv
    have k2 := c1 (.bl b) hb
    unfold aLc
    rw [hz]
    simp only [Res.bind]
    rw [if_pos (by simp)]
    have w : wipeS [some (.sh T), some (.sh T), none, none] [2, 3] = [some (.sh T), some (.sh T), none, none] := rfl
    have w2 : ∀ d : D, wipeS [some (.sh T), some (.sh T), some (.sh d), some (.sh d)] [2, 3] = [some (.sh T), some (.sh T), none, none] := fun d => rfl
    rw [w]
    have l0 : lcL [2, 3] (aUnp [(aN 2), (aN 3)]) aYes (aCall 2 [.pl 2, .pl 3] [] F) [.tup [v, v], .tup [.bl b, .bl b]] [some (.sh T), some (.sh T), none, none] = .ok [.bl true, .bl true] [some (.sh T), some (.sh T), none, none] := by
      exact lcL_turn (u1 v) k1 (by rw [w2]; exact lcL_turn (u1 (.bl b)) k2 (by rw [w2]; rfl))
    rw [l0]
    rfl
  have hi : gIsi "tuple" (.sh T) = some (.sh (.bl true)) := by rw [hT]; rfl
  have hl : gLen (.sh T) = some (.sh (.int 2)) := by rw [hT]; rfl
  have ga := gAll_bl [true, true]
  rw [← hT]
  unfold b__law_same
  refine def_ret (ρ := [some (.sh T), some (.sh T), none, none]) rfl (seq_ret (ρ' := [some (.sh T), some (.sh T), none, none]) ?_ ?_) rfl
  · show aB (aOp [.pl 1] (l1 (gIsi "tuple"))) [some (.sh T), some (.sh T), none, none] = _
    simp only [aDef, pre, outs, List.map_cons, List.map_nil, List.replicate, List.cons_append, List.nil_append, List.length_cons, List.length_nil, sSeq, sSet, sRet, sRetN, sIf, sDrop, sPar, sAsg, sNext, aB, aC, aVar, aMove, aFz, aTV, aNot, aAnd, aOr, aIfE, aAndV, aOrV, aOp, aSl, aP, evA, rsv, l1, l2, Res.bind, Res.out, List.getElem?_cons_zero, List.getElem?_cons_succ, List.set_cons_zero, List.set_cons_succ, Option.map_some, Option.map_none, fz, shs, if_true, if_false, ite_true, ite_false, Bool.false_eq_true, reduceIte, reduceCtorEq, Nat.reduceAdd, Nat.reduceSub, Nat.reduceLT, Nat.reduceLeDiff, Nat.reduceEqDiff, Bool.not_true, Bool.not_false, Nat.sub_self, Nat.zero_add, and_self, true_and, and_true, Nat.lt_add_one, decide_true, decide_false, decide_eq_true_eq , gSl_tS, gLen_tS, gLen_lS, gTup_str, gIn_tS, gNotIn_tS, gIn_lS, gNotIn_lS, gEq_int, gEq_str, gNe_int, gNe_str, cut_from, cut_to , gTup_str2, gIx_tup, atI_0, atI_1, atI_2, atI_3, gSl_tup, List.mem_cons, List.not_mem_nil, or_false, false_or, true_or, or_true, not_true_eq_false, not_false_eq_true , aCall, tak, giv, List.append_nil, aMeth, k_never_until, k_never_after, k_never_turns, k_never_most, k_never_within, k_never_and, k_never_or, k_until_never, k_until_after, k_until_turns, k_until_most, k_until_within, k_until_and, k_until_or, k_after_never, k_after_until, k_after_turns, k_after_most, k_after_within, k_after_and, k_after_or, k_turns_never, k_turns_until, k_turns_after, k_turns_most, k_turns_within, k_turns_and, k_turns_or, k_most_never, k_most_until, k_most_after, k_most_turns, k_most_within, k_most_and, k_most_or, k_within_never, k_within_until, k_within_after, k_within_turns, k_within_most, k_within_and, k_within_or, k_and_never, k_and_until, k_and_after, k_and_turns, k_and_most, k_and_within, k_and_or, k_or_never, k_or_until, k_or_after, k_or_turns, k_or_most, k_or_within, k_or_and, hi]
  · refine ret_ok ?_
    simp only [aDef, pre, outs, List.map_cons, List.map_nil, List.replicate, List.cons_append, List.nil_append, List.length_cons, List.length_nil, sSeq, sSet, sRet, sRetN, sIf, sDrop, sPar, sAsg, sNext, aB, aC, aVar, aMove, aFz, aTV, aNot, aAnd, aOr, aIfE, aAndV, aOrV, aOp, aSl, aP, evA, rsv, l1, l2, Res.bind, Res.out, List.getElem?_cons_zero, List.getElem?_cons_succ, List.set_cons_zero, List.set_cons_succ, Option.map_some, Option.map_none, fz, shs, if_true, if_false, ite_true, ite_false, Bool.false_eq_true, reduceIte, reduceCtorEq, Nat.reduceAdd, Nat.reduceSub, Nat.reduceLT, Nat.reduceLeDiff, Nat.reduceEqDiff, Bool.not_true, Bool.not_false, Nat.sub_self, Nat.zero_add, and_self, true_and, and_true, Nat.lt_add_one, decide_true, decide_false, decide_eq_true_eq , gSl_tS, gLen_tS, gLen_lS, gTup_str, gIn_tS, gNotIn_tS, gIn_lS, gNotIn_lS, gEq_int, gEq_str, gNe_int, gNe_str, cut_from, cut_to , gTup_str2, gIx_tup, atI_0, atI_1, atI_2, atI_3, gSl_tup, List.mem_cons, List.not_mem_nil, or_false, false_or, true_or, or_true, not_true_eq_false, not_false_eq_true , aCall, tak, giv, List.append_nil, aMeth, k_never_until, k_never_after, k_never_turns, k_never_most, k_never_within, k_never_and, k_never_or, k_until_never, k_until_after, k_until_turns, k_until_most, k_until_within, k_until_and, k_until_or, k_after_never, k_after_until, k_after_turns, k_after_most, k_after_within, k_after_and, k_after_or, k_turns_never, k_turns_until, k_turns_after, k_turns_most, k_turns_within, k_turns_and, k_turns_or, k_most_never, k_most_until, k_most_after, k_most_turns, k_most_within, k_most_and, k_most_or, k_within_never, k_within_until, k_within_after, k_within_turns, k_within_most, k_within_and, k_within_or, k_and_never, k_and_until, k_and_after, k_and_turns, k_and_most, k_and_within, k_and_or, k_or_never, k_or_until, k_or_after, k_or_turns, k_or_most, k_or_within, k_or_and, hi, hl, lc]
    simp only [List.map_cons, List.map_nil] at ga
    simp only [aDef, pre, outs, List.map_cons, List.map_nil, List.replicate, List.cons_append, List.nil_append, List.length_cons, List.length_nil, sSeq, sSet, sRet, sRetN, sIf, sDrop, sPar, sAsg, sNext, aB, aC, aVar, aMove, aFz, aTV, aNot, aAnd, aOr, aIfE, aAndV, aOrV, aOp, aSl, aP, evA, rsv, l1, l2, Res.bind, Res.out, List.getElem?_cons_zero, List.getElem?_cons_succ, List.set_cons_zero, List.set_cons_succ, Option.map_some, Option.map_none, fz, shs, if_true, if_false, ite_true, ite_false, Bool.false_eq_true, reduceIte, reduceCtorEq, Nat.reduceAdd, Nat.reduceSub, Nat.reduceLT, Nat.reduceLeDiff, Nat.reduceEqDiff, Bool.not_true, Bool.not_false, Nat.sub_self, Nat.zero_add, and_self, true_and, and_true, Nat.lt_add_one, decide_true, decide_false, decide_eq_true_eq , gSl_tS, gLen_tS, gLen_lS, gTup_str, gIn_tS, gNotIn_tS, gIn_lS, gNotIn_lS, gEq_int, gEq_str, gNe_int, gNe_str, cut_from, cut_to , gTup_str2, gIx_tup, atI_0, atI_1, atI_2, atI_3, gSl_tup, List.mem_cons, List.not_mem_nil, or_false, false_or, true_or, or_true, not_true_eq_false, not_false_eq_true , aCall, tak, giv, List.append_nil, aMeth, k_never_until, k_never_after, k_never_turns, k_never_most, k_never_within, k_never_and, k_never_or, k_until_never, k_until_after, k_until_turns, k_until_most, k_until_within, k_until_and, k_until_or, k_after_never, k_after_until, k_after_turns, k_after_most, k_after_within, k_after_and, k_after_or, k_turns_never, k_turns_until, k_turns_after, k_turns_most, k_turns_within, k_turns_and, k_turns_or, k_most_never, k_most_until, k_most_after, k_most_turns, k_most_within, k_most_and, k_most_or, k_within_never, k_within_until, k_within_after, k_within_turns, k_within_most, k_within_and, k_within_or, k_and_never, k_and_until, k_and_after, k_and_turns, k_and_most, k_and_within, k_and_or, k_or_never, k_or_until, k_or_after, k_or_turns, k_or_most, k_or_within, k_or_and, ga, List.all_cons, List.all_nil, id, Bool.and_self, Bool.and_true]
end Lw
end
section
open PySem L2 Den
namespace Lw
/-- a comprehension that draws at each turn -/
theorem lcP_loop {i : Nat} {ge : aE} {Pd : D → Prop} {S : Store} (hi : S[i]? = some none) (st : O → Store) (hst : ∀ pen, (st pen)[i]? = some none)
    (hge : ∀ (B : Nat) (pen : O) (d : D), PenOk B pen → B < 1099511627775 → ∃ (v : D) (pen' : O) (o : O), ge ((st pen).set i (some (.sh d))) = .ok o ((st pen').set i (some (.sh d))) ∧ fz o = v ∧ Pd v ∧ PenOk (B + 1) pen') :
    ∀ (ds : List D) (B : Nat) (pen : O), PenOk B pen → B + ds.length < 1099511627775 → ∃ (vs : List D) (pen' : O), lcL [i] (aN i) aYes ge ds (st pen) = .ok vs (st pen') ∧ vs.length = ds.length ∧ (∀ v ∈ vs, Pd v) ∧ PenOk (B + ds.length) pen'
  | [], B, pen, hp, _ => ⟨[], pen, rfl, rfl, (fun v h => by cases h), hp⟩
  | d :: ds, B, pen, hp, hB => by
    simp only [List.length_cons] at hB
    obtain ⟨v, pen1, o, e, ef, pv, hp1⟩ := hge B pen d hp (by omega)
    obtain ⟨vs, pen', e2, hl, hv, hp'⟩ := lcP_loop hi st hst hge ds (B + 1) pen1 hp1 (by omega)
    refine ⟨v :: vs, pen', ?_, by simp [hl], fun u hu => ?_, by rw [List.length_cons]; have := hp'; rw [Nat.add_assoc, Nat.add_comm 1] at this; exact this⟩
    · rw [← ef]
      refine lcL_turn (aN_in (List.getElem?_eq_some_iff.mp (hst pen)).1 d) e ?_
      have w : wipeS ((st pen1).set i (some (O.sh d))) [i] = st pen1 := by
        show ((st pen1).set i (some (O.sh d))).set i none = st pen1
        rw [List.set_set]
        exact set_same (hst pen1)
      rw [w]
      exact e2
    · rcases List.mem_cons.mp hu with rfl | hu
      · exact pv
      · exact hv u hu
end Lw
end
section
open PySem L2 Den
namespace Lw
/-- [.. for i in src], which draws at each turn -/
theorem aLcP {src : aI} {i : Nat} {ge : aE} {Pd : D → Prop} (st : O → Store) (hst : ∀ pen, (st pen)[i]? = some none) {ρ0 : Store} {pen : O} {ds : List D} {B : Nat} (hs : src ρ0 = .ok ds (st pen)) (hl : ds.length ≤ 16000000) (hp : PenOk B pen) (hB : B + ds.length < 1099511627775)
    (hge : ∀ (B : Nat) (pen : O) (d : D), PenOk B pen → B < 1099511627775 → ∃ (v : D) (pen' : O) (o : O), ge ((st pen).set i (some (.sh d))) = .ok o ((st pen').set i (some (.sh d))) ∧ fz o = v ∧ Pd v ∧ PenOk (B + 1) pen') :
    ∃ (vs : List D) (pen' : O), aLc src [i] (aN i) aYes ge ρ0 = .ok (.lst (vs.map O.sh)) (st pen') ∧ vs.length = ds.length ∧ (∀ v ∈ vs, Pd v) ∧ PenOk (B + ds.length) pen' := by
  obtain ⟨vs, pen', e, h1, h2, h3⟩ := lcP_loop (hst pen) st hst hge ds B pen hp hB
  refine ⟨vs, pen', ?_, h1, h2, h3⟩
  have w : wipeS (st pen) [i] = st pen := set_same (hst pen)
  unfold aLc
  rw [hs]
  simp only [Res.bind]
  rw [if_pos hl, w, e]
  simp only [restS, wipeS, hst, Option.join, Option.bind, id]
  rw [set_same (hst pen')]
end Lw
end
section
open PySem L2 Den
namespace Lw
theorem strs_of {xs : List Str} : ∀ {vs : List D}, (∀ v ∈ vs, ∃ x ∈ xs, v = .str x) → ∃ w : List Str, vs = w.map D.str ∧ ∀ x ∈ w, x ∈ xs
  | [], _ => ⟨[], rfl, fun x h => by cases h⟩
  | v :: vs, h => by
    obtain ⟨x, hx, rfl⟩ := h v (by simp)
    obtain ⟨w, rfl, hw⟩ := strs_of (vs := vs) fun u hu => h u (List.mem_cons_of_mem _ hu)
    exact ⟨x :: w, rfl, fun y hy => by
      rcases List.mem_cons.mp hy with rfl | hy
      · exact hx
      · exact hw y hy⟩
theorem pick_tS {B : Nat} {pen : O} {xs : List Str} (hp : PenOk B pen) (hB : B < 1099511627775) (hn : xs ≠ []) (hl : xs.length ≤ 1000) :
    ∃ (x : Str) (pen' : O), d__law_pick [pen, .sh (tS xs)] = .ret (.sh (.str x)) [pen', .sh (tS xs)] ∧ x ∈ xs ∧ PenOk (B + 1) pen' := by
  have h0 : 0 < xs.length := List.length_pos_iff.mpr hn
  obtain ⟨d, pen', e, ⟨x, hx, rfl⟩, hp'⟩ := t_pick (S := .sh (tS xs)) (n := xs.length) (Pd := fun d => ∃ x ∈ xs, d = .str x) hp hB (gLen_tS xs) ⟨h0, by omega⟩ (fun k hk => ⟨.str xs[k], gIx_tS (List.getElem?_eq_getElem hk), xs[k], List.getElem_mem hk, rfl⟩)
  exact ⟨x, pen', e, hx, hp'⟩
end Lw
end
section
open PySem L2 Den
namespace Lw
theorem rng1_ok {g : aE} {ρ ρ' : Store} {j : Int} (h : g ρ = .ok (.sh (.int j)) ρ') (hj : -1000000000 ≤ j ∧ j ≤ 1000000000) : aRng1 g ρ = .ok (rngD 0 j.toNat) ρ' := by
  unfold aRng1
  rw [h]
  simp only [Res.bind]
  rw [if_pos hj]
theorem gTuple_lst (vs : List D) : gTuple (.lst (vs.map O.sh)) = some (.sh (.tup vs)) := by
  have h : lstD (.lst (vs.map O.sh)) = some vs := shs_map vs
  have t : tupD (.lst (vs.map O.sh)) = none := rfl
  unfold gTuple
  rw [t]
  simp only [h]
theorem op1x_ok {f : O → Option O} {g : aE} {ρ ρ' : Store} {o w : O} (h : g ρ = .ok o ρ') (hf : f o = some w) : aOp [.ex g] (l1 f) ρ = .ok w ρ' := by
  simp [aOp, evA, h, Res.bind, rsv, l1, hf]
theorem t_some_word {B : Nat} {pen : O} {xs : List Str} {most : Nat} (hp : PenOk B pen) (hB : B + most + 2 < 1099511627775) (hn : xs ≠ []) (hl : xs.length ≤ 1000) (hm : most ≤ 1000) :
    ∃ (w : List Str) (pen' : O), d__law_some_word [pen, .sh (tS xs), .sh (.int most)] = .ret (.sh (tS w)) [pen', .sh (tS xs), .sh (.int most)] ∧ w.length ≤ most ∧ (∀ x ∈ w, x ∈ xs) ∧ PenOk (B + most + 1) pen' := by
  obtain ⟨r, pen1, e1, r0, r1, hp1⟩ := t_draw (many := (most : Int) + 1) hp (by omega) (by omega)
  obtain ⟨k, rfl⟩ := Int.eq_ofNat_of_zero_le r0
  have pk : ∀ (B : Nat) (pen : O), PenOk B pen → B < 1099511627775 → ∃ (x : Str) (pen' : O), d__law_pick [pen, .sh (tS xs)] = .ret (.sh (.str x)) [pen', .sh (tS xs)] ∧ x ∈ xs ∧ PenOk (B + 1) pen' := fun B pen h h2 => pick_tS h h2 hn hl
  unfold d__law_some_word
  revert e1 pk
  generalize d__law_draw = F
  generalize d__law_pick = G
  intro e1 pk
  have c1 := callp (F := F) (g := aOp [.pl 2, .ex (aC (.int 1))] (l2 gAdd)) (rest := [some (.sh (tS xs)), some (.sh (.int most)), none]) hp.dic (by simp only [aDef, pre, outs, List.map_cons, List.map_nil, List.replicate, List.cons_append, List.nil_append, List.length_cons, List.length_nil, sSeq, sSet, sRet, sRetN, sIf, sDrop, sPar, sAsg, sNext, aB, aC, aVar, aMove, aFz, aTV, aNot, aAnd, aOr, aIfE, aAndV, aOrV, aOp, aSl, aP, evA, rsv, l1, l2, Res.bind, Res.out, List.getElem?_cons_zero, List.getElem?_cons_succ, List.set_cons_zero, List.set_cons_succ, Option.map_some, Option.map_none, fz, shs, if_true, if_false, ite_true, ite_false, Bool.false_eq_true, reduceIte, reduceCtorEq, Nat.reduceAdd, Nat.reduceSub, Nat.reduceLT, Nat.reduceLeDiff, Nat.reduceEqDiff, Bool.not_true, Bool.not_false, Nat.sub_self, Nat.zero_add, and_self, true_and, and_true, Nat.lt_add_one, decide_true, decide_false, decide_eq_true_eq , gSl_tS, gLen_tS, gLen_lS, gTup_str, gIn_tS, gNotIn_tS, gIn_lS, gNotIn_lS, gEq_int, gEq_str, gNe_int, gNe_str, cut_from, cut_to , gTup_str2, gIx_tup, atI_0, atI_1, atI_2, atI_3, gSl_tup, List.mem_cons, List.not_mem_nil, or_false, false_or, true_or, or_true, not_true_eq_false, not_false_eq_true , aCall, tak, giv, List.append_nil, aMeth, k_never_until, k_never_after, k_never_turns, k_never_most, k_never_within, k_never_and, k_never_or, k_until_never, k_until_after, k_until_turns, k_until_most, k_until_within, k_until_and, k_until_or, k_after_never, k_after_until, k_after_turns, k_after_most, k_after_within, k_after_and, k_after_or, k_turns_never, k_turns_until, k_turns_after, k_turns_most, k_turns_within, k_turns_and, k_turns_or, k_most_never, k_most_until, k_most_after, k_most_turns, k_most_within, k_most_and, k_most_or, k_within_never, k_within_until, k_within_after, k_within_turns, k_within_most, k_within_and, k_within_or, k_and_never, k_and_until, k_and_after, k_and_turns, k_and_most, k_and_within, k_and_or, k_or_never, k_or_until, k_or_after, k_or_turns, k_or_most, k_or_within, k_or_and, gAdd]) e1
  have hs := rng1_ok c1 (by omega)
  have hlen : (rngD 0 ((k : Nat) : Int).toNat).length = k := by simp [rngD]
  obtain ⟨vs, pen2, e2, h1, h2, hp2⟩ := aLcP (i := 3) (ge := aCall 2 [.pl 0, .pl 1] [] G) (Pd := fun v => ∃ x ∈ xs, v = .str x) (fun p => [some p, some (.sh (tS xs)), some (.sh (.int most)), none]) (fun _ => rfl) hs (by rw [hlen]; omega) hp1 (by rw [hlen]; omega) (fun B pen d h hB => by
    obtain ⟨x, pen', e, hx, hp'⟩ := pk B pen h hB
    exact ⟨.str x, pen', .sh (.str x), callpp (rest := [some (.sh (.int most)), some (.sh d)]) h.dic (.inl ⟨_, rfl⟩) e, rfl, ⟨x, hx, rfl⟩, hp'⟩)
  obtain ⟨w, rfl, hw⟩ := strs_of h2
  rw [hlen] at h1 hp2
  have hwl : w.length = k := by simpa using h1
  exact ⟨w, pen2, def_ret rfl (ret_ok (op1x_ok e2 (gTuple_lst _))) rfl, by omega, hw, hp2.mono (by omega)⟩
end Lw
end
section
open PySem L2 Den
namespace Lw
def al : Str := "abcdefghijklmnopqrstuvwxyz"
theorem al_len : al.cps.toList.length = 26 := by decide +kernel
theorem al_low : ∀ c ∈ al.cps.toList, 97 ≤ c ∧ c ≤ 122 := by decide +kernel
/-- letters alone -/
def Lt (z : Str) : Prop := ∀ c ∈ z.cps.toList, 97 ≤ c ∧ c ≤ 122
theorem app_cps (a b : Str) : (a ++ b).cps.toList = a.cps.toList ++ b.cps.toList := by
  show (a.cps ++ b.cps).toList = _
  simp
theorem len_cps (z : Str) : z.length = z.cps.toList.length := by
  show z.cps.size = _
  simp
theorem cut_to_cps (z : Str) (k : Nat) : (cutS z none (some (k : Int))).cps.toList = z.cps.toList.take k := by
  unfold cutS
  rw [HT.sIx_none, HT.sIx_nat, len_cps]
  simp only [List.drop_zero, Nat.sub_zero]
  by_cases h : k ≤ z.cps.toList.length
  · rw [Nat.min_eq_left h]
  · rw [Nat.min_eq_right (by omega), List.take_of_length_le (Nat.le_refl _), List.take_of_length_le (by omega)]
theorem cut_from_cps (z : Str) (k : Nat) : (cutS z (some (k : Int)) none).cps.toList = z.cps.toList.drop k := by
  unfold cutS
  rw [HT.sIx_none, HT.sIx_nat, len_cps]
  by_cases h : k ≤ z.cps.toList.length
  · rw [Nat.min_eq_left h]
    simp only
    rw [List.take_of_length_le (by simp)]
  · rw [Nat.min_eq_right (by omega), Nat.sub_self, List.take_zero, List.drop_of_length_le (by omega)]
theorem gIx_al {k : Nat} (h : k < 26) : ∃ c : Nat, gIx (.sh (.str al)) (.sh (.int (k : Int))) = some (.sh (.str ⟨#[c]⟩)) ∧ 97 ≤ c ∧ c ≤ 122 := by
  have hk : k < al.cps.toList.length := by rw [al_len]; exact h
  have hl : al.length ≤ 16000000 := by rw [len_cps, al_len]; omega
  refine ⟨al.cps.toList[k], ?_, al_low _ (List.getElem_mem hk)⟩
  unfold gIx
  simp only
  rw [if_pos hl, Den.atI_nat, List.getElem?_eq_getElem hk]
  rfl
end Lw
end
section
open PySem L2 Den
namespace Lw
theorem name_turn {G : aF} {B : Nat} {pen : O} {z : Str} {M x y : Option O} (hG : ∀ (B : Nat) (pen : O), PenOk B pen → B < 1099511627775 → ∃ (r : Int) (pen' : O), G [pen, .sh (.int 26)] = .ret (.sh (.int r)) [pen', .sh (.int 26)] ∧ 0 ≤ r ∧ r < 26 ∧ PenOk (B + 1) pen')
    (hp : PenOk B pen) (hB : B < 1099511627775) (hz : Lt z) (hl : z.length ≤ 100) :
    ∃ (z' : Str) (pen' : O), sSet 2 (aOp [.pl 2, .ex (aOp [.ex (aC (.str al)), .ex (aCall 2 [.pl 0, .ex (aC (.int 26))] [] G)] (l2 gIx))] (l2 gAdd)) [some pen, M, some (.sh (.str z)), x, y] = .nx [some pen', M, some (.sh (.str z')), x, y] ∧ Lt z' ∧ z'.length = z.length + 1 ∧ PenOk (B + 1) pen' := by
  obtain ⟨r, pen', e, r0, r1, hp'⟩ := hG B pen hp hB
  obtain ⟨k, rfl⟩ := Int.eq_ofNat_of_zero_le r0
  obtain ⟨c, hc, c1, c2⟩ := gIx_al (k := k) (by omega)
  have hcall := callp (F := G) (g := aC (.int 26)) (rest := [M, some (.sh (.str z)), x, y]) hp.dic rfl e
  have hadd : gAdd (.sh (.str z)) (.sh (.str ⟨#[c]⟩)) = some (.sh (.str (z ++ ⟨#[c]⟩))) := by
    have h1 : z.length + (⟨#[c]⟩ : Str).length ≤ 16000000 := by
      show z.length + 1 ≤ _
      omega
    show (if _ then _ else _) = _
    rw [if_pos h1]
  refine ⟨z ++ ⟨#[c]⟩, pen', ?_, fun d hd => ?_, by rw [len_cps, app_cps, len_cps]; simp, hp'⟩
  · refine set_ok (i := 2) (o := .sh (.str (z ++ ⟨#[c]⟩))) (ρ' := [some pen', M, some (.sh (.str z)), x, y]) ?_ (by simp)
    refine op_pl_ex (S0 := .sh (.str z)) (S := .sh (.str z)) (a := .sh (.str ⟨#[c]⟩)) rfl ?_ rfl hadd
    simp [aOp, evA, aC, Res.bind, hcall, rsv, l2, hc]
  · rw [app_cps] at hd
    rcases List.mem_append.mp hd with hd | hd
    · exact hz d hd
    · have : d = c := by simpa using hd
      omega
end Lw
end
section
open PySem L2 Den
namespace Lw
theorem name_loop {body : aS} {M y : Option O} (hb : ∀ (B : Nat) (pen : O) (z : Str) (x : Option O), PenOk B pen → B < 1099511627775 → Lt z → z.length ≤ 100 → ∃ (z' : Str) (pen' : O), body [some pen, M, some (.sh (.str z)), x, y] = .nx [some pen', M, some (.sh (.str z')), x, y] ∧ Lt z' ∧ z'.length = z.length + 1 ∧ PenOk (B + 1) pen') :
    ∀ (ds : List D) (B : Nat) (pen : O) (z : Str) (x : Option O), PenOk B pen → B + ds.length < 1099511627775 → Lt z → z.length + ds.length ≤ 100 → ∃ (z' : Str) (pen' : O) (x' : Option O), forD (aN 3) body ds [some pen, M, some (.sh (.str z)), x, y] = .nx [some pen', M, some (.sh (.str z')), x', y] ∧ Lt z' ∧ z'.length = z.length + ds.length ∧ PenOk (B + ds.length) pen'
  | [], B, pen, z, x, hp, _, hz, _ => ⟨z, pen, x, rfl, hz, rfl, hp⟩
  | d :: ds, B, pen, z, x, hp, hB, hz, hl => by
    simp only [List.length_cons] at hB hl
    obtain ⟨z1, pen1, e1, hz1, hl1, hp1⟩ := hb B pen z (some (.sh d)) hp (by omega) hz (by omega)
    obtain ⟨z2, pen2, x2, e2, hz2, hl2, hp2⟩ := name_loop hb ds (B + 1) pen1 z1 (some (.sh d)) hp1 (by omega) hz1 (by omega)
    refine ⟨z2, pen2, x2, ?_, hz2, by rw [List.length_cons]; omega, by rw [List.length_cons]; have := hp2; rw [Nat.add_assoc, Nat.add_comm 1] at this; exact this⟩
    rw [forD, aN_in (by simp)]
    simp only [List.set_cons_succ, List.set_cons_zero]
    rw [e1]
    exact e2
end Lw
end
section
open PySem L2 Den
namespace Lw
def dg (i : Nat) : Str := (toString (i : Int) : String)
theorem gStr_small {i : Nat} (h : i ≤ 9) : gStr (.sh (.int (i : Int))) = some (.sh (.str (dg i))) := by
  have h2 : ((i : Int)).natAbs.log2 < 1920 := by
    have : ((i : Int)).natAbs = i := by omega
    rw [this]
    exact Nat.lt_of_le_of_lt (Nat.log2_le_self i) (by omega)
  show (if _ then _ else _) = _
  rw [if_pos h2]
  rfl
theorem dg_facts : ∀ i : Nat, i ≤ 9 → (dg i).cps.toList = [48 + i] := by
  intro i h
  have : i = 0 ∨ i = 1 ∨ i = 2 ∨ i = 3 ∨ i = 4 ∨ i = 5 ∨ i = 6 ∨ i = 7 ∨ i = 8 ∨ i = 9 := by omega
  rcases this with rfl | rfl | rfl | rfl | rfl | rfl | rfl | rfl | rfl | rfl <;> decide +kernel
end Lw
end
section
open PySem L2 Den
namespace Lw
theorem cut_split (z : Str) (k : Nat) : Lt z → Lt (cutS z none (some (k : Int))) ∧ Lt (cutS z (some (k : Int)) none) := fun h =>
  ⟨fun c hc => h c (by rw [cut_to_cps] at hc; exact List.mem_of_mem_take hc), fun c hc => h c (by rw [cut_from_cps] at hc; exact List.mem_of_mem_drop hc)⟩
theorem gAdd_str {a b : Str} (h : a.length + b.length ≤ 16000000) : gAdd (.sh (.str a)) (.sh (.str b)) = some (.sh (.str (a ++ b))) := by
  show (if _ then _ else _) = _
  rw [if_pos h]
theorem gSl_str {z : Str} {lo hi : Option Int} (h : z.length ≤ 16000000) : gSl (.sh (.str z)) lo hi = some (.sh (.str (cutS z lo hi))) := by
  show (if _ then _ else _) = _
  rw [if_pos h]
theorem gLen_str {z : Str} (h : z.length ≤ 16000000) : gLen (.sh (.str z)) = some (.sh (.int z.length)) := by
  show (if _ then _ else _) = _
  rw [if_pos h]
theorem op_xx {f : O → O → Option O} {g h : aE} {ρ ρ1 ρ2 : Store} {a b w : O} (h1 : g ρ = .ok a ρ1) (h2 : h ρ1 = .ok b ρ2) (hf : f a b = some w) : aOp [.ex g, .ex h] (l2 f) ρ = .ok w ρ2 := by
  simp [aOp, evA, h1, h2, Res.bind, rsv, l2, hf]
theorem sl_from {g : aE} {od : Od} {ρ ρ1 ρ2 : Store} {rs : List Rv} {o w : O} {j : Int} (h1 : evA [od] ρ = .ok rs ρ1) (h2 : g ρ1 = .ok (.sh (.int j)) ρ2) (h3 : rsv ρ2 rs = some [o]) (h4 : gSl o (some j) none = some w) : aSl od (some g) none gSl ρ = .ok w ρ2 := by
  simp [aSl, aP, h1, h2, h3, Res.bind, h4]
theorem evp_ok {i : Nat} {ρ : Store} {S : O} (h : ρ[i]? = some (some S)) : evA [.pl i] ρ = .ok [.p i] ρ := by simp [evA, h, Res.bind]
theorem rsp_ok {i : Nat} {ρ : Store} {S : O} (h : ρ[i]? = some (some S)) : rsv ρ [.p i] = some [S] := by simp [rsv, h]
theorem var_ok {i : Nat} {ρ : Store} {d : D} (h : ρ[i]? = some (some (.sh d))) : aVar i ρ = .ok (.sh d) ρ := by
  simp [aVar, h]
/-- f(pen, e), where e draws too -/
theorem callq {F : aF} {g : aE} {pen pen2 pen' a a' o : O} {rest rest2 : Store} (hd : ∃ kvs, pen2 = .dic kvs) (hg : g (some pen :: rest) = .ok a (some pen2 :: rest2)) (hF : F [pen2, a] = .ret o [pen', a']) :
    aCall 2 [.pl 0, .ex g] [] F (some pen :: rest) = .ok o (some pen' :: rest2) := by
  obtain ⟨kvs, rfl⟩ := hd
  simp [aCall, evA, Res.bind, tak, giv, hg, hF]
end Lw
end
section
open PySem L2 Den
namespace Lw
theorem t_name {B : Nat} {pen : O} {i : Nat} (hp : PenOk B pen) (hB : B + 10 < 1099511627775) (hi : i ≤ 9) :
    ∃ (a b : Str) (pen' : O), d__law_name [pen, .sh (.int (i : Int))] = .ret (.sh (.str (a ++ dg i ++ b))) [pen', .sh (.int (i : Int))] ∧ Lt a ∧ Lt b ∧ 1 ≤ a.length ∧ a.length + b.length ≤ 8 ∧ PenOk (B + 10) pen' := by
  obtain ⟨r, pen1, e1, r0, r1, hp1⟩ := t_draw (many := 8) hp (by omega) (by omega)
  obtain ⟨k, rfl⟩ := Int.eq_ofNat_of_zero_le r0
  have hG : ∀ (B : Nat) (pen : O), PenOk B pen → B < 1099511627775 → ∃ (r : Int) (pen' : O), d__law_draw [pen, .sh (.int 26)] = .ret (.sh (.int r)) [pen', .sh (.int 26)] ∧ 0 ≤ r ∧ r < 26 ∧ PenOk (B + 1) pen' := fun B pen h h2 => t_draw h h2 (by omega)
  have hlen : (rngD 0 ((1 : Int) + (k : Int)).toNat).length = 1 + k := by simp [rngD]; omega
  obtain ⟨z, pen2, x2, e2, hz, hzl, hp2⟩ := name_loop (M := some (.sh (.int (i : Int)))) (y := none) (fun B pen z x h h1 h2 h3 => name_turn (G := d__law_draw) hG h h1 h2 h3) (rngD 0 ((1 : Int) + (k : Int)).toNat) (B + 1) pen1 "" none hp1 (by rw [hlen]; omega) (fun c hc => by
    have : (("" : Str)).cps.toList = [] := rfl
    rw [this] at hc
    cases hc) (by rw [hlen]; show 0 + _ ≤ _; omega)
  rw [hlen] at hzl hp2
  have hzl' : z.length = 1 + k := by rw [hzl]; show 0 + _ = _; omega
  obtain ⟨r', pen3, e3, s0, s1, hp3⟩ := t_draw (many := (z.length : Int)) hp2 (by omega) (by omega)
  obtain ⟨j, rfl⟩ := Int.eq_ofNat_of_zero_le s0
  obtain ⟨la, lb⟩ := cut_split z (1 + j) hz
  have na : (cutS z none (some ((1 + j : Nat) : Int))).length = 1 + j := by rw [len_cps, cut_to_cps, List.length_take, ← len_cps]; omega
  have nb : (cutS z (some ((1 + j : Nat) : Int)) none).length = z.length - (1 + j) := by rw [len_cps, cut_from_cps, List.length_drop, ← len_cps]
  have nd : (dg i).length = 1 := by rw [len_cps, dg_facts i hi]; rfl
  have ej : ((1 + j : Nat) : Int) = 1 + (j : Int) := by omega
  refine ⟨cutS z none (some ((1 + j : Nat) : Int)), cutS z (some ((1 + j : Nat) : Int)) none, pen3, ?_, la, lb, by omega, by omega, hp3.mono (by omega)⟩
  rw [ej] at na nb ⊢
  unfold d__law_name
  clear hG
  revert e1 e2 e3
  generalize d__law_draw = G
  intro e1 e2 e3
  have a1 : aOp [.ex (aC (.int 1)), .ex (aCall 2 [.pl 0, .ex (aC (.int 8))] [] G)] (l2 gAdd) [some pen, some (.sh (.int (i : Int))), some (.sh (.str "")), none, none] = .ok (.sh (.int (1 + (k : Int)))) [some pen1, some (.sh (.int (i : Int))), some (.sh (.str "")), none, none] :=
    op_xx rfl (callp (F := G) (g := aC (.int 8)) hp.dic rfl e1) rfl
  have e2' := (sFor_rng1 (tg := aN 3) a1 (by omega)).trans e2
  have a3 : aOp [.ex (aC (.int 1)), .ex (aCall 2 [.pl 0, .ex (aOp [.pl 2] (l1 gLen))] [] G)] (l2 gAdd) [some pen2, some (.sh (.int (i : Int))), some (.sh (.str z)), x2, none] = .ok (.sh (.int (1 + (j : Int)))) [some pen3, some (.sh (.int (i : Int))), some (.sh (.str z)), x2, none] :=
    op_xx rfl (callp (F := G) hp2.dic (op1_ok rfl (gLen_str (by omega))) e3) rfl
  have s3 := set_ok (i := 4) a3 (by simp)
  generalize (1 + (j : Int)) = p at na nb s3 ⊢
  refine def_ret (ρ := [some pen3, some (.sh (.int (i : Int))), some (.sh (.str z)), x2, some (.sh (.int p))]) rfl ((seq_nx (set_ok (i := 2) (o := .sh (.str "")) (ρ' := [some pen, some (.sh (.int (i : Int))), none, none, none]) rfl (by simp))).trans ((seq_nx e2').trans ((seq_nx s3).trans (ret_ok ?_)))) rfl
  refine op_xx (op_xx (sl_to (evp_ok rfl) (var_ok rfl) (rsp_ok rfl) (gSl_str (by omega))) (op1_ok rfl (gStr_small hi)) (gAdd_str (by rw [na, nd]; omega))) (sl_from (evp_ok rfl) (var_ok rfl) (rsp_ok rfl) (gSl_str (by omega))) (gAdd_str ?_)
  rw [len_cps, app_cps, List.length_append, ← len_cps, ← len_cps, na, nd, nb]
  omega
end Lw
end
section
open PySem L2 Den
namespace Lw
/-- a comprehension that draws at most c times at each turn; what is told depends on the item -/
theorem lcQ_loop {i c : Nat} {ge : aE} {Pd : D → D → Prop} (st : O → Store) (hst : ∀ pen, (st pen)[i]? = some none) (all : D → Prop)
    (hge : ∀ (B : Nat) (pen : O) (d : D), all d → PenOk B pen → B + c + 200 < 1099511627775 → ∃ (v : D) (pen' : O) (o : O), ge ((st pen).set i (some (.sh d))) = .ok o ((st pen').set i (some (.sh d))) ∧ fz o = v ∧ Pd d v ∧ PenOk (B + c) pen') :
    ∀ (ds : List D) (B : Nat) (pen : O), (∀ d ∈ ds, all d) → PenOk B pen → B + c * ds.length + 200 < 1099511627775 → ∃ (vs : List D) (pen' : O), lcL [i] (aN i) aYes ge ds (st pen) = .ok vs (st pen') ∧ vs.length = ds.length ∧ (∀ (k : Nat) (d v : D), ds[k]? = some d → vs[k]? = some v → Pd d v) ∧ PenOk (B + c * ds.length) pen'
  | [], B, pen, _, hp, _ => ⟨[], pen, rfl, rfl, (fun k d v h => by simp at h), hp⟩
  | d :: ds, B, pen, ha, hp, hB => by
    rw [List.length_cons, Nat.mul_add, Nat.mul_one] at hB
    obtain ⟨v, pen1, o, e, ef, pv, hp1⟩ := hge B pen d (ha d (by simp)) hp (by omega)
    obtain ⟨vs, pen', e2, hl, hv, hp'⟩ := lcQ_loop st hst all hge ds (B + c) pen1 (fun x hx => ha x (List.mem_cons_of_mem _ hx)) hp1 (by omega)
    refine ⟨v :: vs, pen', ?_, by simp [hl], fun k x u hx hu => ?_, by rw [List.length_cons, Nat.mul_add, Nat.mul_one]; exact hp'.mono (by omega)⟩
    · rw [← ef]
      refine lcL_turn (aN_in (List.getElem?_eq_some_iff.mp (hst pen)).1 d) e ?_
      have w : wipeS ((st pen1).set i (some (O.sh d))) [i] = st pen1 := by
        show ((st pen1).set i (some (O.sh d))).set i none = st pen1
        rw [List.set_set]
        exact set_same (hst pen1)
      rw [w]
      exact e2
    · cases k with
      | zero =>
        simp only [List.getElem?_cons_zero, Option.some.injEq] at hx hu
        subst hx hu
        exact pv
      | succ k =>
        simp only [List.getElem?_cons_succ] at hx hu
        exact hv k x u hx hu
theorem aLcQ {src : aI} {i c : Nat} {ge : aE} {Pd : D → D → Prop} (st : O → Store) (hst : ∀ pen, (st pen)[i]? = some none) (all : D → Prop) {ρ0 : Store} {pen : O} {ds : List D} {B : Nat} (hs : src ρ0 = .ok ds (st pen)) (hl : ds.length ≤ 16000000) (ha : ∀ d ∈ ds, all d) (hp : PenOk B pen) (hB : B + c * ds.length + 200 < 1099511627775)
    (hge : ∀ (B : Nat) (pen : O) (d : D), all d → PenOk B pen → B + c + 200 < 1099511627775 → ∃ (v : D) (pen' : O) (o : O), ge ((st pen).set i (some (.sh d))) = .ok o ((st pen').set i (some (.sh d))) ∧ fz o = v ∧ Pd d v ∧ PenOk (B + c) pen') :
    ∃ (vs : List D) (pen' : O), aLc src [i] (aN i) aYes ge ρ0 = .ok (.lst (vs.map O.sh)) (st pen') ∧ vs.length = ds.length ∧ (∀ (k : Nat) (d v : D), ds[k]? = some d → vs[k]? = some v → Pd d v) ∧ PenOk (B + c * ds.length) pen' := by
  obtain ⟨vs, pen', e, h1, h2, h3⟩ := lcQ_loop st hst all hge ds B pen ha hp hB
  refine ⟨vs, pen', ?_, h1, h2, h3⟩
  have w : wipeS (st pen) [i] = st pen := set_same (hst pen)
  unfold aLc
  rw [hs]
  simp only [Res.bind]
  rw [if_pos hl, w, e]
  simp only [restS, wipeS, hst, Option.join, Option.bind, id]
  rw [set_same (hst pen')]
end Lw
end
section
open PySem L2 Den
namespace Lw
/-- a name drawn for the index i -/
def Nm (i : Nat) (x : Str) : Prop := ∃ a b : Str, x = a ++ dg i ++ b ∧ Lt a ∧ Lt b ∧ 1 ≤ a.length ∧ a.length + b.length ≤ 8
theorem nm_cps {i : Nat} {x : Str} (hi : i ≤ 9) (h : Nm i x) : x.cps.toList.filter (fun c => decide (c < 97)) = [48 + i] := by
  obtain ⟨a, b, rfl, ha, hb, _⟩ := h
  rw [app_cps, app_cps, List.filter_append, List.filter_append, dg_facts i hi]
  have z : ∀ s : Str, Lt s → s.cps.toList.filter (fun c => decide (c < 97)) = [] := fun s hs => List.filter_eq_nil_iff.mpr fun c hc => by
    have := hs c hc
    simp
    omega
  rw [z a ha, z b hb]
  have : decide (48 + i < 97) = true := by simp; omega
  simp [List.filter, this]
theorem nm_ne {i j : Nat} {x y : Str} (hi : i ≤ 9) (hj : j ≤ 9) (hx : Nm i x) (hy : Nm j y) (h : i ≠ j) : x ≠ y := by
  intro e
  have h1 := nm_cps hi hx
  have h2 := nm_cps hj hy
  rw [e, h2] at h1
  have := List.head_eq_of_cons_eq h1
  omega
theorem nm_low {i : Nat} {x : Str} (hi : i ≤ 9) (h : Nm i x) : ∀ c ∈ x.cps.toList, 48 ≤ c ∧ c ≤ 122 := by
  obtain ⟨a, b, rfl, ha, hb, _⟩ := h
  intro c hc
  rw [app_cps, app_cps, dg_facts i hi] at hc
  rcases List.mem_append.mp hc with hc | hc
  · rcases List.mem_append.mp hc with hc | hc
    · have := ha c hc; omega
    · have : c = 48 + i := by simpa using hc
      omega
  · have := hb c hc; omega
theorem ok_low {x : Str} (h : ∀ c ∈ x.cps.toList, 48 ≤ c ∧ c ≤ 122) : okS x := by
  show x.cps.all (fun c => decide (c < 0x110000)) = true
  rw [← Array.all_toList, List.all_eq_true]
  intro c hc
  have := h c hc
  exact decide_eq_true (by omega)
end Lw
end
section
open PySem L2 Den
namespace Lw
theorem strs_any : ∀ {vs : List D}, (∀ v ∈ vs, ∃ x, v = .str x) → ∃ w : List Str, vs = w.map D.str
  | [], _ => ⟨[], rfl⟩
  | v :: vs, h => by
    obtain ⟨x, rfl⟩ := h v (by simp)
    obtain ⟨w, rfl⟩ := strs_any (vs := vs) fun u hu => h u (List.mem_cons_of_mem _ hu)
    exact ⟨x :: w, rfl⟩
def unS : D → Str
  | .str x => x
  | _ => ""
theorem unS_map (w : List Str) : (w.map D.str).map unS = w := by
  rw [List.map_map]
  exact List.map_id w
theorem strs_perm {es : List D} {w : List Str} (h : es.Perm (w.map D.str)) : ∃ xs : List Str, es = xs.map D.str ∧ xs.Perm w := by
  obtain ⟨xs, rfl⟩ := strs_any (vs := es) fun v hv => by
    obtain ⟨x, _, rfl⟩ := List.mem_map.mp (h.mem_iff.mp hv)
    exact ⟨x, rfl⟩
  refine ⟨xs, rfl, ?_⟩
  have := h.map unS
  rw [unS_map, unS_map] at this
  exact this
theorem call02 {F : aF} {pen pen' o : O} {d : D} {M : Option O} {rest : Store} (hd : ∃ kvs, pen = .dic kvs) (hF : F [pen, .sh d] = .ret o [pen', .sh d]) :
    aCall 2 [.pl 0, .pl 2] [] F (some pen :: M :: some (.sh d) :: rest) = .ok o (some pen' :: M :: some (.sh d) :: rest) := by
  obtain ⟨kvs, rfl⟩ := hd
  simp [aCall, evA, Res.bind, tak, giv, hF]
theorem rng_at {n k : Nat} {d : D} (h : (rngD 0 (n : Int).toNat)[k]? = some d) : k < n ∧ d = .int (k : Int) := by
  have hk : k < n := by have := (List.getElem?_eq_some_iff.mp h).1; simpa [rngD] using this
  refine ⟨hk, ?_⟩
  unfold rngD at h
  rw [List.getElem?_map, List.getElem?_range (by rw [Int.toNat_natCast]; exact hk)] at h
  simp at h
  exact h.symm
theorem nm_nodup {w : List Str} (hl : w.length ≤ 10) (h : ∀ k x, w[k]? = some x → Nm k x) : w.Nodup := by
  show w.Pairwise _
  rw [List.pairwise_iff_getElem]
  intro i j hi hj hij
  exact nm_ne (by omega) (by omega) (h i _ (List.getElem?_eq_getElem hi)) (h j _ (List.getElem?_eq_getElem hj)) (by omega)
theorem nm_oks {w : List Str} (hl : w.length ≤ 10) (h : ∀ k x, w[k]? = some x → Nm k x) : ∀ x ∈ w, ∀ c ∈ x.cps.toList, 48 ≤ c ∧ c ≤ 122 := by
  intro x hx
  obtain ⟨k, hk⟩ := List.getElem?_of_mem hx
  have := (List.getElem?_eq_some_iff.mp hk).1
  exact nm_low (by omega) (h k x hk)
theorem gList_oS (xs : List Str) : gList (oS xs) = some (.lst ((xs.map D.str).map O.sh)) := by
  have h : lstD (oS xs) = some (xs.map D.str) := shs_map _
  have e : gList (oS xs) = (match lstD (oS xs) with
      | some ds => some (O.lst (ds.map O.sh))
      | none => match dicD (oS xs) with
        | some kvs => some (O.lst ((kvs.map Prod.fst).map O.sh))
        | none => none) := rfl
  rw [e, h]
theorem t_names {B n : Nat} {pen : O} (hp : PenOk B pen) (hB : B + 400 < 1099511627775) (hn : 1 ≤ n ∧ n ≤ 10) :
    ∃ (xs : List Str) (pen' : O), d__law_names [pen, .sh (.int (n : Int))] = .ret (oS xs) [pen', .sh (.int (n : Int))] ∧ xs.length = n ∧ xs.Nodup ∧ (∀ x ∈ xs, ∀ c ∈ x.cps.toList, 48 ≤ c ∧ c ≤ 122) ∧ PenOk (B + 110) pen' := by
  have hlen : (rngD 0 (n : Int).toNat).length = n := by simp [rngD]
  have hN : ∀ {B : Nat} {pen : O} {i : Nat}, PenOk B pen → B + 10 < 1099511627775 → i ≤ 9 → ∃ (a b : Str) (pen' : O), d__law_name [pen, .sh (.int (i : Int))] = .ret (.sh (.str (a ++ dg i ++ b))) [pen', .sh (.int (i : Int))] ∧ Lt a ∧ Lt b ∧ 1 ≤ a.length ∧ a.length + b.length ≤ 8 ∧ PenOk (B + 10) pen' := t_name
  have hS : ∀ {B : Nat} {pen S : O} {ds : List D}, PenOk B pen → B + ds.length < 1099511627775 → gList S = some (.lst (ds.map O.sh)) → gLen S = some (.sh (.int ds.length)) → ds.length ≤ 500 →
    ∃ (es : List D) (pen' : O), d__law_shuffled [pen, S] = .ret (.lst (es.map O.sh)) [pen', S] ∧ es.Perm ds ∧ PenOk (B + ds.length) pen' := t_shuffled
  unfold d__law_names
  revert hN hS
  generalize d__law_name = F
  generalize d__law_shuffled = G
  intro hN hS
  obtain ⟨vs, pen2, e, hl, hv, hp2⟩ := aLcQ (src := aRng1 (aVar 1)) (i := 2) (c := 10) (ge := aCall 2 [.pl 0, .pl 2] [] F) (Pd := fun d v => ∃ (i : Nat) (x : Str), d = .int (i : Int) ∧ v = .str x ∧ Nm i x) (fun p => [some p, some (.sh (.int (n : Int))), none]) (fun _ => rfl) (fun d => ∃ i : Nat, i ≤ 9 ∧ d = .int (i : Int))
    (ρ0 := [some pen, some (.sh (.int (n : Int))), none]) (rng1_ok (var_ok rfl) (by omega)) (by rw [hlen]; omega) (fun d hd => by
      obtain ⟨k, hk⟩ := List.getElem?_of_mem hd
      obtain ⟨h1, h2⟩ := rng_at hk
      exact ⟨k, by omega, h2⟩) hp (by rw [hlen]; omega) (fun B pen d ⟨i, hi, ed⟩ h hB => by
      subst ed
      obtain ⟨a, b, pen', e, la, lb, l1, l2, hp'⟩ := hN (i := i) h (by omega) hi
      exact ⟨_, pen', _, call02 h.dic e, rfl, ⟨i, _, rfl, rfl, a, b, rfl, la, lb, l1, l2⟩, hp'⟩)
  rw [hlen] at hl hp2
  obtain ⟨w, rfl⟩ := strs_any (vs := vs) fun v hm => by
    obtain ⟨k, hk⟩ := List.getElem?_of_mem hm
    have hk2 : k < (rngD 0 (n : Int).toNat).length := by rw [hlen, ← hl]; exact (List.getElem?_eq_some_iff.mp hk).1
    obtain ⟨i, x, _, ex, _⟩ := hv k _ v (List.getElem?_eq_getElem hk2) hk
    exact ⟨x, ex⟩
  rw [List.length_map] at hl
  have hw : ∀ k x, w[k]? = some x → Nm k x := fun k x hk => by
    have hk2 : k < (rngD 0 (n : Int).toNat).length := by rw [hlen, ← hl]; exact (List.getElem?_eq_some_iff.mp hk).1
    obtain ⟨i, y, e1, e2, hy⟩ := hv k _ (.str x) (List.getElem?_eq_getElem hk2) (by rw [List.getElem?_map, hk]; rfl)
    have e3 := (rng_at (List.getElem?_eq_getElem hk2)).2
    rw [e3] at e1
    have : k = i := by injection e1 with e1; omega
    cases e2
    rw [this]
    exact hy
  obtain ⟨es, pen', e2, pm, hp'⟩ := hS (S := .lst ((w.map D.str).map O.sh)) (ds := w.map D.str) hp2 (by rw [List.length_map]; omega) (gList_oS w) (by show some _ = some _; rw [List.length_map]) (by rw [List.length_map]; omega)
  obtain ⟨xs, rfl, px⟩ := strs_perm pm
  refine ⟨xs, pen', def_ret rfl (ret_ok (callq hp2.dic e e2)) rfl, by rw [px.length_eq, hl], px.nodup_iff.mpr (nm_nodup (by omega) hw), fun x hx => nm_oks (by omega) hw x (px.mem_iff.mp hx), hp'.mono (by rw [List.length_map]; omega)⟩
theorem sort_strs {xs : List Str} (h : xs.length < 64) : gSortedS (oS xs) = some (oS (sortStr xs)) := by
  unfold gSortedS
  rw [lstD_oS]
  have : strsD (xs.map D.str) = some xs := by
    induction xs with
    | nil => rfl
    | cons x xs ih => simp [strsD, ih (by simp at h; omega)]
  simp only [this]
  rw [if_pos h]
  rfl
theorem gTuple_oS (xs : List Str) : gTuple (oS xs) = some (.sh (tS xs)) := gTuple_lst _
theorem t_calls {B n : Nat} {pen : O} (hp : PenOk B pen) (hB : B + 400 < 1099511627775) (hn : 1 ≤ n ∧ n ≤ 10) :
    ∃ (xs : List Str) (pen' : O), d__law_calls [pen, .sh (.int (n : Int))] = .ret (.sh (tS xs)) [pen', .sh (.int (n : Int))] ∧ xs.length = n ∧ xs.Nodup ∧ (∀ x ∈ xs, ∀ c ∈ x.cps.toList, 48 ≤ c ∧ c ≤ 122) ∧ PenOk (B + 110) pen' := by
  obtain ⟨xs, pen', e, h1, h2, h3, h4⟩ := t_names hp hB hn
  have ps := sortStr_perm xs
  refine ⟨sortStr xs, pen', ?_, by rw [ps.length_eq, h1], ps.nodup_iff.mpr h2, fun x hx => h3 x (ps.mem_iff.mp hx), h4⟩
  unfold d__law_calls
  revert e
  generalize d__law_names = F
  intro e
  exact def_ret rfl (ret_ok (op1x_ok (op1x_ok (callpp (rest := []) hp.dic (.inl ⟨_, rfl⟩) e) (sort_strs (by omega))) (gTuple_oS _))) rfl
end Lw
end
section
open PySem L2 Den
namespace Lw
def oW (ws : List (List Str)) : O := .lst ((ws.map tS).map O.sh)
def lW (ws : List (List Str)) : D := .lst (ws.map tS)
theorem fz_oW (ws : List (List Str)) : fz (oW ws) = lW ws := by rw [oW, fz, fzL_sh]; rfl
theorem gAdd_oL {as bs : List D} (h : as.length + bs.length ≤ 16000000) : gAdd (.lst (as.map O.sh)) (.lst (bs.map O.sh)) = some (.lst ((as ++ bs).map O.sh)) := by
  have e : ∀ xs ys : List O, gAdd (.lst xs) (.lst ys) = (match lstD (.lst xs), lstD (.lst ys) with
    | some ds, some es => if ds.length + es.length ≤ 16000000 then some (.lst ((ds ++ es).map O.sh)) else none
    | _, _ => none) := fun _ _ => rfl
  have h1 : ∀ xs : List D, lstD (.lst (xs.map O.sh)) = some xs := fun xs => shs_map xs
  rw [e, h1, h1]
  simp only
  rw [if_pos h]
theorem gAdd_oW {as bs : List (List Str)} (h : as.length + bs.length ≤ 16000000) : gAdd (oW as) (oW bs) = some (oW (as ++ bs)) := by
  unfold oW
  rw [gAdd_oL (by simp only [List.length_map]; exact h), ← List.map_append]
theorem var_fz {i : Nat} {ρ : Store} {o : O} (h : ρ[i]? = some (some o)) : aVar i ρ = .ok (.sh (fz o)) (ρ.set i (some (.sh (fz o)))) := by
  cases o with
  | sh d =>
    rw [var_ok h]
    simp only [fz]
    congr 1
    refine List.ext_getElem? fun j => ?_
    by_cases e : i = j
    · subst e
      rw [List.getElem?_set_self', h]
      rfl
    · rw [List.getElem?_set_ne e]
  | lst os => simp [aVar, h]
  | tup os => simp [aVar, h]
  | dic os => simp [aVar, h]
  | obj c os => simp [aVar, h]
theorem items_ok {g : aE} {ρ ρ' : Store} {o : O} {ds : List D} (h : g ρ = .ok o ρ') (hi : itemsD o = some ds) : aItems g ρ = .ok ds ρ' := by
  unfold aItems
  rw [h]
  simp only [Res.bind, hi]
def wl (cs : List Str) (ws : List (List Str)) : List (List Str) := ws.flatMap fun w => cs.map fun c => w ++ [c]
theorem wl_len (cs : List Str) : ∀ ws, (wl cs ws).length = ws.length * cs.length
  | [] => by simp [wl]
  | w :: ws => by
    have ih := wl_len cs ws
    unfold wl at ih ⊢
    rw [List.flatMap_cons, List.length_append, ih, List.length_map, List.length_cons, Nat.add_mul, Nat.one_mul, Nat.add_comm]
section
variable {cs : List Str} (hc : cs.length ≤ 4)
include hc
theorem w_row {M x F La G : Option O} {w : List Str} (hw : w.length ≤ 100) : aLc (aItems (aVar 0)) [7] (aN 7) aYes (aOp [.pl 6, .ex (aOp [.ex (aVar 7)] Den.gTup)] (l2 gAdd)) [some (.sh (tS cs)), M, x, F, La, G, some (.sh (tS w)), none] =
    .ok (oW (cs.map fun c => w ++ [c])) [some (.sh (tS cs)), M, x, F, La, G, some (.sh (tS w)), none] := by
  have z := aLc_map (src := aItems (aVar 0)) (i := 7) (ge := aOp [.pl 6, .ex (aOp [.ex (aVar 7)] Den.gTup)] (l2 gAdd)) (ρ := [some (.sh (tS cs)), M, x, F, La, G, some (.sh (tS w)), none]) (ds := cs.map D.str) (fun d => match d with
      | .str c => tS (w ++ [c])
      | d => d) (items_ok (var_ok rfl) (itemsD_tS cs)) (by rw [List.length_map]; omega) rfl (fun d hd => by
    obtain ⟨c, _, rfl⟩ := List.mem_map.mp hd
    refine ⟨.sh (tS (w ++ [c])), [some (.sh (tS cs)), M, x, F, La, G, some (.sh (tS w)), some (.sh (.str c))], ?_, rfl, rfl⟩
    exact op_pl_ex (a := .sh (tS [c])) rfl (by simp only [aDef, pre, outs, List.map_cons, List.map_nil, List.replicate, List.cons_append, List.nil_append, List.length_cons, List.length_nil, sSeq, sSet, sRet, sRetN, sIf, sDrop, sPar, sAsg, sNext, aB, aC, aVar, aMove, aFz, aTV, aNot, aAnd, aOr, aIfE, aAndV, aOrV, aOp, aSl, aP, evA, rsv, l1, l2, Res.bind, Res.out, List.getElem?_cons_zero, List.getElem?_cons_succ, List.set_cons_zero, List.set_cons_succ, Option.map_some, Option.map_none, fz, shs, if_true, if_false, ite_true, ite_false, Bool.false_eq_true, reduceIte, reduceCtorEq, Nat.reduceAdd, Nat.reduceSub, Nat.reduceLT, Nat.reduceLeDiff, Nat.reduceEqDiff, Bool.not_true, Bool.not_false, Nat.sub_self, Nat.zero_add, and_self, true_and, and_true, Nat.lt_add_one, decide_true, decide_false, decide_eq_true_eq , gSl_tS, gLen_tS, gLen_lS, gTup_str, gIn_tS, gNotIn_tS, gIn_lS, gNotIn_lS, gEq_int, gEq_str, gNe_int, gNe_str, cut_from, cut_to , gTup_str2, gIx_tup, atI_0, atI_1, atI_2, atI_3, gSl_tup, List.mem_cons, List.not_mem_nil, or_false, false_or, true_or, or_true, not_true_eq_false, not_false_eq_true , aCall, tak, giv, List.append_nil, aMeth, k_never_until, k_never_after, k_never_turns, k_never_most, k_never_within, k_never_and, k_never_or, k_until_never, k_until_after, k_until_turns, k_until_most, k_until_within, k_until_and, k_until_or, k_after_never, k_after_until, k_after_turns, k_after_most, k_after_within, k_after_and, k_after_or, k_turns_never, k_turns_until, k_turns_after, k_turns_most, k_turns_within, k_turns_and, k_turns_or, k_most_never, k_most_until, k_most_after, k_most_turns, k_most_within, k_most_and, k_most_or, k_within_never, k_within_until, k_within_after, k_within_turns, k_within_most, k_within_and, k_within_or, k_and_never, k_and_until, k_and_after, k_and_turns, k_and_most, k_and_within, k_and_or, k_or_never, k_or_until, k_or_after, k_or_turns, k_or_most, k_or_within, k_or_and]) rfl (gAdd_tS (by simp; omega)))
  rw [z]
  unfold oW
  congr 3
  rw [List.map_map, List.map_map]
  rfl
theorem w_turn {M x F La y : Option O} {g : List (List Str)} {w : List Str} (hw : w.length ≤ 100) (hg : g.length ≤ 100000) : sSet 5 (aOp [.pl 5, .ex (aLc (aItems (aVar 0)) [7] (aN 7) aYes (aOp [.pl 6, .ex (aOp [.ex (aVar 7)] Den.gTup)] (l2 gAdd)))] (l2 gAdd)) [some (.sh (tS cs)), M, x, F, La, some (oW g), some (.sh (tS w)), none] =
    .nx [some (.sh (tS cs)), M, x, F, La, some (oW (g ++ cs.map fun c => w ++ [c])), some (.sh (tS w)), none] := by
  refine set_ok (i := 5) (o := oW (g ++ cs.map fun c => w ++ [c])) (ρ' := [some (.sh (tS cs)), M, x, F, La, some (oW g), some (.sh (tS w)), none]) ?_ (by simp)
  exact op_pl_ex (S0 := oW g) (S := oW g) rfl (w_row hc hw) rfl (gAdd_oW (by simp; omega))
theorem w_inner {M x F La : Option O} : ∀ (ws g : List (List Str)) (y : Option O), (∀ w ∈ ws, w.length ≤ 100) → g.length + 4 * ws.length ≤ 100000 → ∃ y', forD (aN 6) (sSet 5 (aOp [.pl 5, .ex (aLc (aItems (aVar 0)) [7] (aN 7) aYes (aOp [.pl 6, .ex (aOp [.ex (aVar 7)] Den.gTup)] (l2 gAdd)))] (l2 gAdd))) (ws.map tS) [some (.sh (tS cs)), M, x, F, La, some (oW g), y, none] =
    .nx [some (.sh (tS cs)), M, x, F, La, some (oW (g ++ wl cs ws)), y', none]
  | [], g, y, _, _ => ⟨y, by rw [wl, List.flatMap_nil, List.append_nil]; rfl⟩
  | w :: ws, g, y, h, hl => by
    rw [List.length_cons] at hl
    obtain ⟨y', e⟩ := w_inner ws (g ++ cs.map fun c => w ++ [c]) (some (.sh (tS w))) (fun v hv => h v (List.mem_cons_of_mem _ hv)) (by simp; omega)
    refine ⟨y', ?_⟩
    rw [List.map_cons, forD, aN_in (by simp)]
    simp only [List.set_cons_succ, List.set_cons_zero]
    rw [w_turn (y := none) hc (h w (by simp)) (by omega)]
    simp only
    rw [e, List.append_assoc]
    rfl
end
end Lw
end
section
open PySem L2 Den
namespace Lw
section
variable {cs : List Str} (hc : cs.length ≤ 4)
include hc
theorem w_outer {M : Option O} {body : aS} (hb : ∀ (found last : List (List Str)) (X : O) (x x5 x6 : Option O), fz X = lW last → (∀ w ∈ last, w.length ≤ 100) → 4 * last.length ≤ 100000 → found.length ≤ 1000 → ∃ y' X5, fz X5 = lW (wl cs last) ∧ body [some (.sh (tS cs)), M, x, some (oW found), some X, x5, x6, none] = .nx [some (.sh (tS cs)), M, x, some (oW (found ++ wl cs last)), some X5, some X5, y', none]) :
    ∀ (ds : List D) (L : Nat) (found last : List (List Str)) (X : O) (x x5 x6 : Option O), fz X = lW last → last.length ≤ 4 ^ L → found.length ≤ 2 * 4 ^ L → L + ds.length ≤ 4 → (∀ w ∈ found ++ last, (∀ c ∈ w, c ∈ cs) ∧ w.length ≤ L) →
    ∃ (found' : List (List Str)) (X' : O) (x' x5' x6' : Option O), forD (aN 2) body ds [some (.sh (tS cs)), M, x, some (oW found), some X, x5, x6, none] = .nx [some (.sh (tS cs)), M, x', some (oW found'), some X', x5', x6', none] ∧ (∀ w ∈ found', (∀ c ∈ w, c ∈ cs) ∧ w.length ≤ L + ds.length) ∧ found'.length ≤ 512
  | [], L, found, last, X, x, x5, x6, hX, h1, h2, h3, h4 => ⟨found, X, x, x5, x6, rfl, fun w hw => h4 w (List.mem_append_left _ hw), by
    have : 4 ^ L ≤ 4 ^ 4 := Nat.pow_le_pow_right (by omega) (by simpa using h3)
    omega⟩
  | d :: ds, L, found, last, X, x, x5, x6, hX, h1, h2, h3, h4 => by
    rw [List.length_cons] at h3
    have p4 : 4 ^ L ≤ 4 ^ 4 := Nat.pow_le_pow_right (by omega) (by omega)
    have hlw : (wl cs last).length ≤ 4 ^ L * 4 := by rw [wl_len]; exact Nat.mul_le_mul h1 hc
    obtain ⟨y', X5, e5, eb⟩ := hb found last X (some (.sh d)) x5 x6 hX (fun w hw => by have := (h4 w (List.mem_append_right _ hw)).2; omega) (by omega) (by omega)
    obtain ⟨found', X', x', x5', x6', e, r1, r2⟩ := w_outer hb ds (L + 1) (found ++ wl cs last) (wl cs last) X5 (some (.sh d)) (some X5) y' e5 (by rw [Nat.pow_succ]; exact hlw) (by rw [List.length_append, Nat.pow_succ]; omega) (by omega) (fun w hw => by
      have hwl : ∀ w ∈ wl cs last, (∀ c ∈ w, c ∈ cs) ∧ w.length ≤ L + 1 := fun w hw => by
        obtain ⟨v, hv, hm⟩ := List.mem_flatMap.mp hw
        obtain ⟨c, hcm, rfl⟩ := List.mem_map.mp hm
        have h := h4 v (List.mem_append_right _ hv)
        refine ⟨fun b hb => ?_, by simp; exact h.2⟩
        rcases List.mem_append.mp hb with hb | hb
        · exact h.1 b hb
        · rw [List.mem_singleton.mp hb]; exact hcm
      rcases List.mem_append.mp hw with hw | hw
      · rcases List.mem_append.mp hw with hw | hw
        · have h := h4 w (List.mem_append_left _ hw)
          exact ⟨h.1, by omega⟩
        · exact hwl w hw
      · exact hwl w hw)
    refine ⟨found', X', x', x5', x6', ?_, fun w hw => ⟨(r1 w hw).1, by have := (r1 w hw).2; rw [List.length_cons]; omega⟩, r2⟩
    rw [forD, aN_in (by simp)]
    simp only [List.set_cons_succ, List.set_cons_zero]
    rw [eb]
    exact e
theorem t_words_to {most : Nat} (hm : most ≤ 4) : ∃ ws : List (List Str), d__law_words_to [.sh (tS cs), .sh (.int (most : Int))] = .ret (oW ws) [.sh (tS cs), .sh (.int (most : Int))] ∧ (∀ w ∈ ws, (∀ c ∈ w, c ∈ cs) ∧ w.length ≤ most) ∧ ws.length ≤ 512 := by
  have hlen : (rngD 0 ((most : Nat) : Int).toNat).length = most := by simp [rngD]
  obtain ⟨found', X', x', x5', x6', e, r1, r2⟩ := w_outer (M := some (.sh (.int (most : Int)))) (body := sSeq (sSet 5 (aOp [] gLstS)) (sSeq (sFor (aItems (aVar 4)) (aN 6) (sSet 5 (aOp [.pl 5, .ex (aLc (aItems (aVar 0)) [7] (aN 7) aYes (aOp [.pl 6, .ex (aOp [.ex (aVar 7)] Den.gTup)] (l2 gAdd)))] (l2 gAdd)))) (sPar 3 4 (aOp [.pl 3, .pl 5] (l2 gAdd)) (aVar 5)))) hc (fun found last X x x5 x6 hX h1 h2 h3 => by
    obtain ⟨y', e⟩ := w_inner (M := some (.sh (.int (most : Int)))) (x := x) (F := some (oW found)) (La := some (.sh (lW last))) hc last [] x6 h1 (by simp; omega)
    rw [List.nil_append] at e
    have hwl := wl_len cs last
    have hlw : (wl cs last).length ≤ 100000 := by
      rw [hwl]
      have := Nat.mul_le_mul_left last.length hc
      omega
    refine ⟨y', .sh (lW (wl cs last)), rfl, ?_⟩
    have s1 := set_ok (i := 5) (g := aOp [] gLstS) (o := oW []) (ρ := [some (.sh (tS cs)), some (.sh (.int (most : Int))), x, some (oW found), some X, x5, x6, none]) (ρ' := [some (.sh (tS cs)), some (.sh (.int (most : Int))), x, some (oW found), some X, x5, x6, none]) rfl (by simp)
    have v4 := var_fz (i := 4) (o := X) (ρ := [some (.sh (tS cs)), some (.sh (.int (most : Int))), x, some (oW found), some X, some (oW []), x6, none]) rfl
    rw [hX] at v4
    have s2 := (for_any (tg := aN 6) (body := sSet 5 (aOp [.pl 5, .ex (aLc (aItems (aVar 0)) [7] (aN 7) aYes (aOp [.pl 6, .ex (aOp [.ex (aVar 7)] Den.gTup)] (l2 gAdd)))] (l2 gAdd))) (items_ok v4 (ds := last.map tS) rfl)).trans e
    have v5 := var_fz (i := 5) (o := oW (wl cs last)) (ρ := [some (.sh (tS cs)), some (.sh (.int (most : Int))), x, some (oW found), some (.sh (lW last)), some (oW (wl cs last)), y', none]) rfl
    rw [fz_oW] at v5
    have a1 : aOp [.pl 3, .pl 5] (l2 gAdd) [some (.sh (tS cs)), some (.sh (.int (most : Int))), x, some (oW found), some (.sh (lW last)), some (oW (wl cs last)), y', none] = .ok (oW (found ++ wl cs last)) [some (.sh (tS cs)), some (.sh (.int (most : Int))), x, some (oW found), some (.sh (lW last)), some (oW (wl cs last)), y', none] := by
      have ga := gAdd_oW (as := found) (bs := wl cs last) (by omega)
      simp [aOp, evA, rsv, Res.bind, l2, ga]
    have s3 := par_ok (i := 3) (j := 4) a1 v5 (by simp) (by simp)
    exact (seq_nx s1).trans ((seq_nx s2).trans s3)) (rngD 0 ((most : Nat) : Int).toNat) 0 [[]] [[]] (oW [[]]) none none none (fz_oW _) (by simp) (by simp) (by rw [hlen]; omega) (fun w hw => by simp at hw; subst hw; simp)
  rw [hlen, Nat.zero_add] at r1
  refine ⟨found', ?_, r1, r2⟩
  have p0 := par_ok (i := 3) (j := 4) (g := aOp [.ex (aFz (aOp [] Den.gTup))] gLstS) (h := aOp [.ex (aFz (aOp [] Den.gTup))] gLstS) (o := oW [[]]) (u := oW [[]]) (ρ := [some (.sh (tS cs)), some (.sh (.int (most : Int))), none, none, none, none, none, none]) (ρ1 := [some (.sh (tS cs)), some (.sh (.int (most : Int))), none, none, none, none, none, none]) (ρ2 := [some (.sh (tS cs)), some (.sh (.int (most : Int))), none, none, none, none, none, none]) rfl rfl (by simp) (by simp)
  have e2 := (sFor_rng1 (g := aVar 1) (tg := aN 2) (var_ok rfl) (by omega)).trans e
  unfold d__law_words_to
  exact def_ret rfl ((seq_nx p0).trans ((seq_nx e2).trans (ret_ok rfl))) rfl
end
end Lw
end
section
open PySem L2 Den
namespace Lw
theorem lit_oI2 {a b : Int} {ρ : Store} : aOp [.ex (aC (.int a)), .ex (aC (.int b))] gLstS ρ = .ok (oI [a, b]) ρ := by simp [aOp, evA, aC, Res.bind, rsv, gLstS, shs, oI]
theorem lit_oI3 {a b c : Int} {ρ : Store} : aOp [.ex (aC (.int a)), .ex (aC (.int b)), .ex (aC (.int c))] gLstS ρ = .ok (oI [a, b, c]) ρ := by simp [aOp, evA, aC, Res.bind, rsv, gLstS, shs, oI]
theorem lit_oI6 {a b c d e f : Int} {ρ : Store} : aOp [.ex (aC (.int a)), .ex (aC (.int b)), .ex (aC (.int c)), .ex (aC (.int d)), .ex (aC (.int e)), .ex (aC (.int f))] gLstS ρ = .ok (oI [a, b, c, d, e, f]) ρ := by simp [aOp, evA, aC, Res.bind, rsv, gLstS, shs, oI]
theorem lit_oS2 {a b : Str} {ρ : Store} : aOp [.ex (aC (.str a)), .ex (aC (.str b))] gLstS ρ = .ok (oS [a, b]) ρ := by simp [aOp, evA, aC, Res.bind, rsv, gLstS, shs, oS]
theorem pick_oI {B : Nat} {pen : O} {xs : List Int} (hp : PenOk B pen) (hB : B < 1099511627775) (hn : xs ≠ []) (hl : xs.length ≤ 1000) :
    ∃ (x : Int) (pen' : O), d__law_pick [pen, oI xs] = .ret (.sh (.int x)) [pen', oI xs] ∧ x ∈ xs ∧ PenOk (B + 1) pen' := by
  have h0 : 0 < xs.length := List.length_pos_iff.mpr hn
  obtain ⟨d, pen', e, ⟨x, hx, rfl⟩, hp'⟩ := t_pick (S := oI xs) (n := xs.length) (Pd := fun d => ∃ x ∈ xs, d = .int x) hp hB (gLen_oI xs) ⟨h0, by omega⟩ (fun k hk => ⟨.int xs[k], gIx_oI (List.getElem?_eq_getElem hk), xs[k], List.getElem_mem hk, rfl⟩)
  exact ⟨x, pen', e, hx, hp'⟩
theorem pick_oS {B : Nat} {pen : O} {xs : List Str} (hp : PenOk B pen) (hB : B < 1099511627775) (hn : xs ≠ []) (hl : xs.length ≤ 1000) :
    ∃ (x : Str) (pen' : O), d__law_pick [pen, oS xs] = .ret (.sh (.str x)) [pen', oS xs] ∧ x ∈ xs ∧ PenOk (B + 1) pen' := by
  have h0 : 0 < xs.length := List.length_pos_iff.mpr hn
  obtain ⟨d, pen', e, ⟨x, hx, rfl⟩, hp'⟩ := t_pick (S := oS xs) (n := xs.length) (Pd := fun d => ∃ x ∈ xs, d = .str x) hp hB (gLen_oS xs) ⟨h0, by omega⟩ (fun k hk => ⟨.str xs[k], gIx_oS (List.getElem?_eq_getElem hk), xs[k], List.getElem_mem hk, rfl⟩)
  exact ⟨x, pen', e, hx, hp'⟩
theorem ife_yes {p : aT} {g h : aE} {ρ ρ' : Store} (hp : p ρ = .ok true ρ') : aIfE p g h ρ = g ρ' := by simp [aIfE, hp, Res.bind]
theorem ife_no {p : aT} {g h : aE} {ρ ρ' : Store} (hp : p ρ = .ok false ρ') : aIfE p g h ρ = h ρ' := by simp [aIfE, hp, Res.bind]
theorem b_ok {g : aE} {ρ ρ' : Store} {b : Bool} (h : g ρ = .ok (.sh (.bl b)) ρ') : aB g ρ = .ok b ρ' := by simp [aB, h, Res.bind]
/-- len(S) > 1 -/
theorem more1 {i : Nat} {ρ : Store} {cs : List Str} (h : ρ[i]? = some (some (.sh (tS cs)))) : aB (aOp [.ex (aOp [.pl i] (l1 gLen)), .ex (aC (.int 1))] (l2 gGt)) ρ = .ok (decide (1 < cs.length)) ρ := by
  refine b_ok (op_xx (op1_ok h (gLen_tS cs)) rfl ?_)
  show some _ = some _
  congr 3
  by_cases hh : 1 < cs.length
  · have : (1 : Int) < cs.length := by omega
    simp [hh, this]
  · have : ¬ (1 : Int) < cs.length := by omega
    simp [hh, this]
theorem more1y {i : Nat} {ρ : Store} {cs : List Str} (h : ρ[i]? = some (some (.sh (tS cs)))) (h1 : 1 < cs.length) : aB (aOp [.ex (aOp [.pl i] (l1 gLen)), .ex (aC (.int 1))] (l2 gGt)) ρ = .ok true ρ := by
  rw [more1 h, decide_eq_true h1]
theorem more1n {i : Nat} {ρ : Store} {cs : List Str} (h : ρ[i]? = some (some (.sh (tS cs)))) (h1 : ¬ 1 < cs.length) : aB (aOp [.ex (aOp [.pl i] (l1 gLen)), .ex (aC (.int 1))] (l2 gGt)) ρ = .ok false ρ := by
  rw [more1 h, decide_eq_false h1]
theorem asg_ok {g : aE} {tg : aG} {ρ ρ1 ρ2 : Store} {o : O} (h : g ρ = .ok o ρ1) (h2 : tg (fz o) ρ1 = some ρ2) : sAsg g tg ρ = .nx ρ2 := by
  unfold sAsg
  rw [h]
  simp only [Res.out, h2]
/-- 1 + a draw below one of xs -/
theorem one_draw {B : Nat} {pen : O} {xs : List Int} {lit : aE} {rest : Store} (hl : ∀ ρ, lit ρ = .ok (oI xs) ρ) (hp : PenOk B pen) (hB : B + 2 < 1099511627775) (hn : xs ≠ []) (hx : ∀ x ∈ xs, 0 < x ∧ x ≤ 1000) (hxl : xs.length ≤ 1000) :
    ∃ (n : Nat) (pen' : O), aOp [.ex (aC (.int 1)), .ex (aCall 2 [.pl 0, .ex (aCall 2 [.pl 0, .ex lit] [] d__law_pick)] [] d__law_draw)] (l2 gAdd) (some pen :: rest) = .ok (.sh (.int (n : Int))) (some pen' :: rest) ∧ 0 < n ∧ (∃ x ∈ xs, (n : Int) ≤ x) ∧ PenOk (B + 2) pen' := by
  obtain ⟨x, pen1, e1, hm, hp1⟩ := pick_oI (xs := xs) hp (by omega) hn hxl
  obtain ⟨r, pen2, e2, r0, r1, hp2⟩ := t_draw (many := x) hp1 (by omega) (by have := hx x hm; omega)
  obtain ⟨k, rfl⟩ := Int.eq_ofNat_of_zero_le r0
  refine ⟨1 + k, pen2, ?_, by omega, ⟨x, hm, by omega⟩, hp2⟩
  revert e1 e2
  generalize d__law_pick = P
  generalize d__law_draw = G
  intro e1 e2
  refine op_xx rfl (callq hp1.dic (callp (F := P) hp.dic (hl _) e1) e2) ?_
  show some _ = some _
  congr 3
/-- 1 + a draw below m -/
theorem one_draw1 {B m : Nat} {pen : O} {rest : Store} (hp : PenOk B pen) (hB : B + 2 < 1099511627775) (hm : 0 < m ∧ m ≤ 1000) :
    ∃ (n : Nat) (pen' : O), aOp [.ex (aC (.int 1)), .ex (aCall 2 [.pl 0, .ex (aC (.int (m : Int)))] [] d__law_draw)] (l2 gAdd) (some pen :: rest) = .ok (.sh (.int (n : Int))) (some pen' :: rest) ∧ 0 < n ∧ n ≤ m ∧ PenOk (B + 1) pen' := by
  obtain ⟨r, pen2, e2, r0, r1, hp2⟩ := t_draw (many := (m : Int)) hp (by omega) (by omega)
  obtain ⟨k, rfl⟩ := Int.eq_ofNat_of_zero_le r0
  refine ⟨1 + k, pen2, ?_, by omega, by omega, hp2⟩
  revert e2
  generalize d__law_draw = G
  intro e2
  refine op_xx rfl (callp (F := G) hp.dic rfl e2) ?_
  show some _ = some _
  congr 3
end Lw
end
section
open PySem L2 Den
namespace Lw
section
variable {B : Nat} {pen : O} {cs : List Str} (hp : PenOk B pen) (hB : B + 100 < 1099511627775) (h1 : 1 ≤ cs.length) (h4 : cs.length ≤ 4)
include hp hB h1 h4
theorem sp_way {r3 r4 r5 r6 r7 r8 : Option O} : ∃ (k : Nat) (pen' : O), sSet 2 (aIfE (aB (aOp [.ex (aOp [.pl 1] (l1 gLen)), .ex (aC (.int 1))] (l2 gGt))) (aCall 2 [.pl 0, .ex (aC (.int 6))] [] (d__law_draw)) (aCall 2 [.pl 0, .ex (aOp [.ex (aC (.int 0)), .ex (aC (.int 4))] gLstS)] [] (d__law_pick))) [some pen, some (.sh (tS cs)), none, r3, r4, r5, r6, r7, r8] =
    .nx [some pen', some (.sh (tS cs)), some (.sh (.int (k : Int))), r3, r4, r5, r6, r7, r8] ∧ (k = 0 ∨ k = 4 ∨ (1 < cs.length ∧ (k = 1 ∨ k = 2 ∨ k = 3 ∨ k = 5))) ∧ PenOk (B + 1) pen' := by
  by_cases h : 1 < cs.length
  · obtain ⟨r, pen', e, r0, r1, hp'⟩ := t_draw (many := 6) hp (by omega) (by omega)
    obtain ⟨k, rfl⟩ := Int.eq_ofNat_of_zero_le r0
    refine ⟨k, pen', ?_, by omega, hp'⟩
    revert e
    generalize d__law_draw = G
    intro e
    exact set_ok (i := 2) ((ife_yes (more1y (i := 1) rfl h)).trans (callp (F := G) hp.dic rfl e)) (by simp)
  · obtain ⟨x, pen', e, hx, hp'⟩ := pick_oI (xs := [0, 4]) hp (by omega) (by simp) (by simp)
    have hx2 : x = 0 ∨ x = 4 := by simpa using hx
    obtain ⟨k, rfl⟩ := Int.eq_ofNat_of_zero_le (show 0 ≤ x by omega)
    refine ⟨k, pen', ?_, by omega, hp'⟩
    revert e
    generalize d__law_pick = G
    intro e
    exact set_ok (i := 2) ((ife_no (more1n (i := 1) rfl h)).trans (callp (F := G) hp.dic lit_oI2 e)) (by simp)
theorem sp_two (hn : cs.Nodup) {M r3 r4 r5 r6 r7 r8 : Option O} : ∃ (a : Str) (b : D) (pen' : O), sAsg (aIfE (aB (aOp [.ex (aOp [.pl 1] (l1 gLen)), .ex (aC (.int 1))] (l2 gGt))) (aSl (.ex (aCall 2 [.pl 0, .pl 1] [] (d__law_shuffled))) none (some (aC (.int 2))) gSl) (aOp [.ex (aFz (aOp [.pl 1, .ex (aC (.int 0))] (l2 gIx))), .ex (aC .non)] Den.gTup)) (aUnp [(aN 5), (aN 6)]) [some pen, some (.sh (tS cs)), M, r3, r4, r5, r6, r7, r8] =
    .nx [some pen', some (.sh (tS cs)), M, r3, r4, some (.sh (.str a)), some (.sh b), r7, r8] ∧ a ∈ cs ∧ (1 < cs.length → ∃ c ∈ cs, c ≠ a ∧ b = .str c) ∧ PenOk (B + 4) pen' := by
  by_cases h : 1 < cs.length
  · obtain ⟨es, pen', e, pm, hp'⟩ := t_shuffled (S := .sh (tS cs)) (ds := cs.map D.str) hp (by rw [List.length_map]; omega) rfl (by rw [List.length_map]; exact gLen_tS cs) (by rw [List.length_map]; omega)
    obtain ⟨ys, rfl, py⟩ := strs_perm pm
    have hl := py.length_eq
    match ys, py, hl, e with
    | [], _, hl, _ => simp at hl; omega
    | [_], _, hl, _ => simp at hl; omega
    | a :: c :: r, py, hl, e =>
      have nd := py.nodup_iff.mpr hn
      have hne : c ≠ a := fun z => by simp [z] at nd
      refine ⟨a, .str c, pen', ?_, py.mem_iff.mp (by simp), fun _ => ⟨c, py.mem_iff.mp (by simp), hne, rfl⟩, hp'.mono (by rw [List.length_map]; omega)⟩
      revert e
      generalize d__law_shuffled = G
      intro e
      have hs : aSl (.ex (aCall 2 [.pl 0, .pl 1] [] G)) none (some (aC (.int 2))) gSl [some pen, some (.sh (tS cs)), M, r3, r4, r5, r6, r7, r8] = .ok (.lst ([D.str a, .str c].map O.sh)) [some pen', some (.sh (tS cs)), M, r3, r4, r5, r6, r7, r8] := by
        have c1 := callpp (F := G) (rest := [M, r3, r4, r5, r6, r7, r8]) hp.dic (.inl ⟨_, rfl⟩) e
        refine sl_to (ρ1 := [some pen', some (.sh (tS cs)), M, r3, r4, r5, r6, r7, r8]) (rs := [.o (.lst (((a :: c :: r).map D.str).map O.sh))]) (j := 2) ?_ rfl rfl ?_
        · simp [evA, c1, Res.bind]
        · rw [gSl_lst]
          have : cutD ((a :: c :: r).map D.str) none (some 2) = [.str a, .str c] := cut_to _ 2
          rw [this]
      exact asg_ok ((ife_yes (more1y (i := 1) rfl h)).trans hs) rfl
  · match cs, h1, h with
    | [], h1, _ => simp at h1
    | a :: c :: r, _, h => simp at h
    | [a], _, _ =>
      refine ⟨a, .non, pen, ?_, by simp, fun z => by simp at z, hp.mono (by omega)⟩
      generalize d__law_shuffled = G
      have m := more1n (i := 1) (cs := [a]) (ρ := [some pen, some (.sh (tS [a])), M, r3, r4, r5, r6, r7, r8]) rfl (by simp)
      refine asg_ok (o := .sh (.tup [.str a, .non])) (ρ1 := [some pen, some (.sh (tS [a])), M, r3, r4, r5, r6, r7, r8]) ((ife_no m).trans ?_) rfl
      · have g0 : gIx (.sh (tS [a])) (.sh (.int 0)) = some (.sh (.str a)) := rfl
        simp only [aDef, pre, outs, List.map_cons, List.map_nil, List.replicate, List.cons_append, List.nil_append, List.length_cons, List.length_nil, sSeq, sSet, sRet, sRetN, sIf, sDrop, sPar, sAsg, sNext, aB, aC, aVar, aMove, aFz, aTV, aNot, aAnd, aOr, aIfE, aAndV, aOrV, aOp, aSl, aP, evA, rsv, l1, l2, Res.bind, Res.out, List.getElem?_cons_zero, List.getElem?_cons_succ, List.set_cons_zero, List.set_cons_succ, Option.map_some, Option.map_none, fz, shs, if_true, if_false, ite_true, ite_false, Bool.false_eq_true, reduceIte, reduceCtorEq, Nat.reduceAdd, Nat.reduceSub, Nat.reduceLT, Nat.reduceLeDiff, Nat.reduceEqDiff, Bool.not_true, Bool.not_false, Nat.sub_self, Nat.zero_add, and_self, true_and, and_true, Nat.lt_add_one, decide_true, decide_false, decide_eq_true_eq , gSl_tS, gLen_tS, gLen_lS, gTup_str, gIn_tS, gNotIn_tS, gIn_lS, gNotIn_lS, gEq_int, gEq_str, gNe_int, gNe_str, cut_from, cut_to , gTup_str2, gIx_tup, atI_0, atI_1, atI_2, atI_3, gSl_tup, List.mem_cons, List.not_mem_nil, or_false, false_or, true_or, or_true, not_true_eq_false, not_false_eq_true , aCall, tak, giv, List.append_nil, aMeth, k_never_until, k_never_after, k_never_turns, k_never_most, k_never_within, k_never_and, k_never_or, k_until_never, k_until_after, k_until_turns, k_until_most, k_until_within, k_until_and, k_until_or, k_after_never, k_after_until, k_after_turns, k_after_most, k_after_within, k_after_and, k_after_or, k_turns_never, k_turns_until, k_turns_after, k_turns_most, k_turns_within, k_turns_and, k_turns_or, k_most_never, k_most_until, k_most_after, k_most_turns, k_most_within, k_most_and, k_most_or, k_within_never, k_within_until, k_within_after, k_within_turns, k_within_most, k_within_and, k_within_or, k_and_never, k_and_until, k_and_after, k_and_turns, k_and_most, k_and_within, k_and_or, k_or_never, k_or_until, k_or_after, k_or_turns, k_or_most, k_or_within, k_or_and, g0, Den.gTup]
theorem sp_rest {a : Str} {M r4 r6 r8 : Option O} : sSet 3 (aLc (aItems (aVar 1)) [7] (aN 7) (aB (aOp [.pl 7, .pl 5] (l2 gNe))) (aVar 7)) [some pen, some (.sh (tS cs)), M, none, r4, some (.sh (.str a)), r6, none, r8] =
    .nx [some pen, some (.sh (tS cs)), M, some (oS (cs.filter fun y => !decide (y = a))), r4, some (.sh (.str a)), r6, none, r8] := by
  refine set_ok (i := 3) (ρ' := [some pen, some (.sh (tS cs)), M, none, r4, some (.sh (.str a)), r6, none, r8]) ?_ (by simp)
  refine aLc_fS (fun y => !decide (y = a)) (items_ok (var_ok rfl) (itemsD_tS cs)) (by omega) rfl (fun y _ => ?_) (fun y _ => ?_)
  · simp only [aDef, pre, outs, List.map_cons, List.map_nil, List.replicate, List.cons_append, List.nil_append, List.length_cons, List.length_nil, sSeq, sSet, sRet, sRetN, sIf, sDrop, sPar, sAsg, sNext, aB, aC, aVar, aMove, aFz, aTV, aNot, aAnd, aOr, aIfE, aAndV, aOrV, aOp, aSl, aP, evA, rsv, l1, l2, Res.bind, Res.out, List.getElem?_cons_zero, List.getElem?_cons_succ, List.set_cons_zero, List.set_cons_succ, Option.map_some, Option.map_none, fz, shs, if_true, if_false, ite_true, ite_false, Bool.false_eq_true, reduceIte, reduceCtorEq, Nat.reduceAdd, Nat.reduceSub, Nat.reduceLT, Nat.reduceLeDiff, Nat.reduceEqDiff, Bool.not_true, Bool.not_false, Nat.sub_self, Nat.zero_add, and_self, true_and, and_true, Nat.lt_add_one, decide_true, decide_false, decide_eq_true_eq , gSl_tS, gLen_tS, gLen_lS, gTup_str, gIn_tS, gNotIn_tS, gIn_lS, gNotIn_lS, gEq_int, gEq_str, gNe_int, gNe_str, cut_from, cut_to , gTup_str2, gIx_tup, atI_0, atI_1, atI_2, atI_3, gSl_tup, List.mem_cons, List.not_mem_nil, or_false, false_or, true_or, or_true, not_true_eq_false, not_false_eq_true , aCall, tak, giv, List.append_nil, aMeth, k_never_until, k_never_after, k_never_turns, k_never_most, k_never_within, k_never_and, k_never_or, k_until_never, k_until_after, k_until_turns, k_until_most, k_until_within, k_until_and, k_until_or, k_after_never, k_after_until, k_after_turns, k_after_most, k_after_within, k_after_and, k_after_or, k_turns_never, k_turns_until, k_turns_after, k_turns_most, k_turns_within, k_turns_and, k_turns_or, k_most_never, k_most_until, k_most_after, k_most_turns, k_most_within, k_most_and, k_most_or, k_within_never, k_within_until, k_within_after, k_within_turns, k_within_most, k_within_and, k_within_or, k_and_never, k_and_until, k_and_after, k_and_turns, k_and_most, k_and_within, k_and_or, k_or_never, k_or_until, k_or_after, k_or_turns, k_or_most, k_or_within, k_or_and]
  · simp only [aDef, pre, outs, List.map_cons, List.map_nil, List.replicate, List.cons_append, List.nil_append, List.length_cons, List.length_nil, sSeq, sSet, sRet, sRetN, sIf, sDrop, sPar, sAsg, sNext, aB, aC, aVar, aMove, aFz, aTV, aNot, aAnd, aOr, aIfE, aAndV, aOrV, aOp, aSl, aP, evA, rsv, l1, l2, Res.bind, Res.out, List.getElem?_cons_zero, List.getElem?_cons_succ, List.set_cons_zero, List.set_cons_succ, Option.map_some, Option.map_none, fz, shs, if_true, if_false, ite_true, ite_false, Bool.false_eq_true, reduceIte, reduceCtorEq, Nat.reduceAdd, Nat.reduceSub, Nat.reduceLT, Nat.reduceLeDiff, Nat.reduceEqDiff, Bool.not_true, Bool.not_false, Nat.sub_self, Nat.zero_add, and_self, true_and, and_true, Nat.lt_add_one, decide_true, decide_false, decide_eq_true_eq , gSl_tS, gLen_tS, gLen_lS, gTup_str, gIn_tS, gNotIn_tS, gIn_lS, gNotIn_lS, gEq_int, gEq_str, gNe_int, gNe_str, cut_from, cut_to , gTup_str2, gIx_tup, atI_0, atI_1, atI_2, atI_3, gSl_tup, List.mem_cons, List.not_mem_nil, or_false, false_or, true_or, or_true, not_true_eq_false, not_false_eq_true , aCall, tak, giv, List.append_nil, aMeth, k_never_until, k_never_after, k_never_turns, k_never_most, k_never_within, k_never_and, k_never_or, k_until_never, k_until_after, k_until_turns, k_until_most, k_until_within, k_until_and, k_until_or, k_after_never, k_after_until, k_after_turns, k_after_most, k_after_within, k_after_and, k_after_or, k_turns_never, k_turns_until, k_turns_after, k_turns_most, k_turns_within, k_turns_and, k_turns_or, k_most_never, k_most_until, k_most_after, k_most_turns, k_most_within, k_most_and, k_most_or, k_within_never, k_within_until, k_within_after, k_within_turns, k_within_most, k_within_and, k_within_or, k_and_never, k_and_until, k_and_after, k_and_turns, k_and_most, k_and_within, k_and_or, k_or_never, k_or_until, k_or_after, k_or_turns, k_or_most, k_or_within, k_or_and]
end
end Lw
end
section
open PySem L2 Den
namespace Lw
theorem call03 {F : aF} {pen pen' o : O} {os : List O} {x1 x2 : Option O} {rest : Store} (hd : ∃ kvs, pen = .dic kvs) (hF : F [pen, .lst os] = .ret o [pen', .lst os]) :
    aCall 2 [.pl 0, .pl 3] [] F (some pen :: x1 :: x2 :: some (.lst os) :: rest) = .ok o (some pen' :: x1 :: x2 :: some (.lst os) :: rest) := by
  obtain ⟨kvs, rfl⟩ := hd
  simp [aCall, evA, Res.bind, tak, giv, hF]
theorem call03c {F : aF} {pen pen' o : O} {d : D} {os : List O} {x1 x2 : Option O} {rest : Store} (hd : ∃ kvs, pen = .dic kvs) (hF : F [pen, .lst os, .sh d] = .ret o [pen', .lst os, .sh d]) :
    aCall 3 [.pl 0, .pl 3, .ex (aC d)] [] F (some pen :: x1 :: x2 :: some (.lst os) :: rest) = .ok o (some pen' :: x1 :: x2 :: some (.lst os) :: rest) := by
  obtain ⟨kvs, rfl⟩ := hd
  simp [aCall, evA, aC, Res.bind, tak, giv, hF]
/-- tuple([pick(pen, S) for .. in range(n)]) -/
theorem sp_word {B n : Nat} {xs : List Str} {call g : aE} {st : O → Store} {pen0 pen : O} (hp : PenOk B pen) (hB : B + n + 10 < 1099511627775) (hn : 0 < n ∧ n ≤ 100) (hst : ∀ p, (st p)[8]? = some none)
    (hg : g (st pen0) = .ok (.sh (.int (n : Int))) (st pen)) (hc : ∀ (B : Nat) (pen : O) (d : D), PenOk B pen → B < 1099511627775 → ∃ (x : Str) (pen' : O), call ((st pen).set 8 (some (.sh d))) = .ok (.sh (.str x)) ((st pen').set 8 (some (.sh d))) ∧ x ∈ xs ∧ PenOk (B + 1) pen') :
    ∃ (w : List Str) (pen' : O), aFz (aOp [.ex (aLc (aRng1 g) [8] (aN 8) aYes call)] (l1 gTuple)) (st pen0) = .ok (.sh (tS w)) (st pen') ∧ w.length = n ∧ (∀ x ∈ w, x ∈ xs) ∧ PenOk (B + n) pen' := by
  have hlen : (rngD 0 (n : Int).toNat).length = n := by simp [rngD]
  obtain ⟨vs, pen', e, hl, hv, hp'⟩ := aLcP (i := 8) (ge := call) (Pd := fun v => ∃ x ∈ xs, v = .str x) st hst (rng1_ok hg (by omega)) (by rw [hlen]; omega) hp (by rw [hlen]; omega) (fun B pen d h hB => by
    obtain ⟨x, pen', e, hx, hp'⟩ := hc B pen d h hB
    exact ⟨.str x, pen', _, e, rfl, ⟨x, hx, rfl⟩, hp'⟩)
  obtain ⟨w, rfl, hw⟩ := strs_of hv
  rw [hlen] at hl hp'
  exact ⟨w, pen', fz_ok (op1x_ok e (gTuple_lst _)), by rw [← hl, List.length_map], hw, hp'⟩
theorem op_n2 {g : List O → Option O} {d1 : D} {g2 : aE} {ρ ρ2 : Store} {v w : O} (h2 : g2 ρ = .ok v ρ2) (hf : g [.sh d1, v] = some w) : aOp [.ex (aC d1), .ex g2] g ρ = .ok w ρ2 := by
  simp [aOp, evA, aC, h2, Res.bind, rsv, hf]
theorem op_n3 {g : List O → Option O} {d1 : D} {g2 g3 : aE} {ρ ρ1 ρ2 : Store} {v u w : O} (h2 : g2 ρ = .ok v ρ1) (h3 : g3 ρ1 = .ok u ρ2) (hf : g [.sh d1, v, u] = some w) : aOp [.ex (aC d1), .ex g2, .ex g3] g ρ = .ok w ρ2 := by
  simp [aOp, evA, aC, h2, h3, Res.bind, rsv, hf]
theorem op_n4 {g : List O → Option O} {d1 : D} {g2 g3 g4 : aE} {ρ ρ1 ρ2 ρ3 : Store} {v u x w : O} (h2 : g2 ρ = .ok v ρ1) (h3 : g3 ρ1 = .ok u ρ2) (h4 : g4 ρ2 = .ok x ρ3) (hf : g [.sh d1, v, u, x] = some w) : aOp [.ex (aC d1), .ex g2, .ex g3, .ex g4] g ρ = .ok w ρ3 := by
  simp [aOp, evA, aC, h2, h3, h4, Res.bind, rsv, hf]
section
variable {B k n : Nat} {pen : O} {cs rest : List Str} {a : Str} {b : D} (hp : PenOk B pen) (hB : B + 100 < 1099511627775)
include hp hB
theorem sp_never (hne : cs ≠ []) (hl : cs.length ≤ 4) : ∃ (w : List Str) (pen' : O), sRet (aOp [.ex (aC (.str "never")), .ex (aFz (aOp [.ex (aLc (aRng1 (aOp [.ex (aC (.int 1)), .ex (aCall 2 [.pl 0, .ex (aCall 2 [.pl 0, .ex (aOp [.ex (aC (.int 2)), .ex (aC (.int 3)), .ex (aC (.int 5))] gLstS)] [] (d__law_pick))] [] (d__law_draw))] (l2 gAdd))) [8] (aN 8) aYes (aCall 2 [.pl 0, .pl 1] [] (d__law_pick)))] (l1 gTuple)))] Den.gTup) [some pen, some (.sh (tS cs)), some (.sh (.int k)), some (oS rest), some (.sh (.int n)), some (.sh (.str a)), some (.sh b), none, none] =
    .ret (.sh (Pl.never w).d) [some pen', some (.sh (tS cs)), some (.sh (.int k)), some (oS rest), some (.sh (.int n)), some (.sh (.str a)), some (.sh b), none, none] ∧ w ≠ [] ∧ w.length ≤ 5 ∧ (∀ x ∈ w, x ∈ cs) ∧ PenOk (B + 10) pen' := by
  obtain ⟨m, pen1, e1, m0, ⟨x, hx, mx⟩, hp1⟩ := one_draw (xs := [2, 3, 5]) (rest := [some (.sh (tS cs)), some (.sh (.int k)), some (oS rest), some (.sh (.int n)), some (.sh (.str a)), some (.sh b), none, none]) (fun ρ => lit_oI3) hp (by omega) (by simp) (by simp) (by simp)
  have m5 : m ≤ 5 := by
    simp at hx
    omega
  obtain ⟨w, pen', e2, hl2, hw, hp'⟩ := sp_word (xs := cs) (call := aCall 2 [.pl 0, .pl 1] [] d__law_pick) (st := fun p => [some p, some (.sh (tS cs)), some (.sh (.int k)), some (oS rest), some (.sh (.int n)), some (.sh (.str a)), some (.sh b), none, none]) (pen0 := pen) hp1 (by omega) ⟨m0, by omega⟩ (fun _ => rfl) e1 (fun B pen d h hB => by
    obtain ⟨x, pen', e, hx, hp'⟩ := pick_tS h hB hne (by omega)
    exact ⟨x, pen', callpp h.dic (.inl ⟨_, rfl⟩) e, hx, hp'⟩)
  refine ⟨w, pen', ret_ok (op_n2 e2 ?_), (fun z => by simp [z] at hl2; omega), by omega, hw, hp'.mono (by omega)⟩
  simp [Den.gTup, shs, Pl.d]
theorem sp_until (hne : rest ≠ []) (hl : rest.length ≤ 4) : ∃ (w : List Str) (pen' : O), sRet (aOp [.ex (aC (.str "until")), .ex (aVar 5), .ex (aFz (aOp [.ex (aLc (aRng1 (aOp [.ex (aC (.int 1)), .ex (aCall 2 [.pl 0, .ex (aC (.int 3))] [] (d__law_draw))] (l2 gAdd))) [8] (aN 8) aYes (aCall 2 [.pl 0, .pl 3] [] (d__law_pick)))] (l1 gTuple)))] Den.gTup) [some pen, some (.sh (tS cs)), some (.sh (.int k)), some (oS rest), some (.sh (.int n)), some (.sh (.str a)), some (.sh b), none, none] =
    .ret (.sh (Pl.until a w).d) [some pen', some (.sh (tS cs)), some (.sh (.int k)), some (oS rest), some (.sh (.int n)), some (.sh (.str a)), some (.sh b), none, none] ∧ w ≠ [] ∧ w.length ≤ 5 ∧ (∀ x ∈ w, x ∈ rest) ∧ PenOk (B + 10) pen' := by
  obtain ⟨m, pen1, e1, m0, mx, hp1⟩ := one_draw1 (m := 3) (rest := [some (.sh (tS cs)), some (.sh (.int k)), some (oS rest), some (.sh (.int n)), some (.sh (.str a)), some (.sh b), none, none]) hp (by omega) (by omega)
  obtain ⟨w, pen', e2, hl2, hw, hp'⟩ := sp_word (xs := rest) (call := aCall 2 [.pl 0, .pl 3] [] d__law_pick) (st := fun p => [some p, some (.sh (tS cs)), some (.sh (.int k)), some (oS rest), some (.sh (.int n)), some (.sh (.str a)), some (.sh b), none, none]) (pen0 := pen) hp1 (by omega) ⟨m0, by omega⟩ (fun _ => rfl) e1 (fun B pen d h hB => by
    obtain ⟨x, pen', e, hx, hp'⟩ := pick_oS h hB hne (by omega)
    exact ⟨x, pen', call03 h.dic e, hx, hp'⟩)
  refine ⟨w, pen', ret_ok (op_n3 (var_ok rfl) e2 ?_), (fun z => by simp [z] at hl2; omega), by omega, hw, hp'.mono (by omega)⟩
  simp [Den.gTup, shs, Pl.d]
theorem sp_most (hl : rest.length ≤ 4) : ∃ (ys : List Str) (pen' : O), sRet (aOp [.ex (aC (.str "most")), .ex (aVar 4), .ex (aVar 5), .ex (aFz (aOp [.ex (aOp [.ex (aCall 3 [.pl 0, .pl 3, .ex (aC (.int 3))] [] (d__law_some))] (l1 gSortedS))] (l1 gTuple)))] Den.gTup) [some pen, some (.sh (tS cs)), some (.sh (.int k)), some (oS rest), some (.sh (.int n)), some (.sh (.str a)), some (.sh b), none, none] =
    .ret (.sh (Pl.most n a ys).d) [some pen', some (.sh (tS cs)), some (.sh (.int k)), some (oS rest), some (.sh (.int n)), some (.sh (.str a)), some (.sh b), none, none] ∧ ys.length ≤ 3 ∧ (∀ x ∈ ys, x ∈ rest) ∧ PenOk (B + 10) pen' := by
  obtain ⟨es, pen', e, hl2, ⟨r, pm⟩, hp'⟩ := t_some (S := oS rest) (ds := rest.map D.str) (most := 3) hp (by rw [List.length_map]; omega) (.inr ⟨_, rfl⟩) (gList_oS rest) (by rw [List.length_map]; exact gLen_oS rest) (by rw [List.length_map]; omega) (by omega)
  obtain ⟨zs, rfl⟩ := strs_any (vs := es) fun v hv => by
    obtain ⟨x, _, rfl⟩ := List.mem_map.mp (pm.mem_iff.mp (List.mem_append_left r hv))
    exact ⟨x, rfl⟩
  rw [List.length_map] at hl2
  have ps := sortStr_perm zs
  refine ⟨sortStr zs, pen', ?_, by rw [ps.length_eq]; exact hl2, fun x hx => ?_, hp'.mono (by rw [List.length_map]; omega)⟩
  · revert e
    generalize d__law_some = G
    intro e
    refine ret_ok (op_n4 (var_ok rfl) (var_ok rfl) (fz_ok (op1x_ok (op1x_ok (call03c hp.dic e) (sort_strs (by omega))) (gTuple_oS _))) ?_)
    simp [Den.gTup, shs, fz, Pl.d]
  · have hx2 : x ∈ zs := ps.mem_iff.mp hx
    have := pm.mem_iff.mp (List.mem_append_left r (List.mem_map_of_mem (f := D.str) hx2))
    obtain ⟨y, hy, e⟩ := List.mem_map.mp this
    cases e
    exact hy
end
end Lw
end
section
open PySem L2 Den
namespace Lw
theorem sp_row {pen R : O} {k : Nat} {n : Int} {a c : Str} {C : D} (hk : k = 2 ∨ k = 3 ∨ k = 5) :
    sRet (aOp [.ex (aOp [.ex (aC .non), .ex (aC .non), .ex (aFz (aOp [.ex (aC (.str "after")), .ex (aVar 5), .ex (aVar 6)] Den.gTup)), .ex (aFz (aOp [.ex (aC (.str "turns")), .ex (aVar 5), .ex (aVar 6)] Den.gTup)), .ex (aC .non), .ex (aFz (aOp [.ex (aC (.str "within")), .ex (aVar 4), .ex (aVar 5), .ex (aVar 6)] Den.gTup))] gLstS), .pl 2] (l2 gIx)) [some pen, some (.sh C), some (.sh (.int (k : Int))), some R, some (.sh (.int n)), some (.sh (.str a)), some (.sh (.str c)), none, none] =
      .ret (.sh (if k = 2 then .tup [.str "after", .str a, .str c] else if k = 3 then .tup [.str "turns", .str a, .str c] else .tup [.str "within", .int n, .str a, .str c])) [some pen, some (.sh C), some (.sh (.int (k : Int))), some R, some (.sh (.int n)), some (.sh (.str a)), some (.sh (.str c)), none, none] := by
  have hg : ∀ ds : List D, ds.length ≤ 16000000 → Den.gTup (ds.map O.sh) = some (.sh (.tup ds)) := fun ds h => gTup_sh ds h
  have t1 := hg [.str "after", .str a, .str c] (by simp)
  have t2 := hg [.str "turns", .str a, .str c] (by simp)
  have t3 := hg [.str "within", .int n, .str a, .str c] (by simp)
  simp only [List.map_cons, List.map_nil] at t1 t2 t3
  refine ret_ok ?_
  generalize hX : D.tup [.str "after", .str a, .str c] = X at t1 ⊢
  generalize hY : D.tup [.str "turns", .str a, .str c] = Y at t2 ⊢
  generalize hZ : D.tup [.str "within", .int n, .str a, .str c] = Z at t3 ⊢
  have hL : gLstS [.sh .non, .sh .non, .sh X, .sh Y, .sh .non, .sh Z] = some (.lst ([D.non, .non, X, Y, .non, Z].map O.sh)) := by simp [gLstS, shs]
  have hi : gIx (.lst ([D.non, .non, X, Y, .non, Z].map O.sh)) (.sh (.int (k : Int))) = some (.sh (if k = 2 then X else if k = 3 then Y else Z)) := by
    unfold gIx
    simp only [Den.atI_nat]
    rcases hk with rfl | rfl | rfl <;> rfl
  simp only [List.map_cons, List.map_nil] at hi hL
  simp only [aDef, pre, outs, List.map_cons, List.map_nil, List.replicate, List.cons_append, List.nil_append, List.length_cons, List.length_nil, sSeq, sSet, sRet, sRetN, sIf, sDrop, sPar, sAsg, sNext, aB, aC, aVar, aMove, aFz, aTV, aNot, aAnd, aOr, aIfE, aAndV, aOrV, aOp, aSl, aP, evA, rsv, l1, l2, Res.bind, Res.out, List.getElem?_cons_zero, List.getElem?_cons_succ, List.set_cons_zero, List.set_cons_succ, Option.map_some, Option.map_none, fz, shs, if_true, if_false, ite_true, ite_false, Bool.false_eq_true, reduceIte, reduceCtorEq, Nat.reduceAdd, Nat.reduceSub, Nat.reduceLT, Nat.reduceLeDiff, Nat.reduceEqDiff, Bool.not_true, Bool.not_false, Nat.sub_self, Nat.zero_add, and_self, true_and, and_true, Nat.lt_add_one, decide_true, decide_false, decide_eq_true_eq , gSl_tS, gLen_tS, gLen_lS, gTup_str, gIn_tS, gNotIn_tS, gIn_lS, gNotIn_lS, gEq_int, gEq_str, gNe_int, gNe_str, cut_from, cut_to , gTup_str2, gIx_tup, atI_0, atI_1, atI_2, atI_3, gSl_tup, List.mem_cons, List.not_mem_nil, or_false, false_or, true_or, or_true, not_true_eq_false, not_false_eq_true , aCall, tak, giv, List.append_nil, aMeth, k_never_until, k_never_after, k_never_turns, k_never_most, k_never_within, k_never_and, k_never_or, k_until_never, k_until_after, k_until_turns, k_until_most, k_until_within, k_until_and, k_until_or, k_after_never, k_after_until, k_after_turns, k_after_most, k_after_within, k_after_and, k_after_or, k_turns_never, k_turns_until, k_turns_after, k_turns_most, k_turns_within, k_turns_and, k_turns_or, k_most_never, k_most_until, k_most_after, k_most_turns, k_most_within, k_most_and, k_most_or, k_within_never, k_within_until, k_within_after, k_within_turns, k_within_most, k_within_and, k_within_or, k_and_never, k_and_until, k_and_after, k_and_turns, k_and_most, k_and_within, k_and_or, k_or_never, k_or_until, k_or_after, k_or_turns, k_or_most, k_or_within, k_or_and, t1, t2, t3, hL, hi]
section
variable {B : Nat} {pen : O} {cs : List Str} (hp : PenOk B pen) (hB : B + 200 < 1099511627775) (h1 : 1 ≤ cs.length) (h4 : cs.length ≤ 4) (hn : cs.Nodup) (ho : okSs cs)
include hp hB h1 h4 hn ho
theorem t_some_plain : ∃ (p : Pl) (pen' : O), d__law_some_plain [pen, .sh (tS cs)] = .ret (.sh p.d) [pen', .sh (tS cs)] ∧ p.ok ∧ PenOk (B + 20) pen' := by
  obtain ⟨k, pen1, e1, hk, hp1⟩ := sp_way hp (by omega) h1 h4 (r3 := none) (r4 := none) (r5 := none) (r6 := none) (r7 := none) (r8 := none)
  obtain ⟨a, b, pen2, e2, ha, hb, hp2⟩ := sp_two (B := B + 1) hp1 (by omega) h1 h4 hn (M := some (.sh (.int (k : Int)))) (r3 := none) (r4 := none) (r5 := none) (r6 := none) (r7 := none) (r8 := none)
  have e3 := sp_rest (B := B + 1 + 4) hp2 (by omega) h1 h4 (a := a) (M := some (.sh (.int (k : Int)))) (r4 := none) (r6 := some (.sh b)) (r8 := none)
  obtain ⟨n, pen4, e4, n0, _, hp4⟩ := one_draw (xs := [2, 3, 6]) (rest := [some (.sh (tS cs)), some (.sh (.int (k : Int))), some (oS (cs.filter fun y => !decide (y = a))), none, some (.sh (.str a)), some (.sh b), none, none]) (fun ρ => lit_oI3) hp2 (by omega) (by simp) (by simp) (by simp)
  have s4 := set_ok (i := 4) e4 (by simp)
  obtain ⟨rest, hR⟩ : ∃ r, r = cs.filter fun y => !decide (y = a) := ⟨_, rfl⟩
  rw [← hR] at e3 s4
  have hRm : ∀ x ∈ rest, x ∈ cs ∧ x ≠ a := fun x hx => by rw [hR] at hx; simpa using hx
  have hRl : rest.length ≤ 4 := by rw [hR]; exact Nat.le_trans (List.length_filter_le _ _) h4
  have hRn : ∀ c ∈ cs, c ≠ a → rest ≠ [] := fun c hc hca z => by
    have : c ∈ rest := by rw [hR]; simp [hc, hca]
    rw [z] at this
    cases this
  clear hR
  have c0 : ∀ m : Int, aB (aOp [.pl 2, .ex (aC (.int m))] (l2 gEq)) [some pen4, some (.sh (tS cs)), some (.sh (.int (k : Int))), some (oS rest), some (.sh (.int (n : Int))), some (.sh (.str a)), some (.sh b), none, none] = .ok (decide ((k : Int) = m)) [some pen4, some (.sh (tS cs)), some (.sh (.int (k : Int))), some (oS rest), some (.sh (.int (n : Int))), some (.sh (.str a)), some (.sh b), none, none] := fun m => by
    generalize oS rest = R
    generalize tS cs = C
    simp only [aDef, pre, outs, List.map_cons, List.map_nil, List.replicate, List.cons_append, List.nil_append, List.length_cons, List.length_nil, sSeq, sSet, sRet, sRetN, sIf, sDrop, sPar, sAsg, sNext, aB, aC, aVar, aMove, aFz, aTV, aNot, aAnd, aOr, aIfE, aAndV, aOrV, aOp, aSl, aP, evA, rsv, l1, l2, Res.bind, Res.out, List.getElem?_cons_zero, List.getElem?_cons_succ, List.set_cons_zero, List.set_cons_succ, Option.map_some, Option.map_none, fz, shs, if_true, if_false, ite_true, ite_false, Bool.false_eq_true, reduceIte, reduceCtorEq, Nat.reduceAdd, Nat.reduceSub, Nat.reduceLT, Nat.reduceLeDiff, Nat.reduceEqDiff, Bool.not_true, Bool.not_false, Nat.sub_self, Nat.zero_add, and_self, true_and, and_true, Nat.lt_add_one, decide_true, decide_false, decide_eq_true_eq , gSl_tS, gLen_tS, gLen_lS, gTup_str, gIn_tS, gNotIn_tS, gIn_lS, gNotIn_lS, gEq_int, gEq_str, gNe_int, gNe_str, cut_from, cut_to , gTup_str2, gIx_tup, atI_0, atI_1, atI_2, atI_3, gSl_tup, List.mem_cons, List.not_mem_nil, or_false, false_or, true_or, or_true, not_true_eq_false, not_false_eq_true , aCall, tak, giv, List.append_nil, aMeth, k_never_until, k_never_after, k_never_turns, k_never_most, k_never_within, k_never_and, k_never_or, k_until_never, k_until_after, k_until_turns, k_until_most, k_until_within, k_until_and, k_until_or, k_after_never, k_after_until, k_after_turns, k_after_most, k_after_within, k_after_and, k_after_or, k_turns_never, k_turns_until, k_turns_after, k_turns_most, k_turns_within, k_turns_and, k_turns_or, k_most_never, k_most_until, k_most_after, k_most_turns, k_most_within, k_most_and, k_most_or, k_within_never, k_within_until, k_within_after, k_within_turns, k_within_most, k_within_and, k_within_or, k_and_never, k_and_until, k_and_after, k_and_turns, k_and_most, k_and_within, k_and_or, k_or_never, k_or_until, k_or_after, k_or_turns, k_or_most, k_or_within, k_or_and]
  have run : ∀ {G1 G2 G3 G4 body : aS} {o : O} {ρ : Store}, G1 [some pen, some (.sh (tS cs)), none, none, none, none, none, none, none] = .nx [some pen1, some (.sh (tS cs)), some (.sh (.int (k : Int))), none, none, none, none, none, none] →
      G2 [some pen1, some (.sh (tS cs)), some (.sh (.int (k : Int))), none, none, none, none, none, none] = .nx [some pen2, some (.sh (tS cs)), some (.sh (.int (k : Int))), none, none, some (.sh (.str a)), some (.sh b), none, none] →
      G3 [some pen2, some (.sh (tS cs)), some (.sh (.int (k : Int))), none, none, some (.sh (.str a)), some (.sh b), none, none] = .nx [some pen2, some (.sh (tS cs)), some (.sh (.int (k : Int))), some (oS rest), none, some (.sh (.str a)), some (.sh b), none, none] →
      G4 [some pen2, some (.sh (tS cs)), some (.sh (.int (k : Int))), some (oS rest), none, some (.sh (.str a)), some (.sh b), none, none] = .nx [some pen4, some (.sh (tS cs)), some (.sh (.int (k : Int))), some (oS rest), some (.sh (.int (n : Int))), some (.sh (.str a)), some (.sh b), none, none] →
      body [some pen4, some (.sh (tS cs)), some (.sh (.int (k : Int))), some (oS rest), some (.sh (.int (n : Int))), some (.sh (.str a)), some (.sh b), none, none] = .ret o ρ → ∀ {os' : List O}, outs [true, true] [pen, .sh (tS cs)] ρ = some os' → aDef [true, true] 9 (sSeq G1 (sSeq G2 (sSeq G3 (sSeq G4 body)))) [pen, .sh (tS cs)] = .ret o os' := by
    intro G1 G2 G3 G4 body o ρ h1 h2 h3 h4 h5 os' h6
    exact def_ret rfl ((seq_nx h1).trans ((seq_nx h2).trans ((seq_nx h3).trans ((seq_nx h4).trans h5)))) h6
  rcases hk with hk | hk | ⟨hc, hk⟩
  · subst hk
    obtain ⟨w, pen5, e5, w0, wl, wm, hp5⟩ := sp_never (k := 0) (n := n) (cs := cs) (rest := rest) (a := a) (b := b) hp4 (by omega) (by intro z; simp [z] at h1) h4
    exact ⟨.never w, pen5, run e1 e2 e3 s4 (seq_ret (c0 0) e5) rfl, ⟨fun x hx => ho x (wm x hx), w0, by omega⟩, hp5.mono (by omega)⟩
  · subst hk
    obtain ⟨ys, pen5, e5, yl, ym, hp5⟩ := sp_most (k := 4) (n := n) (cs := cs) (rest := rest) (a := a) (b := b) hp4 (by omega) hRl
    refine ⟨.most n a ys, pen5, run e1 e2 e3 s4 ((seq_skip (c0 0)).trans ((seq_skip (c0 1)).trans (seq_ret (c0 4) e5))) rfl, ⟨fun x hx => ?_, fun z => (hRm a (ym a z)).2 rfl, by omega, n0⟩, hp5.mono (by omega)⟩
    rcases List.mem_cons.mp hx with rfl | hx
    · exact ho _ ha
    · exact ho x (hRm x (ym x hx)).1
  · obtain ⟨c, hcm, hca, rfl⟩ := hb hc
    have hac : okSs [a, c] := fun x hx => by
      simp at hx
      rcases hx with rfl | rfl
      · exact ho _ ha
      · exact ho _ hcm
    by_cases hk1 : k = 1
    · subst hk1
      obtain ⟨w, pen5, e5, w0, wl, wm, hp5⟩ := sp_until (k := 1) (n := n) (cs := cs) (rest := rest) (a := a) (b := .str c) hp4 (by omega) (hRn c hcm hca) hRl
      refine ⟨.until a w, pen5, run e1 e2 e3 s4 ((seq_skip (c0 0)).trans (seq_ret (c0 1) e5)) rfl, ⟨fun x hx => ?_, w0, by omega⟩, hp5.mono (by omega)⟩
      rcases List.mem_cons.mp hx with rfl | hx
      · exact ho _ ha
      · exact ho x (hRm x (wm x hx)).1
    · have hk2 : k = 2 ∨ k = 3 ∨ k = 5 := by omega
      have e5 := sp_row (pen := pen4) (R := oS rest) (k := k) (n := (n : Int)) (a := a) (c := c) (C := tS cs) hk2
      have z0 : decide ((k : Int) = 0) = false := decide_eq_false (by omega)
      have z1 : decide ((k : Int) = 1) = false := decide_eq_false (by omega)
      have z4 : decide ((k : Int) = 4) = false := decide_eq_false (by omega)
      have f := fun {o : O} {ρ : Store} {body : aS} (h : body [some pen4, some (.sh (tS cs)), some (.sh (.int (k : Int))), some (oS rest), some (.sh (.int (n : Int))), some (.sh (.str a)), some (.sh (.str c)), none, none] = .ret o ρ) (x y z : aS) => (seq_skip (g := x) (h := sSeq (sIf (aB (aOp [.pl 2, .ex (aC (.int 1))] (l2 gEq))) y sNext) (sSeq (sIf (aB (aOp [.pl 2, .ex (aC (.int 4))] (l2 gEq))) z sNext) body)) ((c0 0).trans (by rw [z0]))).trans ((seq_skip ((c0 1).trans (by rw [z1]))).trans ((seq_skip ((c0 4).trans (by rw [z4]))).trans h))
      rcases hk2 with rfl | rfl | rfl
      · exact ⟨.after a c, pen4, run e1 e2 e3 s4 (f e5 _ _ _) rfl, ⟨hac, fun z => hca z.symm⟩, hp4.mono (by omega)⟩
      · exact ⟨.turns a c, pen4, run e1 e2 e3 s4 (f e5 _ _ _) rfl, ⟨hac, fun z => hca z.symm⟩, hp4.mono (by omega)⟩
      · exact ⟨.within n a c, pen4, run e1 e2 e3 s4 (f e5 _ _ _) rfl, ⟨hac, fun z => hca z.symm, n0⟩, hp4.mono (by omega)⟩
end
end Lw
end
section
open PySem L2 Den
namespace Lw
/-- data that can be compared -/
def Gd (k : Nat) (d : D) : Prop := ∃ p, toPy d = some p ∧ p.canLay0 = true ∧ p.depth ≤ k
theorem Gd.mono {k l : Nat} {d : D} (h : Gd k d) (x : k ≤ l) : Gd l d := by
  obtain ⟨p, a, b, c⟩ := h
  exact ⟨p, a, b, by omega⟩
theorem gd_str {x : Str} (h : okS x) : Gd 0 (.str x) := ⟨.str x, by simp [toPy], by simpa [PyData.canLay0] using h, by simp [PyData.depth]⟩
theorem gd_int (i : Int) : Gd 0 (.int i) := ⟨.int i, by simp [toPy], by simp [PyData.canLay0], by simp [PyData.depth]⟩
theorem gd_non : Gd 0 .non := ⟨.none, by simp [toPy], by simp [PyData.canLay0], by simp [PyData.depth]⟩
theorem gd_bl (b : Bool) : Gd 0 (.bl b) := ⟨.bool b, by simp [toPy], by simp [PyData.canLay0], by simp [PyData.depth]⟩
theorem gd_all {k : Nat} : ∀ {ds : List D}, (∀ d ∈ ds, Gd k d) → ∃ ps, toPyL ds = some ps ∧ PyData.canLayAll0 ps = true ∧ PyData.depthAll ps ≤ k ∧ ps.length = ds.length
  | [], _ => ⟨[], by simp [toPyL], by simp [PyData.canLayAll0], by simp [PyData.depthAll], rfl⟩
  | d :: ds, h => by
    obtain ⟨p, a, b, c⟩ := h d (by simp)
    obtain ⟨ps, x, y, z, l⟩ := gd_all (ds := ds) fun e he => h e (List.mem_cons_of_mem _ he)
    refine ⟨p :: ps, by simp [toPyL, a, x], by simp [PyData.canLayAll0, b, y], ?_, by simp [l]⟩
    simp only [PyData.depthAll]
    exact Nat.max_le.mpr ⟨c, z⟩
theorem gd_tup {k : Nat} {ds : List D} (h : ∀ d ∈ ds, Gd k d) : Gd (k + 1) (.tup ds) := by
  obtain ⟨ps, a, b, c, _⟩ := gd_all h
  exact ⟨.tuple ps, by simp [toPy, a], by simpa [PyData.canLay0] using b, by simp only [PyData.depth]; omega⟩
theorem gd_lst {k : Nat} {ds : List D} (h : ∀ d ∈ ds, Gd k d) : Gd (k + 1) (.lst ds) := by
  obtain ⟨ps, a, b, c, _⟩ := gd_all h
  exact ⟨.list ps, by simp [toPy, a], by simpa [PyData.canLay0] using b, by simp only [PyData.depth]; omega⟩
theorem gd_tS {xs : List Str} (h : okSs xs) : Gd 1 (tS xs) := gd_tup fun d hd => by
  obtain ⟨x, hx, rfl⟩ := List.mem_map.mp hd
  exact gd_str (h x hx)
theorem gNe_nil {k : Nat} {ds : List D} (h : ∀ d ∈ ds, Gd k d) (hk : k ≤ 60) : gNe (.lst (ds.map O.sh)) (.lst []) = some (.sh (.bl (!decide (ds = [])))) := by
  obtain ⟨ps, a, b, c, l⟩ := gd_all h
  have e1 : fz (.lst (ds.map O.sh)) = .lst ds := by rw [fz, fzL_sh]
  have e2 : fz (.lst []) = .lst [] := by rw [fz, fzL]
  have s1 : SeqAt.shaped (.list ps) = true := by
    simp only [SeqAt.shaped, PyData.canLay0, PyData.depth, b, Bool.true_and, decide_eq_true_eq]
    have c' : PyData.depthAll ps + 1 ≤ 64 := by omega
    exact decide_eq_true c'
  have s2 : SeqAt.shaped (.list []) = true := by simp [SeqAt.shaped, PyData.canLay0, PyData.canLayAll0, PyData.depth, PyData.depthAll]
  have q : PyData.eqv (.list ps) (.list []) = decide (ds = []) := by
    simp only [PyData.eqv]
    cases ds with
    | nil =>
      have : ps = [] := List.eq_nil_of_length_eq_zero (by simpa using l)
      subst this
      simp [PyData.eqvAll]
    | cons d ds =>
      cases ps with
      | nil => simp at l
      | cons p ps => simp [PyData.eqvAll]
  unfold gNe
  rw [e1, e2]
  unfold gEqD
  have sc : scalD (.lst ds) (.lst []) = none := rfl
  have t2 : toPy (.lst []) = some (.list []) := by simp [toPy, toPyL]
  have t1 : toPy (.lst ds) = some (.list ps) := by simp [toPy, a]
  rw [sc, t1, t2]
  simp only [s1, s2, q, and_self, if_true, Option.map_some]
theorem okS_lit : okS "never" ∧ okS "until" ∧ okS "after" ∧ okS "turns" ∧ okS "most" ∧ okS "within" ∧ okS "and" ∧ okS "or" := by
  refine ⟨?_, ?_, ?_, ?_, ?_, ?_, ?_, ?_⟩ <;> decide +kernel
theorem gd_pl {p : Pl} (h : p.ok) : Gd 2 p.d := by
  obtain ⟨k1, k2, k3, k4, k5, k6, _, _⟩ := okS_lit
  have up : ∀ {d : D}, Gd 0 d → Gd 1 d := fun h => h.mono (by omega)
  cases p with
  | never r =>
    refine gd_tup (k := 1) fun d hd => ?_
    simp only [List.mem_cons, List.not_mem_nil, or_false] at hd
    rcases hd with rfl | rfl
    · exact up (gd_str k1)
    · exact gd_tS h.1
  | «until» a r =>
    refine gd_tup (k := 1) fun d hd => ?_
    simp only [List.mem_cons, List.not_mem_nil, or_false] at hd
    rcases hd with rfl | rfl | rfl
    · exact up (gd_str k2)
    · exact up (gd_str (h.1 _ (by simp)))
    · exact gd_tS fun x hx => h.1 x (by simp [hx])
  | after a b =>
    refine gd_tup (k := 1) fun d hd => ?_
    simp only [List.mem_cons, List.not_mem_nil, or_false] at hd
    rcases hd with rfl | rfl | rfl
    · exact up (gd_str k3)
    · exact up (gd_str (h.1 _ (by simp)))
    · exact up (gd_str (h.1 _ (by simp)))
  | turns a b =>
    refine gd_tup (k := 1) fun d hd => ?_
    simp only [List.mem_cons, List.not_mem_nil, or_false] at hd
    rcases hd with rfl | rfl | rfl
    · exact up (gd_str k4)
    · exact up (gd_str (h.1 _ (by simp)))
    · exact up (gd_str (h.1 _ (by simp)))
  | most n a cs =>
    refine gd_tup (k := 1) fun d hd => ?_
    simp only [List.mem_cons, List.not_mem_nil, or_false] at hd
    rcases hd with rfl | rfl | rfl | rfl
    · exact up (gd_str k5)
    · exact up (gd_int _)
    · exact up (gd_str (h.1 _ (by simp)))
    · exact gd_tS fun x hx => h.1 x (by simp [hx])
  | within n a b =>
    refine gd_tup (k := 1) fun d hd => ?_
    simp only [List.mem_cons, List.not_mem_nil, or_false] at hd
    rcases hd with rfl | rfl | rfl | rfl
    · exact up (gd_str k6)
    · exact up (gd_int _)
    · exact up (gd_str (h.1 _ (by simp)))
    · exact up (gd_str (h.1 _ (by simp)))
mutual
theorem gd_sen : ∀ (s : Sen), s.ok → Gd (2 * s.dep + 2) s.d
  | .one p, h => by
    rw [Sen.dep, Sen.d]
    exact gd_pl h
  | .join k ss, h => by
    rw [Sen.ok] at h
    rw [Sen.dep, Sen.d]
    obtain ⟨_, _, _, _, _, _, k7, k8⟩ := okS_lit
    have e : 2 * (Sen.depL ss + 1) + 2 = (2 * Sen.depL ss + 2 + 1) + 1 := by omega
    rw [e]
    refine gd_tup fun d hd => ?_
    simp only [List.mem_cons, List.not_mem_nil, or_false] at hd
    rcases hd with rfl | rfl
    · refine (gd_str ?_).mono (Nat.zero_le _)
      cases k
      · exact k8
      · exact k7
    · exact gd_tup (gd_senL ss h.2.2)
theorem gd_senL : ∀ (ss : List Sen), Sen.okL ss → ∀ d ∈ Sen.dL ss, Gd (2 * Sen.depL ss + 2) d
  | [], _, d, hd => by rw [Sen.dL] at hd; cases hd
  | s :: ss, h, d, hd => by
    rw [Sen.okL] at h
    rw [Sen.dL] at hd
    rw [Sen.depL]
    rcases List.mem_cons.mp hd with rfl | hd
    · exact (gd_sen s h.1).mono (by omega)
    · exact (gd_senL ss h.2 d hd).mono (by omega)
end
end Lw
end
section
open PySem L2 Den
namespace Lw
theorem op_e2 {g : List O → Option O} {g1 g2 : aE} {ρ ρ1 ρ2 : Store} {u v w : O} (h1 : g1 ρ = .ok u ρ1) (h2 : g2 ρ1 = .ok v ρ2) (hf : g [u, v] = some w) : aOp [.ex g1, .ex g2] g ρ = .ok w ρ2 := by
  simp [aOp, evA, h1, h2, Res.bind, rsv, hf]
theorem okL_all : ∀ {ss : List Sen}, (∀ s ∈ ss, s.ok) → Sen.okL ss
  | [], _ => by rw [Sen.okL]; trivial
  | s :: ss, h => by
    rw [Sen.okL]
    exact ⟨h s (by simp), okL_all fun x hx => h x (List.mem_cons_of_mem _ hx)⟩
theorem depL_all {m : Nat} : ∀ {ss : List Sen}, (∀ s ∈ ss, s.dep ≤ m) → Sen.depL ss ≤ m
  | [], _ => by rw [Sen.depL]; omega
  | s :: ss, h => by
    rw [Sen.depL]
    exact Nat.max_le.mpr ⟨h s (by simp), depL_all fun x hx => h x (List.mem_cons_of_mem _ hx)⟩
theorem plainsL_app (a b : List Sen) : Sen.plainsL (a ++ b) = Sen.plainsL a ++ Sen.plainsL b := by
  rw [plainsL_map, plainsL_map, plainsL_map, List.flatMap_append]
/-- the end of a sentence of parts -/
theorem sen_end {B : Nat} {pen : O} {C M Dp : D} {ds : List D} {r5 r6 r7 : Option O} (hp : PenOk B pen) (hB : B < 1099511627775) :
    ∃ (k : Bool) (pen' : O), aOp [.ex (aFz (aCall 2 [.pl 0, .ex (aOp [.ex (aC (.str "and")), .ex (aC (.str "or"))] gLstS)] [] (d__law_pick))), .ex (aFz (aOp [.pl 4] (l1 gTuple)))] Den.gTup [some pen, some (.sh C), some (.sh M), some (.sh Dp), some (.lst (ds.map O.sh)), r5, r6, r7] =
      .ok (.sh (.tup [.str (jn k), .tup ds])) [some pen', some (.sh C), some (.sh M), some (.sh Dp), some (.lst (ds.map O.sh)), r5, r6, r7] ∧ PenOk (B + 1) pen' := by
  obtain ⟨x, pen', e, hx, hp'⟩ := pick_oS (xs := ["and", "or"]) hp hB (by simp) (by simp)
  have hk : ∃ k, x = jn k := by
    simp only [List.mem_cons, List.not_mem_nil, or_false] at hx
    rcases hx with rfl | rfl
    · exact ⟨true, rfl⟩
    · exact ⟨false, rfl⟩
  obtain ⟨k, rfl⟩ := hk
  refine ⟨k, pen', ?_, hp'⟩
  revert e
  generalize d__law_pick = G
  intro e
  refine op_e2 (fz_ok (callp (F := G) hp.dic lit_oS2 e)) (fz_ok (op1_ok rfl (gTuple_lst ds))) ?_
  simp [Den.gTup, shs, fz]
theorem callr {F : aF} {g : aE} {pen pen' : O} {C sz dp : D} {x2 x3 x5 : Option O} {os : List O} {o : O} {rest : Store} (hd : ∃ kvs, pen = .dic kvs)
    (hg : g (some pen :: some (.sh C) :: x2 :: x3 :: some (.lst os) :: x5 :: some (.sh sz) :: rest) = .ok (.sh dp) (some pen :: some (.sh C) :: x2 :: x3 :: some (.lst os) :: x5 :: some (.sh sz) :: rest)) (hF : F [pen, .sh C, .sh sz, .sh dp] = .ret o [pen', .sh C, .sh sz, .sh dp]) :
    aCall 4 [.pl 0, .pl 1, .pl 6, .ex g] [] F (some pen :: some (.sh C) :: x2 :: x3 :: some (.lst os) :: x5 :: some (.sh sz) :: rest) = .ok o (some pen' :: some (.sh C) :: x2 :: x3 :: some (.lst os) :: x5 :: some (.sh sz) :: rest) := by
  obtain ⟨kvs, rfl⟩ := hd
  simp [aCall, evA, Res.bind, tak, giv, hg, hF]
theorem w_end {p : aT} {b : aS} {ρ ρ' : Store} (h : p ρ = .ok false ρ') : sWhile p b ρ = .nx ρ' := by
  rw [sWhile_eq, h]
  simp [Res.out]
theorem w_go {p : aT} {b : aS} {ρ ρ1 ρ2 : Store} (h : p ρ = .ok true ρ1) (hb : b ρ1 = .nx ρ2) : sWhile p b ρ = sWhile p b ρ2 := by
  rw [sWhile_eq, h]
  simp only [Res.out, if_true, hb]
def sD (ss : List Sen) : List D := ss.map Sen.d
section
variable {C M : D} {d : Nat}
/-- the size of the next part -/
theorem sen_size {B left : Nat} {pen : O} {ss : List Sen} {r6 : Option O} (hp : PenOk B pen) (hB : B + 10 < 1099511627775) (hl : 0 < left ∧ left ≤ 8) (h5 : ss.length ≤ 5) (h0 : ss = [] → 2 ≤ left) (hok : ∀ s ∈ ss, s.ok ∧ s.dep ≤ d) (hd : d ≤ 7) :
    ∃ (sz : Nat) (pen' : O), sSet 6 (aIfE (aB (aOp [.ex (aOp [.pl 4] (l1 gLen)), .ex (aC (.int 5))] (l2 gEq))) (aVar 5) (aOp [.ex (aC (.int 1)), .ex (aCall 2 [.pl 0, .ex (aIfE (aB (aOp [.pl 4, .ex (aOp [] gLstS)] (l2 gNe))) (aVar 5) (aOp [.pl 5, .ex (aC (.int 1))] (l2 Den.gSub)))] [] (d__law_draw))] (l2 gAdd))) [some pen, some (.sh C), some (.sh M), some (.sh (.int (d : Int))), some (.lst ((sD ss).map O.sh)), some (.sh (.int (left : Int))), r6, none] =
      .nx [some pen', some (.sh C), some (.sh M), some (.sh (.int (d : Int))), some (.lst ((sD ss).map O.sh)), some (.sh (.int (left : Int))), some (.sh (.int (sz : Int))), none] ∧ 1 ≤ sz ∧ sz ≤ left ∧ (ss.length = 5 → sz = left) ∧ PenOk (B + 1) pen' := by
  have hlen : gLen (.lst ((sD ss).map O.sh)) = some (.sh (.int (ss.length : Int))) := by
    show some _ = some _
    simp [sD]
  have c5 : aB (aOp [.ex (aOp [.pl 4] (l1 gLen)), .ex (aC (.int 5))] (l2 gEq)) [some pen, some (.sh C), some (.sh M), some (.sh (.int (d : Int))), some (.lst ((sD ss).map O.sh)), some (.sh (.int (left : Int))), r6, none] = .ok (decide (ss.length = 5)) [some pen, some (.sh C), some (.sh M), some (.sh (.int (d : Int))), some (.lst ((sD ss).map O.sh)), some (.sh (.int (left : Int))), r6, none] := by
    refine b_ok (op_xx (op1_ok rfl hlen) rfl ?_)
    rw [gEq_int]
    congr 4
    simp only [eq_iff_iff]
    omega
  by_cases h : ss.length = 5
  · exact ⟨left, pen, set_ok (i := 6) ((ife_yes (c5.trans (by rw [decide_eq_true h]))).trans (var_ok rfl)) (by simp), by omega, by omega, fun _ => rfl, hp.mono (by omega)⟩
  · have hne : ∀ x ∈ sD ss, Gd 16 x := fun x hx => by
      obtain ⟨s, hs, rfl⟩ := List.mem_map.mp hx
      exact (gd_sen s (hok s hs).1).mono (by have := (hok s hs).2; omega)
    have g := gNe_nil hne (by omega)
    have hb : ∃ b : Nat, aIfE (aB (aOp [.pl 4, .ex (aOp [] gLstS)] (l2 gNe))) (aVar 5) (aOp [.pl 5, .ex (aC (.int 1))] (l2 Den.gSub)) [some pen, some (.sh C), some (.sh M), some (.sh (.int (d : Int))), some (.lst ((sD ss).map O.sh)), some (.sh (.int (left : Int))), r6, none] = .ok (.sh (.int (b : Int))) [some pen, some (.sh C), some (.sh M), some (.sh (.int (d : Int))), some (.lst ((sD ss).map O.sh)), some (.sh (.int (left : Int))), r6, none] ∧ 0 < b ∧ b ≤ left := by
      have ct : aB (aOp [.pl 4, .ex (aOp [] gLstS)] (l2 gNe)) [some pen, some (.sh C), some (.sh M), some (.sh (.int (d : Int))), some (.lst ((sD ss).map O.sh)), some (.sh (.int (left : Int))), r6, none] = .ok (!decide (sD ss = [])) [some pen, some (.sh C), some (.sh M), some (.sh (.int (d : Int))), some (.lst ((sD ss).map O.sh)), some (.sh (.int (left : Int))), r6, none] :=
        b_ok (op_pl_ex rfl rfl rfl g)
      by_cases hs : ss = []
      · have h2 := h0 hs
        have hf : (!decide (sD ss = [])) = false := by rw [hs]; rfl
        rw [hf] at ct
        refine ⟨left - 1, (ife_no ct).trans ?_, by omega, by omega⟩
        refine (op_pl_ex (S0 := .sh (.int (left : Int))) (S := .sh (.int (left : Int))) (a := .sh (.int 1)) (w := .sh (.int ((left : Int) - 1))) rfl rfl rfl rfl).trans ?_
        have : (left : Int) - 1 = ((left - 1 : Nat) : Int) := by omega
        rw [this]
      · refine ⟨left, (ife_yes (ct.trans ?_)).trans (var_ok rfl), by omega, by omega⟩
        have : ¬ sD ss = [] := fun z => hs (List.map_eq_nil_iff.mp z)
        simp [this]
    obtain ⟨b, eb, b0, b1⟩ := hb
    obtain ⟨r, pen', e, r0, r1, hp'⟩ := t_draw (many := (b : Int)) hp (by omega) (by omega)
    obtain ⟨k, rfl⟩ := Int.eq_ofNat_of_zero_le r0
    refine ⟨1 + k, pen', ?_, by omega, by omega, fun z => (h z).elim, hp'⟩
    revert e
    generalize d__law_draw = G
    intro e
    exact set_ok (i := 6) ((ife_no (c5.trans (by rw [decide_eq_false h]))).trans (op_xx rfl (callp (F := G) hp.dic eb e) (w := .sh (.int ((1 + k : Nat) : Int))) (by show some _ = some _; congr 3))) (by simp)
end
end Lw
end
section
open PySem L2 Den
namespace Lw
theorem op2_ok {f : O → O → Option O} {i j : Nat} {ρ : Store} {a b w : O} (h1 : ρ[i]? = some (some a)) (h2 : ρ[j]? = some (some b)) (hf : f a b = some w) : aOp [.pl i, .pl j] (l2 f) ρ = .ok w ρ := by
  simp [aOp, evA, h1, h2, Res.bind, rsv, l2, hf]
theorem sD_app (a b : List Sen) : sD (a ++ b) = sD a ++ sD b := List.map_append
theorem sen_loop {C M : D} {d K : Nat} {rec : aF} (hd : d ≤ 7)
    (hrec : ∀ (B m : Nat) (pen : O), PenOk B pen → 1 ≤ m → m ≤ 8 → B + m * K + 500 < 1099511627775 → ∃ (s : Sen) (pen' : O), rec [pen, .sh C, .sh (.int (m : Int)), .sh (.int ((d : Int) - 1))] = .ret (.sh s.d) [pen', .sh C, .sh (.int (m : Int)), .sh (.int ((d : Int) - 1))] ∧ s.ok ∧ s.dep ≤ d ∧ s.plains.length ≤ m ∧ PenOk (B + m * K) pen') :
    ∀ (fuel left B : Nat) (pen : O) (ss : List Sen) (r6 : Option O), left ≤ fuel → PenOk B pen → left ≤ 8 → (left = 0 ∨ ss.length ≤ 5) → ss.length ≤ 6 → (ss = [] → 2 ≤ left) → (∀ s ∈ ss, s.ok ∧ s.dep ≤ d) → B + left * (K + 1) + 500 < 1099511627775 →
    ∃ (ss' : List Sen) (pen' : O) (r6' : Option O), sWhile (aB (aOp [.pl 5, .ex (aC (.int 0))] (l2 gGt))) (sSeq (sSet 6 (aIfE (aB (aOp [.ex (aOp [.pl 4] (l1 gLen)), .ex (aC (.int 5))] (l2 gEq))) (aVar 5) (aOp [.ex (aC (.int 1)), .ex (aCall 2 [.pl 0, .ex (aIfE (aB (aOp [.pl 4, .ex (aOp [] gLstS)] (l2 gNe))) (aVar 5) (aOp [.pl 5, .ex (aC (.int 1))] (l2 Den.gSub)))] [] (d__law_draw))] (l2 gAdd))))
      (sSeq (sDrop (aMeth "list" 4 [.ex (aFz (aCall 4 [.pl 0, .pl 1, .pl 6, .ex (aOp [.pl 3, .ex (aC (.int 1))] (l2 Den.gSub))] [] rec))] fAppend))
      (sSet 5 (aOp [.pl 5, .pl 6] (l2 Den.gSub))))) [some pen, some (.sh C), some (.sh M), some (.sh (.int (d : Int))), some (.lst ((sD ss).map O.sh)), some (.sh (.int (left : Int))), r6, none] =
      .nx [some pen', some (.sh C), some (.sh M), some (.sh (.int (d : Int))), some (.lst ((sD (ss ++ ss')).map O.sh)), some (.sh (.int 0)), r6', none] ∧ (∀ s ∈ ss', s.ok ∧ s.dep ≤ d) ∧ (Sen.plainsL ss').length ≤ left ∧ (left = 0 ∨ ss' ≠ []) ∧ (ss ++ ss').length ≤ 6 ∧ PenOk (B + left * (K + 1)) pen' := by
  intro fuel
  induction fuel with
  | zero =>
    intro left B pen ss r6 hf hp _ _ h6 _ hok _
    have : left = 0 := by omega
    subst this
    refine ⟨[], pen, r6, ?_, (fun s hs => by cases hs), by rw [Sen.plainsL]; simp, .inl rfl, by rw [List.append_nil]; exact h6, hp.mono (by omega)⟩
    rw [List.append_nil]
    exact w_end (b_ok (op_pl_ex rfl rfl rfl rfl))
  | succ fuel ih =>
    intro left B pen ss r6 hf hp h8 h5 h6 h0 hok hB
    by_cases hl : left = 0
    · subst hl
      refine ⟨[], pen, r6, ?_, (fun s hs => by cases hs), by rw [Sen.plainsL]; simp, .inl rfl, by rw [List.append_nil]; exact h6, hp.mono (by omega)⟩
      rw [List.append_nil]
      exact w_end (b_ok (op_pl_ex rfl rfl rfl rfl))
    · have h5' : ss.length ≤ 5 := by omega
      have hKl : left ≤ left * (K + 1) := Nat.le_mul_of_pos_right left (by omega)
      obtain ⟨sz, pen1, e1, z1, z2, z3, hp1⟩ := sen_size (C := C) (M := M) (r6 := r6) hp (by omega) ⟨by omega, h8⟩ h5' h0 hok hd
      have hm1 : sz * (K + 1) + (left - sz) * (K + 1) = left * (K + 1) := by rw [← Nat.add_mul]; congr 1; omega
      have hm2 : sz * (K + 1) = sz * K + sz := by rw [Nat.mul_add, Nat.mul_one]
      obtain ⟨s, pen2, e2, s1, s2, s3, hp2⟩ := hrec (B + 1) sz pen1 hp1 z1 (by omega) (by omega)
      have hls : (left : Int) - (sz : Int) = ((left - sz : Nat) : Int) := by omega
      obtain ⟨ss', pen', r6', e3, t1, t2, t3, t4, t5⟩ := ih (left - sz) (B + 1 + sz * K) pen2 (ss ++ [s]) (some (.sh (.int (sz : Int)))) (by omega) hp2 (by omega) (by
        rw [List.length_append, List.length_singleton]
        by_cases hq : ss.length = 5
        · have := z3 hq; omega
        · omega) (by rw [List.length_append, List.length_singleton]; omega) (fun z => by simp at z) (fun x hx => by
        rcases List.mem_append.mp hx with hx | hx
        · exact hok x hx
        · rw [List.mem_singleton.mp hx]; exact ⟨s1, s2⟩) (by omega)
      refine ⟨s :: ss', pen', r6', ?_, fun x hx => ?_, by rw [Sen.plainsL, List.length_append]; omega, .inr (by simp), by rw [List.append_assoc] at t4; exact t4, t5.mono (by omega)⟩
      · have ea : (ss ++ [s]) ++ ss' = ss ++ s :: ss' := by simp
        rw [ea] at e3
        refine (w_go (ρ1 := [some pen, some (.sh C), some (.sh M), some (.sh (.int (d : Int))), some (.lst ((sD ss).map O.sh)), some (.sh (.int (left : Int))), r6, none]) (ρ2 := [some pen2, some (.sh C), some (.sh M), some (.sh (.int (d : Int))), some (.lst ((sD (ss ++ [s])).map O.sh)), some (.sh (.int ((left - sz : Nat) : Int))), some (.sh (.int (sz : Int))), none]) (b_ok (op_pl_ex rfl rfl rfl ?_)) ?_).trans e3
        · have hpos : decide ((0 : Int) < (left : Int)) = true := decide_eq_true (by omega)
          show some (O.sh (D.bl _)) = _
          rw [hpos]
        · refine (seq_nx e1).trans ?_
          have hc := callr (F := rec) (g := aOp [.pl 3, .ex (aC (.int 1))] (l2 Den.gSub)) (x2 := some (.sh M)) (x3 := some (.sh (.int (d : Int)))) (os := (sD ss).map O.sh) (x5 := some (.sh (.int (left : Int)))) (rest := [none]) hp1.dic (op_pl_ex (S0 := .sh (.int (d : Int))) (S := .sh (.int (d : Int))) rfl rfl rfl rfl) e2
          have hl0 : (sD ss).length ≤ 1000000 := by rw [sD, List.length_map]; omega
          have m := drop_ok (meth_ok (T := "list") (i := 4) (f := fAppend) (o0 := .lst ((sD ss).map O.sh)) (ox := .lst ((sD ss).map O.sh)) rfl rfl (fz_ok hc) rfl (append_ok hl0))
          refine (seq_nx m).trans ?_
          have e5 : sD ss ++ [s.d] = sD (ss ++ [s]) := by rw [sD_app]; rfl
          show sSet 5 _ [some pen2, some (.sh C), some (.sh M), some (.sh (.int (d : Int))), some (.lst ((sD ss ++ [s.d]).map O.sh)), some (.sh (.int (left : Int))), some (.sh (.int (sz : Int))), none] = _
          rw [e5, ← hls]
          exact set_ok (i := 5) (op2_ok rfl rfl rfl) (by simp)
      · rcases List.mem_cons.mp hx with rfl | hx
        · exact ⟨s1, s2⟩
        · exact t1 x hx
end Lw
end
section
open PySem L2 Den
namespace Lw
theorem pls_of : ∀ {vs : List D}, (∀ v ∈ vs, ∃ p : Pl, p.ok ∧ v = p.d) → ∃ ss : List Sen, vs = sD ss ∧ (∀ s ∈ ss, s.ok ∧ s.dep = 0) ∧ (Sen.plainsL ss).length = ss.length
  | [], _ => ⟨[], rfl, (fun s hs => by cases hs), by rw [Sen.plainsL]; rfl⟩
  | v :: vs, h => by
    obtain ⟨p, hp, rfl⟩ := h v (by simp)
    obtain ⟨ss, rfl, h1, h2⟩ := pls_of (vs := vs) fun u hu => h u (List.mem_cons_of_mem _ hu)
    refine ⟨.one p :: ss, ?_, fun s hs => ?_, ?_⟩
    · show _ = Sen.d (.one p) :: sD ss
      rw [Sen.d]
    · rcases List.mem_cons.mp hs with rfl | hs
      · exact ⟨by rw [Sen.ok]; exact hp, by rw [Sen.dep]⟩
      · exact h1 s hs
    · rw [Sen.plainsL, Sen.plains, List.length_append, h2]
      simp [Nat.add_comm]
theorem join_ok {k : Bool} {ss : List Sen} (h0 : ss ≠ []) (h1 : ∀ s ∈ ss, s.ok) (h2 : ss.length ≤ 6) (h3 : (Sen.plainsL ss).length ≤ 8) : (Sen.join k ss).ok := by
  rw [Sen.ok]
  exact ⟨h0, ⟨by omega, by omega⟩, okL_all h1⟩
theorem join_d (k : Bool) (ss : List Sen) : (Sen.join k ss).d = .tup [.str (jn k), .tup (sD ss)] := by
  rw [Sen.d, dL_map]
  rfl
section
variable {cs : List Str} (h1 : 1 ≤ cs.length) (h4 : cs.length ≤ 4) (hn : cs.Nodup) (ho : okSs cs)
include h1 h4 hn ho
theorem sen_leaf {B m : Nat} {pen : O} {Dp : D} (hp : PenOk B pen) (hB : B + m * 21 + 500 < 1099511627775) (hm : 1 ≤ m ∧ m ≤ 8) :
    ∃ (s : Sen) (ρ : Store) (pen' : O), sSeq (sSet 4 (aLc (aRng1 (aOp [.pl 2, .ex (aC (.int 6))] (l2 gMin2))) [7] (aN 7) aYes (aCall 2 [.pl 0, .pl 1] [] (d__law_some_plain))))
      (sRet (aIfE (aB (aOp [.ex (aOp [.pl 4] (l1 gLen)), .ex (aC (.int 1))] (l2 gEq))) (aOp [.pl 4, .ex (aC (.int 0))] (l2 gIx)) (aOp [.ex (aFz (aCall 2 [.pl 0, .ex (aOp [.ex (aC (.str "and")), .ex (aC (.str "or"))] gLstS)] [] (d__law_pick))), .ex (aFz (aOp [.pl 4] (l1 gTuple)))] Den.gTup))) [some pen, some (.sh (tS cs)), some (.sh (.int (m : Int))), some (.sh Dp), none, none, none, none] =
      .ret (.sh s.d) ρ ∧ outs [true, true, true, true] [pen, .sh (tS cs), .sh (.int (m : Int)), .sh Dp] ρ = some [pen', .sh (tS cs), .sh (.int (m : Int)), .sh Dp] ∧ s.ok ∧ s.dep ≤ 1 ∧ s.plains.length ≤ m ∧ PenOk (B + m * 21) pen' := by
  obtain ⟨q, hq⟩ : ∃ q, q = min m 6 := ⟨_, rfl⟩
  have hmin : gMin2 (.sh (.int (m : Int))) (.sh (.int 6)) = some (.sh (.int (q : Int))) := by
    show some (O.sh (D.int _)) = _
    congr 3
    split <;> omega
  have hlen : (rngD 0 (q : Int).toNat).length = q := by simp [rngD]
  have hPl : ∀ (B : Nat) (pen : O), PenOk B pen → B + 200 < 1099511627775 → ∃ (p : Pl) (pen' : O), d__law_some_plain [pen, .sh (tS cs)] = .ret (.sh p.d) [pen', .sh (tS cs)] ∧ p.ok ∧ PenOk (B + 20) pen' := fun B pen h hB => t_some_plain h hB h1 h4 hn ho
  revert hPl
  generalize d__law_some_plain = F
  intro hPl
  obtain ⟨vs, pen2, e, hl, hv, hp2⟩ := aLcQ (i := 7) (c := 20) (ge := aCall 2 [.pl 0, .pl 1] [] F) (Pd := fun _ v => ∃ p : Pl, p.ok ∧ v = p.d) (fun p => [some p, some (.sh (tS cs)), some (.sh (.int (m : Int))), some (.sh Dp), none, none, none, none]) (fun _ => rfl) (fun _ => True) (ρ0 := [some pen, some (.sh (tS cs)), some (.sh (.int (m : Int))), some (.sh Dp), none, none, none, none]) (B := B) (pen := pen) (rng1_ok (op_pl_ex (i := 2) (g := aC (.int 6)) (S0 := .sh (.int (m : Int))) (S := .sh (.int (m : Int))) (a := .sh (.int 6)) (ρ := [some pen, some (.sh (tS cs)), some (.sh (.int (m : Int))), some (.sh Dp), none, none, none, none]) (ρ' := [some pen, some (.sh (tS cs)), some (.sh (.int (m : Int))), some (.sh Dp), none, none, none, none]) rfl rfl rfl hmin) (by omega)) (by rw [hlen]; omega) (fun _ _ => trivial) hp (by rw [hlen]; omega) (fun B pen d _ h hB => by
    obtain ⟨p, pen', e, po, hp'⟩ := hPl B pen h (by omega)
    exact ⟨_, pen', _, callpp h.dic (.inl ⟨_, rfl⟩) e, rfl, ⟨p, po, rfl⟩, hp'⟩)
  rw [hlen] at hl hp2
  obtain ⟨ss, rfl, hs, hpl⟩ := pls_of (vs := vs) fun v hm => by
    obtain ⟨k, hk⟩ := List.getElem?_of_mem hm
    have hk2 : k < (rngD 0 (q : Int).toNat).length := by rw [hlen, ← hl]; exact (List.getElem?_eq_some_iff.mp hk).1
    exact hv k _ v (List.getElem?_eq_getElem hk2) hk
  have hsl : ss.length = q := by rw [← hl, sD, List.length_map]
  have s4 := set_ok (i := 4) e (by simp)
  have ce : aB (aOp [.ex (aOp [.pl 4] (l1 gLen)), .ex (aC (.int 1))] (l2 gEq)) [some pen2, some (.sh (tS cs)), some (.sh (.int (m : Int))), some (.sh Dp), some (.lst ((sD ss).map O.sh)), none, none, none] = .ok (decide (ss.length = 1)) [some pen2, some (.sh (tS cs)), some (.sh (.int (m : Int))), some (.sh Dp), some (.lst ((sD ss).map O.sh)), none, none, none] := by
    refine b_ok (op_xx (op1_ok rfl (w := .sh (.int (ss.length : Int))) (by show some _ = some _; simp [sD])) rfl ?_)
    rw [gEq_int]
    congr 4
    simp only [eq_iff_iff]
    omega
  by_cases h : ss.length = 1
  · match ss, h, hs, hpl, s4, ce with
    | [s], h, hs, hpl, s4, ce =>
      refine ⟨s, _, pen2, (seq_nx s4).trans (ret_ok ((ife_yes (ce.trans (by rw [decide_eq_true h]))).trans (op_pl_ex rfl rfl rfl rfl))), rfl, (hs s (by simp)).1, by have := (hs s (by simp)).2; omega, ?_, hp2.mono (by omega)⟩
      have : s.plains.length = 1 := by
        rw [Sen.plainsL, Sen.plainsL, List.append_nil] at hpl
        exact hpl
      omega
  · obtain ⟨k, pen', e2, hp'⟩ := sen_end (C := tS cs) (M := .int (m : Int)) (Dp := Dp) (ds := sD ss) (r5 := none) (r6 := none) (r7 := none) hp2 (by omega)
    refine ⟨.join k ss, [some pen', some (.sh (tS cs)), some (.sh (.int (m : Int))), some (.sh Dp), some (.lst ((sD ss).map O.sh)), none, none, none], pen', (seq_nx s4).trans (ret_ok ((ife_no (ce.trans (by rw [decide_eq_false h]))).trans ?_)), rfl, join_ok (fun z => by rw [z] at hsl; simp at hsl; omega) (fun s hs' => (hs s hs').1) (by omega) (by omega), ?_, by rw [Sen.plains]; omega, hp'.mono (by omega)⟩
    · rw [join_d]
      exact e2
    · rw [Sen.dep]
      have := depL_all (m := 0) fun s hs' => Nat.le_of_eq (hs s hs').2
      omega
end
end Lw
end
section
open PySem L2 Den
namespace Lw
theorem or_ok1 {p q : aT} {ρ ρ' : Store} (h : p ρ = .ok true ρ') : aOr p q ρ = .ok true ρ' := by simp [aOr, h, Res.bind]
theorem or_ok2 {p q : aT} {ρ ρ1 ρ2 : Store} {b : Bool} (h : p ρ = .ok false ρ1) (h2 : q ρ1 = .ok b ρ2) : aOr p q ρ = .ok b ρ2 := by simp [aOr, h, h2, Res.bind]
section
variable {cs : List Str} (h1 : 1 ≤ cs.length) (h4 : cs.length ≤ 4) (hn : cs.Nodup) (ho : okSs cs)
include h1 h4 hn ho
theorem t_some_sentence : ∀ (n d m B : Nat) (pen : O), d < n → d ≤ 7 → 1 ≤ m → m ≤ 8 → PenOk B pen → B + m * (21 + 2 * d) + 500 < 1099511627775 →
    ∃ (s : Sen) (pen' : O), d__law_some_sentence n [pen, .sh (tS cs), .sh (.int (m : Int)), .sh (.int (d : Int))] = .ret (.sh s.d) [pen', .sh (tS cs), .sh (.int (m : Int)), .sh (.int (d : Int))] ∧ s.ok ∧ s.dep ≤ d + 1 ∧ s.plains.length ≤ m ∧ PenOk (B + m * (21 + 2 * d)) pen' := by
  intro n
  induction n with
  | zero => intro d m B pen h; omega
  | succ n ih =>
    intro d m B pen hd h7 m1 m8 hp hB
    have hmm : m * 21 ≤ m * (21 + 2 * d) := Nat.mul_le_mul_left m (by omega)
    have cm : aB (aOp [.pl 2, .ex (aC (.int 1))] (l2 gEq)) [some pen, some (.sh (tS cs)), some (.sh (.int (m : Int))), some (.sh (.int (d : Int))), none, none, none, none] = .ok (decide ((m : Int) = 1)) [some pen, some (.sh (tS cs)), some (.sh (.int (m : Int))), some (.sh (.int (d : Int))), none, none, none, none] :=
      b_ok (op_pl_ex (i := 2) (g := aC (.int 1)) (S0 := .sh (.int (m : Int))) (S := .sh (.int (m : Int))) (a := .sh (.int 1)) rfl rfl rfl (gEq_int _ _))
    have cd : aB (aOp [.pl 3, .ex (aC (.int 0))] (l2 gEq)) [some pen, some (.sh (tS cs)), some (.sh (.int (m : Int))), some (.sh (.int (d : Int))), none, none, none, none] = .ok (decide ((d : Int) = 0)) [some pen, some (.sh (tS cs)), some (.sh (.int (m : Int))), some (.sh (.int (d : Int))), none, none, none, none] :=
      b_ok (op_pl_ex (i := 3) (g := aC (.int 0)) (S0 := .sh (.int (d : Int))) (S := .sh (.int (d : Int))) (a := .sh (.int 0)) rfl rfl rfl (gEq_int _ _))
    show ∃ (s : Sen) (pen' : O), b__law_some_sentence (d__law_some_sentence n) _ = _ ∧ _
    by_cases h : m = 1 ∨ d = 0
    · obtain ⟨s, ρ, pen', e, o1, so, sd, sp, hp'⟩ := sen_leaf (Dp := .int (d : Int)) h1 h4 hn ho hp (by omega) ⟨m1, m8⟩
      refine ⟨s, pen', ?_, so, by omega, sp, hp'.mono (by omega)⟩
      have c : aOr (aB (aOp [.pl 2, .ex (aC (.int 1))] (l2 gEq))) (aB (aOp [.pl 3, .ex (aC (.int 0))] (l2 gEq))) [some pen, some (.sh (tS cs)), some (.sh (.int (m : Int))), some (.sh (.int (d : Int))), none, none, none, none] = .ok true [some pen, some (.sh (tS cs)), some (.sh (.int (m : Int))), some (.sh (.int (d : Int))), none, none, none, none] := by
        by_cases hm : m = 1
        · refine or_ok1 (cm.trans ?_)
          rw [decide_eq_true (by omega)]
        · refine or_ok2 (b := true) (cm.trans ?_) (cd.trans ?_)
          · rw [decide_eq_false (by omega)]
          · rw [decide_eq_true (by omega)]
      unfold b__law_some_sentence
      generalize d__law_some_sentence n = rec
      clear ih
      exact def_ret rfl (seq_ret c e) o1
    · have hm : ¬ m = 1 := fun z => h (.inl z)
      have hd0 : ¬ d = 0 := fun z => h (.inr z)
      have c : aOr (aB (aOp [.pl 2, .ex (aC (.int 1))] (l2 gEq))) (aB (aOp [.pl 3, .ex (aC (.int 0))] (l2 gEq))) [some pen, some (.sh (tS cs)), some (.sh (.int (m : Int))), some (.sh (.int (d : Int))), none, none, none, none] = .ok false [some pen, some (.sh (tS cs)), some (.sh (.int (m : Int))), some (.sh (.int (d : Int))), none, none, none, none] := by
        refine or_ok2 (cm.trans ?_) (cd.trans ?_)
        · rw [decide_eq_false (by omega)]
        · rw [decide_eq_false (by omega)]
      obtain ⟨d', rfl⟩ : ∃ d', d = d' + 1 := ⟨d - 1, by omega⟩
      have ed : ((d' + 1 : Nat) : Int) - 1 = (d' : Int) := by omega
      have hK : m * (21 + 2 * (d' + 1)) = m * (21 + 2 * d' + 1) + m := by
        have : 21 + 2 * (d' + 1) = (21 + 2 * d' + 1) + 1 := by omega
        rw [this, Nat.mul_add, Nat.mul_one]
      unfold b__law_some_sentence
      revert ih
      generalize d__law_some_sentence n = rec
      intro ih
      obtain ⟨ss, pen1, r6', e1, t1, t2, t3, t4, hp1⟩ := sen_loop (C := tS cs) (M := .int (m : Int)) (d := d' + 1) (K := 21 + 2 * d') (rec := rec) h7 (fun B k pen hp k1 k8 hB => by
        obtain ⟨s, pen', e, so, sd, sp, hp'⟩ := ih d' k B pen (by omega) (by omega) k1 k8 hp hB
        exact ⟨s, pen', by rw [ed]; exact e, so, sd, sp, hp'⟩) m m B pen [] none (Nat.le_refl _) hp m8 (.inr (by simp)) (by simp) (fun _ => by omega) (fun s hs => by cases hs) (by omega)
      rw [List.nil_append] at e1 t4
      obtain ⟨k, pen', e2, hp'⟩ := sen_end (C := tS cs) (M := .int (m : Int)) (Dp := .int ((d' + 1 : Nat) : Int)) (ds := sD ss) (r5 := some (.sh (.int 0))) (r6 := r6') (r7 := none) hp1 (by omega)
      have hs0 : ss ≠ [] := t3.resolve_left (by omega)
      refine ⟨.join k ss, pen', ?_, join_ok hs0 (fun s hs => (t1 s hs).1) t4 (by omega), ?_, by rw [Sen.plains]; exact t2, hp'.mono (by omega)⟩
      · rw [join_d]
        have p0 := par_ok (i := 4) (j := 5) (g := aOp [] gLstS) (h := aVar 2) (o := .lst []) (u := .sh (.int (m : Int))) (ρ := [some pen, some (.sh (tS cs)), some (.sh (.int (m : Int))), some (.sh (.int ((d' + 1 : Nat) : Int))), none, none, none, none]) (ρ1 := [some pen, some (.sh (tS cs)), some (.sh (.int (m : Int))), some (.sh (.int ((d' + 1 : Nat) : Int))), none, none, none, none]) rfl (var_ok (i := 2) rfl) (by simp) (by simp)
        exact def_ret rfl ((seq_skip c).trans ((seq_nx p0).trans ((seq_nx e1).trans (ret_ok e2)))) rfl
      · rw [Sen.dep]
        have := depL_all (m := d' + 1) fun s hs => (t1 s hs).2
        omega
end
end Lw
end
section
open PySem L2 Den
namespace Lw
mutual
theorem sat_in {g : Pl → Nat} {R : Nat → Prop} (h : ∀ p : Pl, p.ok → R (g p)) : ∀ s : Sen, s.ok → R (s.sat g)
  | .one p, hs => by rw [Sen.sat]; rw [Sen.ok] at hs; exact h p hs
  | .join true ss, hs => by
    rw [Sen.ok] at hs
    rw [Sen.sat]
    exact satL_in h ss hs.2.2 _ (minL_mem (fun z => hs.1 (by rw [satL_map] at z; exact List.map_eq_nil_iff.mp z)))
  | .join false ss, hs => by
    rw [Sen.ok] at hs
    rw [Sen.sat]
    exact satL_in h ss hs.2.2 _ (maxL_mem (fun z => hs.1 (by rw [satL_map] at z; exact List.map_eq_nil_iff.mp z)))
theorem satL_in {g : Pl → Nat} {R : Nat → Prop} (h : ∀ p : Pl, p.ok → R (g p)) : ∀ ss : List Sen, Sen.okL ss → ∀ n ∈ Sen.satL g ss, R n
  | [], _, n, hn => by rw [Sen.satL] at hn; cases hn
  | s :: ss, hs, n, hn => by
    rw [Sen.okL] at hs
    rw [Sen.satL] at hn
    rcases List.mem_cons.mp hn with rfl | hn
    · exact sat_in h s hs.1
    · exact satL_in h ss hs.2 n hn
end
theorem sat_big {s : Sen} (hs : s.ok) (w : List Str) : s.sat (fun p => pa p w) ≤ w.length ∨ s.sat (fun p => pa p w) = 1000000 :=
  sat_in (g := fun p => pa p w) (R := fun n => n ≤ w.length ∨ n = 1000000) (fun p _ => pa_pos.2) s hs
theorem sat_brk {s : Sen} (hs : s.ok) {w : List Str} (hl : w.length ≤ 100000) {k : Nat} (hk : k ≤ w.length) : (s.brk fun p => decide (Mn p (w.take k) = endm p)) = decide (s.sat (fun p => pa p w) ≤ k) := by
  refine brk_sat (fun p hp => ?_) s hs
  rw [decide_eq_decide]
  exact (pa_le hp hk hl).symm
theorem sat_more {s : Sen} (hs : s.ok) {w r : List Str} (hl : (w ++ r).length ≤ 100000) (h : s.sat (fun p => pa p w) ≤ w.length) : s.sat (fun p => pa p (w ++ r)) = s.sat (fun p => pa p w) := by
  have hl1 : w.length ≤ 100000 := by rw [List.length_append] at hl; omega
  have key : ∀ k, k ≤ w.length → (s.sat (fun p => pa p (w ++ r)) ≤ k ↔ s.sat (fun p => pa p w) ≤ k) := fun k hk => by
    have e1 := sat_brk hs hl1 hk
    have e2 := sat_brk hs hl (k := k) (by rw [List.length_append]; omega)
    rw [List.take_append_of_le_length hk, e1] at e2
    exact (decide_eq_decide.mp e2).symm
  obtain ⟨n, hn⟩ : ∃ n, n = s.sat (fun p => pa p w) := ⟨_, rfl⟩
  obtain ⟨m, hm⟩ : ∃ m, m = s.sat (fun p => pa p (w ++ r)) := ⟨_, rfl⟩
  rw [← hn] at h key ⊢
  rw [← hm] at key ⊢
  have h1 := (key n h).mpr (Nat.le_refl _)
  have h2 := (key m (by omega)).mp (Nat.le_refl _)
  omega
theorem callsh2 {F : aF} {i j : Nat} {a b : D} {o : O} {ρ : Store} (h1 : ρ[i]? = some (some (.sh a))) (h2 : ρ[j]? = some (some (.sh b))) (h : F [.sh a, .sh b] = .ret o [.sh a, .sh b]) : aCall 2 [.pl i, .pl j] [] F ρ = .ok o ρ := by
  simp [aCall, evA, h1, h2, Res.bind, tak, giv, h]
theorem callx {F : aF} {g : aE} {i : Nat} {a : D} {W W' o : O} {ρ : Store} (h1 : ρ[i]? = some (some (.sh a))) (h2 : g ρ = .ok W ρ) (h : F [.sh a, W] = .ret o [.sh a, W']) : aCall 2 [.pl i, .ex g] [] F ρ = .ok o ρ := by
  simp [aCall, evA, h1, h2, Res.bind, tak, giv, h]
theorem callxx {F : aF} {g g2 : aE} {V W V' W' o : O} {ρ : Store} (h1 : g ρ = .ok V ρ) (h2 : g2 ρ = .ok W ρ) (h : F [V, W] = .ret o [V', W']) : aCall 2 [.ex g, .ex g2] [] F ρ = .ok o ρ := by
  simp [aCall, evA, h1, h2, Res.bind, tak, giv, h]
theorem not_ok {p : aT} {ρ ρ' : Store} {b : Bool} (h : p ρ = .ok b ρ') : aNot p ρ = .ok (!b) ρ' := by simp [aNot, h, Res.bind]
theorem and_no {p q : aT} {ρ ρ' : Store} (h : p ρ = .ok false ρ') : aAnd p q ρ = .ok false ρ' := by simp [aAnd, h, Res.bind]
theorem and_on {p q : aT} {ρ ρ1 ρ2 : Store} {b : Bool} (h : p ρ = .ok true ρ1) (h2 : q ρ1 = .ok b ρ2) : aAnd p q ρ = .ok b ρ2 := by simp [aAnd, h, h2, Res.bind]
theorem op_ex_pl {f : O → O → Option O} {g : aE} {i : Nat} {ρ ρ' : Store} {S a w : O} (hg : g ρ = .ok a ρ') (h1 : ρ'[i]? = some (some S)) (hf : f a S = some w) : aOp [.ex g, .pl i] (l2 f) ρ = .ok w ρ' := by
  simp [aOp, evA, hg, Res.bind, rsv, h1, l2, hf]
def dueD (n : Nat) (w : List Str) : D := if n ≤ w.length then .int (n : Int) else .non
theorem due_sh (n : Nat) (w : List Str) : O.sh (dueD n w) = if n ≤ w.length then .sh (.int (n : Int)) else .sh .non := by
  unfold dueD
  split <;> rfl
theorem due_some {n : Nat} {w : List Str} : Den.isNon (dueD n w) = !decide (n ≤ w.length) := by
  unfold dueD
  split
  · rename_i h; simp [Den.isNon, h]
  · rename_i h; simp [Den.isNon, h]
theorem due_same (m n : Nat) (w : List Str) : d__law_same (m + 1) [.sh (dueD n w), .sh (dueD n w)] = .ret (.sh (.bl true)) [.sh (dueD n w), .sh (dueD n w)] := by
  unfold dueD
  split
  · exact same_int m _
  · exact same_non m
theorem due_ne (n : Nat) (w : List Str) : gNe (.sh (dueD n w)) (.sh (dueD n w)) = some (.sh (.bl false)) := by
  unfold dueD
  split
  · rw [gNe_int]; simp
  · simp [gNe, fz, gEqD, scalD]
end Lw
end
section
open PySem L2 Den
namespace Lw
def zzS : Str := "zz"
theorem gList_tS (w : List Str) : gList (.sh (tS w)) = some (oS w) := rfl
section
variable {s : Sen} (hs : s.ok) (hd : s.dep < 8) {w cs : List Str} (hw : okSs w) (hl : w.length ≤ 100) (hc : okSs cs) (hcl : cs.length ≤ 4)
include hs hd hw hl hc hcl
theorem word_turn {A0 P1 A2 A6 a8 a9 : Option O} : ∃ a8' a9' : Option O, (sSeq (sSet 8 (aCall 2 [.pl 5, .pl 7] [] (d__law_sentence_at 8)))
    (sSeq (sSet 9 (aIfE (aB (aOp [.pl 8, .ex (aOp [.ex (aC (.int 10)), .ex (aC (.int 6))] (l2 gPow))] (l2 gLt))) (aVar 8) (aC .non)))
    (sSeq (sIf (aNot (aB (aCall 2 [.ex (aOp [.ex (aFz (aCall 2 [.pl 5, .pl 7] [] (d_broken_at))), .ex (aFz (aCall 2 [.pl 5, .pl 7] [] (d_is_broken)))] Den.gTup), .ex (aOp [.ex (aVar 9), .ex (aFz (aOp [.pl 9] (l1 gNotN)))] Den.gTup)] [] (d__law_same 8)))) (sRet (aC (.bl false))) sNext)
    (sIf (aOr (aB (aOp [.ex (aCall 2 [.pl 5, .ex (aOp [.pl 7] (l1 gList))] [] (d_broken_at)), .pl 9] (l2 gNe))) (aAnd (aB (aOp [.pl 9] (l1 gNotN))) (aB (aOp [.ex (aCall 2 [.pl 5, .ex (aOp [.ex (aOp [.pl 7, .ex (aOp [.ex (aC (.str "zz"))] Den.gTup)] (l2 gAdd)), .pl 4] (l2 gAdd))] [] (d_broken_at)), .pl 9] (l2 gNe))))) (sRet (aC (.bl false))) sNext)))) [A0, P1, A2, none, some (.sh (tS cs)), some (.sh s.d), A6, some (.sh (tS w)), a8, a9, none] =
    .nx [A0, P1, A2, none, some (.sh (tS cs)), some (.sh s.d), A6, some (.sh (tS w)), a8', a9', none] := by
  have hll : w.length ≤ 100000 := by omega
  have hww : okSs (w ++ zzS :: cs) := fun x hx => by
    rcases List.mem_append.mp hx with hx | hx
    · exact hw x hx
    · rcases List.mem_cons.mp hx with rfl | hx
      · decide +kernel
      · exact hc x hx
  have hwl : (w ++ zzS :: cs).length ≤ 100000 := by simp; omega
  have e1 := t_sentence_at (w := w) (f := fun p => pa p w) (fun p hp => t_plain_at hp hw hll) 8 s hs hd
  have e2 := t_broken_at hs hd hw hll (W := .sh (tS w)) (gLen_tS w) (fun k x hx => gIx_tS hx)
  have e3 := t_broken_at hs hd hw hll (W := oS w) (gLen_oS w) (fun k x hx => gIx_oS hx)
  have e4 := t_broken_at hs hd hww hwl (W := .sh (tS (w ++ zzS :: cs))) (gLen_tS _) (fun k x hx => gIx_tS hx)
  have e5 := t_is_broken hs hd hw hll
  have hbig := sat_big hs w
  have hmore := sat_more hs (w := w) (r := zzS :: cs) hwl
  generalize s.sat (fun p => pa p (w ++ zzS :: cs)) = m at e4 hmore
  generalize s.sat (fun p => pa p w) = n at e1 e2 e3 e5 hbig hmore
  rw [← due_sh] at e2 e3 e4
  obtain ⟨T, hT⟩ : ∃ T, T = D.tup [dueD n w, .bl (decide (n ≤ w.length))] := ⟨_, rfl⟩
  have e6 := same_pair 6 (v := dueD n w) (b := decide (n ≤ w.length)) (due_same 6 n w)
  rw [← hT] at e6
  generalize d__law_sentence_at 8 = F1 at e1 ⊢
  generalize d_broken_at = F2 at e2 e3 e4 ⊢
  generalize d_is_broken = F3 at e5 ⊢
  generalize d__law_same 8 = F4 at e6 ⊢
  refine ⟨some (.sh (.int (n : Int))), some (.sh (dueD n w)), ?_⟩
  have s1 := set_ok (i := 8) (ρ := [A0, P1, A2, none, some (.sh (tS cs)), some (.sh s.d), A6, some (.sh (tS w)), a8, a9, none]) (callsh2 (F := F1) (i := 5) (j := 7) rfl rfl e1) (by simp)
  have s2 : sSet 9 (aIfE (aB (aOp [.pl 8, .ex (aOp [.ex (aC (.int 10)), .ex (aC (.int 6))] (l2 gPow))] (l2 gLt))) (aVar 8) (aC .non)) [A0, P1, A2, none, some (.sh (tS cs)), some (.sh s.d), A6, some (.sh (tS w)), some (.sh (.int (n : Int))), a9, none] = .nx [A0, P1, A2, none, some (.sh (tS cs)), some (.sh s.d), A6, some (.sh (tS w)), some (.sh (.int (n : Int))), some (.sh (dueD n w)), none] := by
    rw [aOp_cc g106]
    have hq : ((n : Int) < 1000000) ↔ n ≤ w.length := by omega
    generalize (1000000 : Int) = big at hq
    have hc : aB (aOp [.pl 8, .ex (fun ρ => Res.ok (O.sh (D.int big)) ρ)] (l2 gLt)) [A0, P1, A2, none, some (.sh (tS cs)), some (.sh s.d), A6, some (.sh (tS w)), some (.sh (.int (n : Int))), a9, none] = .ok (decide ((n : Int) < big)) [A0, P1, A2, none, some (.sh (tS cs)), some (.sh s.d), A6, some (.sh (tS w)), some (.sh (.int (n : Int))), a9, none] :=
      b_ok (op_pl_ex (i := 8) (S0 := .sh (.int (n : Int))) (S := .sh (.int (n : Int))) rfl rfl rfl rfl)
    by_cases h : n ≤ w.length
    · rw [decide_eq_true (hq.mpr h)] at hc
      have ed : dueD n w = .int (n : Int) := if_pos h
      rw [ed]
      exact set_ok (i := 9) ((ife_yes hc).trans (var_ok rfl)) (by simp)
    · rw [decide_eq_false (fun z => h (hq.mp z))] at hc
      have ed : dueD n w = .non := if_neg h
      rw [ed]
      exact set_ok (i := 9) (o := .sh .non) ((ife_no hc).trans rfl) (by simp)
  have hnn : gNotN (.sh (dueD n w)) = some (.sh (.bl (decide (n ≤ w.length)))) := by
    show some (O.sh (D.bl (!Den.isNon (fz (.sh (dueD n w)))))) = _
    rw [fz, due_some, Bool.not_not]
  obtain ⟨V, hV⟩ : ∃ V, V = dueD n w := ⟨_, rfl⟩
  have hne : gNe (.sh V) (.sh V) = some (.sh (.bl false)) := by rw [hV]; exact due_ne n w
  have hm : n ≤ w.length → dueD m (w ++ zzS :: cs) = V := fun h => by
    rw [hmore h, hV]
    unfold dueD
    rw [if_pos h, if_pos (by rw [List.length_append]; omega)]
  rw [← hV] at e2 e3 hnn s2 hT ⊢
  have htup : ∀ b : Bool, Den.gTup [.sh V, .sh (.bl b)] = some (.sh (.tup [V, .bl b])) := fun b => gTup_sh [V, .bl b] (by simp)
  obtain ⟨q, hqd⟩ : ∃ q, q = decide (n ≤ w.length) := ⟨_, rfl⟩
  rw [← hqd] at e5 hnn hT
  obtain ⟨R, hR⟩ : ∃ R : Store, R = [A0, P1, A2, none, some (.sh (tS cs)), some (.sh s.d), A6, some (.sh (tS w)), some (.sh (.int (n : Int))), some (.sh V), none] := ⟨_, rfl⟩
  have r4 : R[4]? = some (some (.sh (tS cs))) := by rw [hR]; rfl
  have r5 : R[5]? = some (some (.sh s.d)) := by rw [hR]; rfl
  have r7 : R[7]? = some (some (.sh (tS w))) := by rw [hR]; rfl
  have r9 : R[9]? = some (some (.sh V)) := by rw [hR]; rfl
  rw [← hR] at s2 ⊢
  refine (seq_nx s1).trans ((seq_nx s2).trans ((seq_skip (ρ' := R) ?_).trans ?_))
  · refine not_ok (b := true) (b_ok (callxx (V := .sh T) (W := .sh T) (op_e2 (fz_ok (callsh2 (F := F2) (i := 5) (j := 7) r5 r7 e2)) (fz_ok (callsh2 (F := F3) (i := 5) (j := 7) r5 r7 e5)) ?_) (op_e2 (var_ok r9) (fz_ok (op1_ok r9 hnn)) ?_) e6))
    · rw [fz, fz, htup, hT]
    · rw [fz, htup, hT]
  · refine (if_no (ρ' := R) (or_ok2 (b := false) (b_ok (op_ex_pl (callx (F := F2) (i := 5) r5 (op1_ok r7 (gList_tS w)) e3) r9 hne)) ?_)).trans rfl
    by_cases hq : q = true
    · rw [hq] at hnn hqd
      have e4' := e4
      rw [hm (of_decide_eq_true hqd.symm)] at e4'
      have ga : gAdd (.sh (tS (w ++ [zzS]))) (.sh (tS cs)) = some (.sh (tS (w ++ zzS :: cs))) := by
        rw [gAdd_tS (by simp; omega), List.append_assoc]
        rfl
      have gz : ∀ ρ : Store, aOp [.ex (aC (.str "zz"))] Den.gTup ρ = .ok (.sh (tS [zzS])) ρ := fun ρ => by simp only [aDef, pre, outs, List.map_cons, List.map_nil, List.replicate, List.cons_append, List.nil_append, List.length_cons, List.length_nil, sSeq, sSet, sRet, sRetN, sIf, sDrop, sPar, sAsg, sNext, aB, aC, aVar, aMove, aFz, aTV, aNot, aAnd, aOr, aIfE, aAndV, aOrV, aOp, aSl, aP, evA, rsv, l1, l2, Res.bind, Res.out, List.getElem?_cons_zero, List.getElem?_cons_succ, List.set_cons_zero, List.set_cons_succ, Option.map_some, Option.map_none, fz, shs, if_true, if_false, ite_true, ite_false, Bool.false_eq_true, reduceIte, reduceCtorEq, Nat.reduceAdd, Nat.reduceSub, Nat.reduceLT, Nat.reduceLeDiff, Nat.reduceEqDiff, Bool.not_true, Bool.not_false, Nat.sub_self, Nat.zero_add, and_self, true_and, and_true, Nat.lt_add_one, decide_true, decide_false, decide_eq_true_eq , gSl_tS, gLen_tS, gLen_lS, gTup_str, gIn_tS, gNotIn_tS, gIn_lS, gNotIn_lS, gEq_int, gEq_str, gNe_int, gNe_str, cut_from, cut_to , gTup_str2, gIx_tup, atI_0, atI_1, atI_2, atI_3, gSl_tup, List.mem_cons, List.not_mem_nil, or_false, false_or, true_or, or_true, not_true_eq_false, not_false_eq_true , aCall, tak, giv, List.append_nil, aMeth, k_never_until, k_never_after, k_never_turns, k_never_most, k_never_within, k_never_and, k_never_or, k_until_never, k_until_after, k_until_turns, k_until_most, k_until_within, k_until_and, k_until_or, k_after_never, k_after_until, k_after_turns, k_after_most, k_after_within, k_after_and, k_after_or, k_turns_never, k_turns_until, k_turns_after, k_turns_most, k_turns_within, k_turns_and, k_turns_or, k_most_never, k_most_until, k_most_after, k_most_turns, k_most_within, k_most_and, k_most_or, k_within_never, k_within_until, k_within_after, k_within_turns, k_within_most, k_within_and, k_within_or, k_and_never, k_and_until, k_and_after, k_and_turns, k_and_most, k_and_within, k_and_or, k_or_never, k_or_until, k_or_after, k_or_turns, k_or_most, k_or_within, k_or_and, zzS]
      exact and_on (b_ok (op1_ok r9 hnn)) (b_ok (op_ex_pl (callx (F := F2) (i := 5) r5 (op_ex_pl (op_pl_ex r7 (gz R) r7 (gAdd_tS (by simp; omega))) r4 ga) e4') r9 hne))
    · have hq2 : q = false := by simpa using hq
      rw [hq2] at hnn
      exact and_no (b_ok (op1_ok r9 hnn))
end
end Lw
end
section
open PySem L2 Den
namespace Lw
theorem callq1 {F : aF} {g : aE} {x0 : Option O} {pen pen2 pen' a a' o : O} {rest rest2 : Store} (hd : ∃ kvs, pen2 = .dic kvs) (hg : g (x0 :: some pen :: rest) = .ok a (x0 :: some pen2 :: rest2)) (hF : F [pen2, a] = .ret o [pen', a']) :
    aCall 2 [.pl 1, .ex g] [] F (x0 :: some pen :: rest) = .ok o (x0 :: some pen' :: rest2) := by
  obtain ⟨kvs, rfl⟩ := hd
  simp [aCall, evA, Res.bind, tak, giv, hg, hF]
theorem call4 {F : aF} {g3 g4 : aE} {x0 x2 x3 : Option O} {pen pen2 pen3 pen' o : O} {C m d : D} {rest : Store} (hd : ∃ kvs, pen3 = .dic kvs)
    (h3 : g3 (x0 :: some pen :: x2 :: x3 :: some (.sh C) :: rest) = .ok (.sh m) (x0 :: some pen2 :: x2 :: x3 :: some (.sh C) :: rest)) (h4 : g4 (x0 :: some pen2 :: x2 :: x3 :: some (.sh C) :: rest) = .ok (.sh d) (x0 :: some pen3 :: x2 :: x3 :: some (.sh C) :: rest))
    (hF : F [pen3, .sh C, .sh m, .sh d] = .ret o [pen', .sh C, .sh m, .sh d]) :
    aCall 4 [.pl 1, .pl 4, .ex g3, .ex g4] [] F (x0 :: some pen :: x2 :: x3 :: some (.sh C) :: rest) = .ok o (x0 :: some pen' :: x2 :: x3 :: some (.sh C) :: rest) := by
  obtain ⟨kvs, rfl⟩ := hd
  simp [aCall, evA, Res.bind, tak, giv, h3, h4, hF]
theorem call3 {F : aF} {g2 g3 : aE} {x0 : Option O} {pen pen' o : O} {m d : D} {rest : Store} (hd : ∃ kvs, pen = .dic kvs)
    (h3 : g2 (x0 :: some pen :: rest) = .ok (.sh m) (x0 :: some pen :: rest)) (h4 : g3 (x0 :: some pen :: rest) = .ok (.sh d) (x0 :: some pen :: rest)) (hF : F [pen, .sh m, .sh d] = .ret o [pen', .sh m, .sh d]) :
    aCall 3 [.pl 1, .ex g2, .ex g3] [] F (x0 :: some pen :: rest) = .ok o (x0 :: some pen' :: rest) := by
  obtain ⟨kvs, rfl⟩ := hd
  simp [aCall, evA, Res.bind, tak, giv, h3, h4, hF]
theorem one_draw2 {B m : Nat} {x0 : Option O} {pen : O} {rest : Store} (hp : PenOk B pen) (hB : B + 2 < 1099511627775) (hm : 0 < m ∧ m ≤ 1000) :
    ∃ (n : Nat) (pen' : O), aOp [.ex (aC (.int 1)), .ex (aCall 2 [.pl 1, .ex (aC (.int (m : Int)))] [] d__law_draw)] (l2 gAdd) (x0 :: some pen :: rest) = .ok (.sh (.int (n : Int))) (x0 :: some pen' :: rest) ∧ 0 < n ∧ n ≤ m ∧ PenOk (B + 1) pen' := by
  obtain ⟨r, pen2, e2, r0, r1, hp2⟩ := t_draw (many := (m : Int)) hp (by omega) (by omega)
  obtain ⟨k, rfl⟩ := Int.eq_ofNat_of_zero_le r0
  refine ⟨1 + k, pen2, ?_, by omega, by omega, hp2⟩
  generalize d__law_draw = G at e2 ⊢
  refine op_xx rfl (callq1 (F := G) hp.dic rfl e2) ?_
  show some _ = some _
  congr 3
/-- the words of a lap -/
theorem words_go {A : Store} {A10 : Option O} {body : aS} (hA : A.length = 7) : ∀ (ws : List (List Str)), (∀ w ∈ ws, ∀ a8 a9 : Option O, ∃ a8' a9' : Option O, body (A ++ [some (.sh (tS w)), a8, a9, A10]) = .nx (A ++ [some (.sh (tS w)), a8', a9', A10])) → ∀ a7 a8 a9 : Option O,
    ∃ a7' a8' a9' : Option O, forD (aN 7) body (ws.map tS) (A ++ [a7, a8, a9, A10]) = .nx (A ++ [a7', a8', a9', A10])
  | [], _, a7, a8, a9 => ⟨a7, a8, a9, rfl⟩
  | w :: ws, h, a7, a8, a9 => by
    obtain ⟨b8, b9, e⟩ := h w (by simp) a8 a9
    obtain ⟨c7, c8, c9, e2⟩ := words_go hA ws (fun v hv => h v (List.mem_cons_of_mem _ hv)) (some (.sh (tS w))) b8 b9
    refine ⟨c7, c8, c9, ?_⟩
    rw [List.map_cons, forD, aN_in (by simp [hA])]
    have es : (A ++ [a7, a8, a9, A10]).set 7 (some (.sh (tS w))) = A ++ [some (.sh (tS w)), a8, a9, A10] := by
      rw [List.set_append_right _ _ (by omega), hA]
      rfl
    rw [es]
    simp only
    rw [e]
    exact e2
end Lw
end
section
open PySem L2 Den
namespace Lw
theorem lw_of : ∀ {vs : List D} {R : List Str → Prop}, (∀ v ∈ vs, ∃ w, v = tS w ∧ R w) → ∃ ws : List (List Str), vs = ws.map tS ∧ ∀ w ∈ ws, R w
  | [], _, _ => ⟨[], rfl, fun w h => by cases h⟩
  | v :: vs, R, h => by
    obtain ⟨w, rfl, hw⟩ := h v (by simp)
    obtain ⟨ws, rfl, h2⟩ := lw_of (vs := vs) (R := R) fun u hu => h u (List.mem_cons_of_mem _ hu)
    exact ⟨w :: ws, rfl, fun x hx => by
      rcases List.mem_cons.mp hx with rfl | hx
      · exact hw
      · exact h2 x hx⟩
theorem okS_low {cs : List Str} (h : ∀ x ∈ cs, ∀ c ∈ x.cps.toList, 48 ≤ c ∧ c ≤ 122) : okSs cs := fun x hx => ok_low (h x hx)
theorem lap_ok {B : Nat} {pen : O} {x0 x2 a4 a5 a6 a7 a8 a9 : Option O} (hp : PenOk B pen) (hB : B + 10000 < 1099511627775) :
    ∃ (pen' : O) (b4 b5 b6 b7 b8 b9 : Option O), (sSeq (sSet 4 (aCall 2 [.pl 1, .ex (aOp [.ex (aC (.int 1)), .ex (aCall 2 [.pl 1, .ex (aC (.int 4))] [] (d__law_draw))] (l2 gAdd))] [] (d__law_calls)))
    (sSeq (sSet 5 (aCall 4 [.pl 1, .pl 4, .ex (aCall 2 [.pl 1, .ex (aOp [.ex (aC (.int 1)), .ex (aC (.int 1)), .ex (aC (.int 2)), .ex (aC (.int 3)), .ex (aC (.int 5)), .ex (aC (.int 8))] gLstS)] [] (d__law_pick)), .ex (aOp [.ex (aC (.int 1)), .ex (aCall 2 [.pl 1, .ex (aC (.int 3))] [] (d__law_draw))] (l2 gAdd))] [] (d__law_some_sentence 8)))
    (sSeq (sSet 6 (aCall 2 [.pl 4, .ex (aIfE (aB (aOp [.ex (aOp [.pl 4] (l1 gLen)), .ex (aC (.int 3))] (l2 gLt))) (aC (.int 4)) (aC (.int 2)))] [] (d__law_words_to)))
    (sFor (aItems (aFz (aOp [.pl 6, .ex (aLc (aRng1 (aC (.int 10))) [10] (aN 10) aYes (aCall 3 [.pl 1, .ex (aOp [.pl 4, .ex (aOp [.ex (aC (.str "zz"))] Den.gTup)] (l2 gAdd)), .ex (aC (.int 20))] [] (d__law_some_word)))] (l2 gAdd)))) (aN 7) (sSeq (sSet 8 (aCall 2 [.pl 5, .pl 7] [] (d__law_sentence_at 8)))
    (sSeq (sSet 9 (aIfE (aB (aOp [.pl 8, .ex (aOp [.ex (aC (.int 10)), .ex (aC (.int 6))] (l2 gPow))] (l2 gLt))) (aVar 8) (aC .non)))
    (sSeq (sIf (aNot (aB (aCall 2 [.ex (aOp [.ex (aFz (aCall 2 [.pl 5, .pl 7] [] (d_broken_at))), .ex (aFz (aCall 2 [.pl 5, .pl 7] [] (d_is_broken)))] Den.gTup), .ex (aOp [.ex (aVar 9), .ex (aFz (aOp [.pl 9] (l1 gNotN)))] Den.gTup)] [] (d__law_same 8)))) (sRet (aC (.bl false))) sNext)
    (sIf (aOr (aB (aOp [.ex (aCall 2 [.pl 5, .ex (aOp [.pl 7] (l1 gList))] [] (d_broken_at)), .pl 9] (l2 gNe))) (aAnd (aB (aOp [.pl 9] (l1 gNotN))) (aB (aOp [.ex (aCall 2 [.pl 5, .ex (aOp [.ex (aOp [.pl 7, .ex (aOp [.ex (aC (.str "zz"))] Den.gTup)] (l2 gAdd)), .pl 4] (l2 gAdd))] [] (d_broken_at)), .pl 9] (l2 gNe))))) (sRet (aC (.bl false))) sNext)))))))) [x0, some pen, x2, none, a4, a5, a6, a7, a8, a9, none] =
      .nx [x0, some pen', x2, none, b4, b5, b6, b7, b8, b9, none] ∧ PenOk (B + 1000) pen' := by
  obtain ⟨n, pen1, e1, n0, n4, hp1⟩ := one_draw2 (m := 4) (x0 := x0) (rest := [x2, none, a4, a5, a6, a7, a8, a9, none]) hp (by omega) (by omega)
  obtain ⟨cs, pen2, e2, hcl, hnd, hlow, hp2⟩ := t_calls (n := n) hp1 (by omega) ⟨n0, by omega⟩
  have hok := okS_low hlow
  obtain ⟨m, pen3, e3, hm, hp3⟩ := pick_oI (xs := [1, 1, 2, 3, 5, 8]) hp2 (by omega) (by simp) (by simp)
  have hm8 : 1 ≤ m ∧ m ≤ 8 := by
    simp only [List.mem_cons, List.not_mem_nil, or_false] at hm
    omega
  obtain ⟨m, rfl⟩ := Int.eq_ofNat_of_zero_le (show 0 ≤ m by omega)
  obtain ⟨d, pen4, e4, d0, d3, hp4⟩ := one_draw2 (m := 3) (x0 := x0) (rest := [x2, none, some (.sh (tS cs)), a5, a6, a7, a8, a9, none]) hp3 (by omega) (by omega)
  have hbb : m * (21 + 2 * d) ≤ 8 * 27 := Nat.mul_le_mul (by omega) (by omega)
  obtain ⟨s, pen5, e5, so, sd, _, hp5⟩ := t_some_sentence (cs := cs) (by omega) (by omega) hnd hok 8 d m (B + 1 + 110 + 1 + 1) pen4 (by omega) (by omega) (by omega) (by omega) hp4 (by omega)
  have hwt : ∃ k : Nat, k ≤ 4 ∧ aIfE (aB (aOp [.ex (aOp [.pl 4] (l1 gLen)), .ex (aC (.int 3))] (l2 gLt))) (aC (.int 4)) (aC (.int 2)) [x0, some pen5, x2, none, some (.sh (tS cs)), some (.sh s.d), a6, a7, a8, a9, none] = .ok (.sh (.int (k : Int))) [x0, some pen5, x2, none, some (.sh (tS cs)), some (.sh s.d), a6, a7, a8, a9, none] := by
    have c : aB (aOp [.ex (aOp [.pl 4] (l1 gLen)), .ex (aC (.int 3))] (l2 gLt)) [x0, some pen5, x2, none, some (.sh (tS cs)), some (.sh s.d), a6, a7, a8, a9, none] = .ok (decide ((cs.length : Int) < 3)) [x0, some pen5, x2, none, some (.sh (tS cs)), some (.sh s.d), a6, a7, a8, a9, none] :=
      b_ok (op_xx (op1_ok (i := 4) rfl (gLen_tS cs)) rfl rfl)
    by_cases h : (cs.length : Int) < 3
    · rw [decide_eq_true h] at c
      exact ⟨4, by omega, (ife_yes c).trans rfl⟩
    · rw [decide_eq_false h] at c
      exact ⟨2, by omega, (ife_no c).trans rfl⟩
  obtain ⟨k, k4, ek⟩ := hwt
  obtain ⟨ws, e6, hws, hwl⟩ := t_words_to (cs := cs) (by omega) (most := k) k4
  have hlen : (rngD 0 (10 : Int).toNat).length = 10 := by simp [rngD]
  have hz : okSs (cs ++ [zzS]) := fun x hx => by
    rcases List.mem_append.mp hx with hx | hx
    · exact hok x hx
    · rw [List.mem_singleton.mp hx]; decide +kernel
  obtain ⟨vs, pen6, e7, hvl, hv, hp6⟩ := aLcQ (i := 10) (c := 21) (src := aRng1 (aC (.int 10))) (ge := aCall 3 [.pl 1, .ex (aOp [.pl 4, .ex (aOp [.ex (aC (.str "zz"))] Den.gTup)] (l2 gAdd)), .ex (aC (.int 20))] [] (d__law_some_word)) (Pd := fun _ v => ∃ w, v = tS w ∧ (okSs w ∧ w.length ≤ 100))
    (fun p => [x0, some p, x2, none, some (.sh (tS cs)), some (.sh s.d), some (oW ws), a7, a8, a9, none]) (fun _ => rfl) (fun _ => True) (ρ0 := [x0, some pen5, x2, none, some (.sh (tS cs)), some (.sh s.d), some (oW ws), a7, a8, a9, none]) (ds := rngD 0 (10 : Int).toNat) (rng1_ok rfl (by omega)) (by rw [hlen]; omega) (fun _ _ => trivial) hp5 (by rw [hlen]; omega) (fun B pen d _ h hB => by
      obtain ⟨w, pen', e, wl, wm, hp'⟩ := t_some_word (xs := cs ++ [zzS]) (most := 20) h (by omega) (by simp) (by simp; omega) (by omega)
      refine ⟨tS w, pen', .sh (tS w), ?_, rfl, ⟨w, rfl, (fun x hx => hz x (wm x hx)), by omega⟩, hp'⟩
      generalize d__law_some_word = G at e ⊢
      refine call3 h.dic ?_ rfl e
      have gz : ∀ ρ : Store, aOp [.ex (aC (.str "zz"))] Den.gTup ρ = .ok (.sh (tS [zzS])) ρ := fun ρ => by simp only [aDef, pre, outs, List.map_cons, List.map_nil, List.replicate, List.cons_append, List.nil_append, List.length_cons, List.length_nil, sSeq, sSet, sRet, sRetN, sIf, sDrop, sPar, sAsg, sNext, aB, aC, aVar, aMove, aFz, aTV, aNot, aAnd, aOr, aIfE, aAndV, aOrV, aOp, aSl, aP, evA, rsv, l1, l2, Res.bind, Res.out, List.getElem?_cons_zero, List.getElem?_cons_succ, List.set_cons_zero, List.set_cons_succ, Option.map_some, Option.map_none, fz, shs, if_true, if_false, ite_true, ite_false, Bool.false_eq_true, reduceIte, reduceCtorEq, Nat.reduceAdd, Nat.reduceSub, Nat.reduceLT, Nat.reduceLeDiff, Nat.reduceEqDiff, Bool.not_true, Bool.not_false, Nat.sub_self, Nat.zero_add, and_self, true_and, and_true, Nat.lt_add_one, decide_true, decide_false, decide_eq_true_eq , gSl_tS, gLen_tS, gLen_lS, gTup_str, gIn_tS, gNotIn_tS, gIn_lS, gNotIn_lS, gEq_int, gEq_str, gNe_int, gNe_str, cut_from, cut_to , gTup_str2, gIx_tup, atI_0, atI_1, atI_2, atI_3, gSl_tup, List.mem_cons, List.not_mem_nil, or_false, false_or, true_or, or_true, not_true_eq_false, not_false_eq_true , aCall, tak, giv, List.append_nil, aMeth, k_never_until, k_never_after, k_never_turns, k_never_most, k_never_within, k_never_and, k_never_or, k_until_never, k_until_after, k_until_turns, k_until_most, k_until_within, k_until_and, k_until_or, k_after_never, k_after_until, k_after_turns, k_after_most, k_after_within, k_after_and, k_after_or, k_turns_never, k_turns_until, k_turns_after, k_turns_most, k_turns_within, k_turns_and, k_turns_or, k_most_never, k_most_until, k_most_after, k_most_turns, k_most_within, k_most_and, k_most_or, k_within_never, k_within_until, k_within_after, k_within_turns, k_within_most, k_within_and, k_within_or, k_and_never, k_and_until, k_and_after, k_and_turns, k_and_most, k_and_within, k_and_or, k_or_never, k_or_until, k_or_after, k_or_turns, k_or_most, k_or_within, k_or_and, zzS]
      exact op_pl_ex (i := 4) rfl (gz _) rfl (gAdd_tS (by simp; omega)))
  rw [hlen] at hvl hp6
  obtain ⟨ws2, rfl, hw2⟩ := lw_of (vs := vs) (R := fun w => okSs w ∧ w.length ≤ 100) fun v hm => by
    obtain ⟨k, hk⟩ := List.getElem?_of_mem hm
    have hk2 : k < (rngD 0 (10 : Int).toNat).length := by rw [hlen, ← hvl]; exact (List.getElem?_eq_some_iff.mp hk).1
    exact hv k _ v (List.getElem?_eq_getElem hk2) hk
  rw [List.length_map] at hvl
  have e8 : aItems (aFz (aOp [.pl 6, .ex (aLc (aRng1 (aC (.int 10))) [10] (aN 10) aYes (aCall 3 [.pl 1, .ex (aOp [.pl 4, .ex (aOp [.ex (aC (.str "zz"))] Den.gTup)] (l2 gAdd)), .ex (aC (.int 20))] [] (d__law_some_word)))] (l2 gAdd))) [x0, some pen5, x2, none, some (.sh (tS cs)), some (.sh s.d), some (oW ws), a7, a8, a9, none] =
      .ok ((ws ++ ws2).map tS) [x0, some pen6, x2, none, some (.sh (tS cs)), some (.sh s.d), some (oW ws), a7, a8, a9, none] := by
    refine items_ok (fz_ok (op_pl_ex (i := 6) (S0 := oW ws) (S := oW ws) rfl e7 rfl (gAdd_oW (bs := ws2) (by omega)))) ?_
    rw [fz_oW]
    rfl
  have hall : ∀ w ∈ ws ++ ws2, okSs w ∧ w.length ≤ 100 := fun w hw => by
    rcases List.mem_append.mp hw with hw | hw
    · have h := hws w hw
      exact ⟨fun x hx => hok x (h.1 x hx), by omega⟩
    · exact hw2 w hw
  obtain ⟨b7, b8, b9, e9⟩ := words_go (A := [x0, some pen6, x2, none, some (.sh (tS cs)), some (.sh s.d), some (oW ws)]) (A10 := none) rfl (ws ++ ws2) (fun w hw a8 a9 => word_turn (A0 := x0) (P1 := some pen6) (A2 := x2) (A6 := some (oW ws)) (a8 := a8) (a9 := a9) so (by omega) (hall w hw).1 (hall w hw).2 hok (by omega)) a7 a8 a9
  have e10 := (for_any e8).trans e9
  refine ⟨pen6, some (.sh (tS cs)), some (.sh s.d), some (oW ws), b7, b8, b9, ?_, hp6.mono (by omega)⟩
  have t2 := set_ok (i := 4) (callq1 (F := d__law_calls) hp1.dic e1 e2) (by simp)
  have t5 := set_ok (i := 5) (call4 (F := d__law_some_sentence 8) hp4.dic (callq1 (F := d__law_pick) (rest := [x2, none, some (.sh (tS cs)), a5, a6, a7, a8, a9, none]) hp2.dic lit_oI6 e3) e4 e5) (by simp)
  have t6 := set_ok (i := 6) (callx (F := d__law_words_to) (i := 4) rfl ek e6) (by simp)
  exact (seq_nx t2).trans ((seq_nx t5).trans ((seq_nx t6).trans e10))
end Lw
end
section
open PySem L2 Den
namespace Lw
theorem laps {body : aS} {x0 : Option O} (hb : ∀ (B : Nat) (pen : O) (x2 a4 a5 a6 a7 a8 a9 : Option O), PenOk B pen → B + 10000 < 1099511627775 → ∃ (pen' : O) (b4 b5 b6 b7 b8 b9 : Option O), body [x0, some pen, x2, none, a4, a5, a6, a7, a8, a9, none] = .nx [x0, some pen', x2, none, b4, b5, b6, b7, b8, b9, none] ∧ PenOk (B + 1000) pen') :
    ∀ (ds : List D) (B : Nat) (pen : O) (x2 a4 a5 a6 a7 a8 a9 : Option O), PenOk B pen → B + 10000 * (ds.length + 1) < 1099511627775 → ∃ (pen' : O) (c2 b4 b5 b6 b7 b8 b9 : Option O), forD (aN 2) body ds [x0, some pen, x2, none, a4, a5, a6, a7, a8, a9, none] = .nx [x0, some pen', c2, none, b4, b5, b6, b7, b8, b9, none]
  | [], B, pen, x2, a4, a5, a6, a7, a8, a9, _, _ => ⟨pen, x2, a4, a5, a6, a7, a8, a9, rfl⟩
  | d :: ds, B, pen, x2, a4, a5, a6, a7, a8, a9, hp, hB => by
    rw [List.length_cons] at hB
    obtain ⟨pen1, b4, b5, b6, b7, b8, b9, e, hp1⟩ := hb B pen (some (.sh d)) a4 a5 a6 a7 a8 a9 hp (by omega)
    obtain ⟨pen', c2, c4, c5, c6, c7, c8, c9, e2⟩ := laps hb ds (B + 1000) pen1 (some (.sh d)) b4 b5 b6 b7 b8 b9 hp1 (by omega)
    refine ⟨pen', c2, c4, c5, c6, c7, c8, c9, ?_⟩
    rw [forD, aN_in (by simp)]
    simp only [List.set_cons_succ, List.set_cons_zero]
    rw [e]
    exact e2
/-! ### the last row -/
def sA : Str := "a"
def sB : Str := "b"
def sC : Str := "c"
def toldS : Sen := .join false [.one (.never [sC]), .one (.until sB [sA, sC])]
theorem abc_ne : sA ≠ sB ∧ sA ≠ sC ∧ sB ≠ sC ∧ sB ≠ sA ∧ sC ≠ sA ∧ sC ≠ sB := by refine ⟨?_, ?_, ?_, ?_, ?_, ?_⟩ <;> decide +kernel
theorem abc_ok : okS sA ∧ okS sB ∧ okS sC := by refine ⟨?_, ?_, ?_⟩ <;> decide +kernel
theorem told_ok : toldS.ok := by
  obtain ⟨oa, ob, oc⟩ := abc_ok
  refine join_ok (by simp) (fun s hs => ?_) (by simp) (by simp [Sen.plainsL, Sen.plains])
  simp only [List.mem_cons, List.not_mem_nil, or_false] at hs
  rcases hs with rfl | rfl
  · rw [Sen.ok]
    exact ⟨fun x hx => by rw [List.mem_singleton.mp hx]; exact oc, by simp, by simp⟩
  · rw [Sen.ok]
    refine ⟨fun x hx => ?_, by simp, by simp⟩
    simp only [List.mem_cons, List.not_mem_nil, or_false] at hx
    rcases hx with rfl | rfl | rfl
    · exact ob
    · exact oa
    · exact oc
theorem told_dep : toldS.dep < 8 := by simp [toldS, Sen.dep, Sen.depL]
theorem told_d : toldS.d = .tup [.str "or", .tup [.tup [.str "never", tS [sC]], .tup [.str "until", .str sB, tS [sA, sC]]]] := by
  simp [toldS, Sen.d, Sen.dL, jn, Pl.d]
theorem told_sat (w : List Str) : toldS.sat (fun p => pa p w) = max (pa (.never [sC]) w) (max (pa (.until sB [sA, sC]) w) 0) := by
  simp [toldS, Sen.sat, Sen.satL, maxL]
end Lw
end
section
open PySem L2 Den
namespace Lw
theorem aLc_any {src : aI} {i : Nat} {ge : aE} {ρ : Store} {ds : List D} (f : D → D) (hs : src ρ = .ok ds ρ) (hl : ds.length ≤ 16000000) (hi : i < ρ.length)
    (h : ∀ d ∈ ds, ∃ o ρ', ge (ρ.set i (some (.sh d))) = .ok o ρ' ∧ fz o = f d ∧ ρ'.set i none = ρ.set i none) : aLc src [i] (aN i) aYes ge ρ = .ok (.lst ((ds.map f).map O.sh)) ((ρ.set i none).set i (ρ[i]?).join) := by
  have w : wipeS (ρ.set i none) [i] = ρ.set i none := by
    show (ρ.set i none).set i none = _
    rw [List.set_set]
  have z := lcL_map (i := i) (ge := ge) (ρ := ρ.set i none) f (by rw [List.length_set]; exact hi) w (ds := ds) (fun d hd => by
    obtain ⟨o, ρ', e, ef, er⟩ := h d hd
    exact ⟨o, ρ', by rw [List.set_set]; exact e, ef, er⟩)
  unfold aLc
  rw [hs]
  simp only [Res.bind]
  have w2 : wipeS ρ [i] = ρ.set i none := rfl
  rw [if_pos hl, w2, z]
  rfl
theorem pa_told : pa (.never [sC]) [sC] = 1 ∧ pa (.never [sC]) [sC, sA, sC] = 1 ∧ pa (.never [sC]) [sA, sC] = 2 ∧ pa (.never [sC]) [sB, sA, sC] = 3 ∧
    pa (.until sB [sA, sC]) [sC] = 1000000 ∧ pa (.until sB [sA, sC]) [sC, sA, sC] = 3 ∧ pa (.until sB [sA, sC]) [sA, sC] = 2 ∧ pa (.until sB [sA, sC]) [sB, sA, sC] = 1000000 := by
  refine ⟨?_, ?_, ?_, ?_, ?_, ?_, ?_, ?_⟩ <;> decide +kernel
theorem told_at {w : List Str} (hw : okSs w) (hl : w.length ≤ 100000) : d_broken_at [.sh toldS.d, .sh (tS w)] = .ret (.sh (dueD (max (pa (.never [sC]) w) (max (pa (.until sB [sA, sC]) w) 0)) w)) [.sh toldS.d, .sh (tS w)] := by
  have h := t_broken_at told_ok told_dep hw hl (W := .sh (tS w)) (gLen_tS w) (fun k x hx => gIx_tS hx)
  rw [← due_sh, told_sat] at h
  exact h
def wS : List (List Str) := [[sC], [sC, sA, sC], [sA, sC], [sB, sA, sC]]
def fT : D → D
  | .tup [_] => .non
  | .tup [_, _] => .int 2
  | .tup (.str x :: _) => if x = sC then .int 3 else .non
  | d => d
theorem fT_w : (wS.map tS).map fT = [.non, .int 3, .int 2, .non] := by
  have := abc_ne.2.2.1
  simp [wS, tS, fT, this]
theorem told_all : ∀ d ∈ wS.map tS, d_broken_at [.sh toldS.d, .sh d] = .ret (.sh (fT d)) [.sh toldS.d, .sh d] := by
  obtain ⟨p1, p2, p3, p4, q1, q2, q3, q4⟩ := pa_told
  obtain ⟨oa, ob, oc⟩ := abc_ok
  have hs : ∀ x : Str, x = sA ∨ x = sB ∨ x = sC → okS x := fun x h => by
    rcases h with rfl | rfl | rfl
    · exact oa
    · exact ob
    · exact oc
  intro d hd
  obtain ⟨w, hw, rfl⟩ := List.mem_map.mp hd
  have hok : okSs w := fun x hx => hs x (by
    simp only [wS, List.mem_cons, List.not_mem_nil, or_false] at hw
    rcases hw with rfl | rfl | rfl | rfl <;> simp only [List.mem_cons, List.not_mem_nil, or_false] at hx <;> (first | (rcases hx with rfl | rfl | rfl <;> simp) | (rcases hx with rfl | rfl <;> simp) | (subst hx; simp)))
  have h := fun hl => told_at (w := w) hok hl
  have bc := abc_ne.2.2.1
  simp only [wS, List.mem_cons, List.not_mem_nil, or_false] at hw
  rcases hw with rfl | rfl | rfl | rfl
  · rw [h (by simp), p1, q1]; rfl
  · rw [h (by simp), p2, q2]; rfl
  · rw [h (by simp), p3, q3]; rfl
  · rw [h (by simp), p4, q4]
    have e : fT (tS [sB, sA, sC]) = .non := by simp [tS, fT, bc]
    rw [e]
    rfl
theorem told_lit {ρ : Store} : aOp [.ex (aC (.str "or")), .ex (aFz (aOp [.ex (aFz (aOp [.ex (aC (.str "never")), .ex (aFz (aOp [.ex (aC (.str "c"))] Den.gTup))] Den.gTup)), .ex (aFz (aOp [.ex (aC (.str "until")), .ex (aC (.str "b")), .ex (aFz (aOp [.ex (aC (.str "a")), .ex (aC (.str "c"))] Den.gTup))] Den.gTup))] Den.gTup))] Den.gTup ρ = .ok (.sh toldS.d) ρ := by
  rw [told_d]
  simp [aOp, evA, aC, aFz, Res.bind, rsv, Den.gTup, shs, fz, tS, sA, sB, sC]
theorem words_lit {ρ : Store} : aItems (aFz (aOp [.ex (aFz (aOp [.ex (aC (.str "c"))] Den.gTup)), .ex (aFz (aOp [.ex (aC (.str "c")), .ex (aC (.str "a")), .ex (aC (.str "c"))] Den.gTup)), .ex (aFz (aOp [.ex (aC (.str "a")), .ex (aC (.str "c"))] Den.gTup)), .ex (aFz (aOp [.ex (aC (.str "b")), .ex (aC (.str "a")), .ex (aC (.str "c"))] Den.gTup))] gLstS)) ρ = .ok (wS.map tS) ρ := by
  refine items_ok (fz_ok (o := oW wS) ?_) (by rw [fz_oW]; rfl)
  simp [aOp, evA, aC, aFz, Res.bind, rsv, Den.gTup, gLstS, shs, fz, tS, sA, sB, sC, oW, wS]
theorem due_lit {ρ : Store} : aOp [.ex (aC .non), .ex (aC (.int 3)), .ex (aC (.int 2)), .ex (aC .non)] gLstS ρ = .ok (.lst ([D.non, .int 3, .int 2, .non].map O.sh)) ρ := by
  simp [aOp, evA, aC, Res.bind, rsv, gLstS, shs]
theorem due_eq : gEq (.lst ([D.non, .int 3, .int 2, .non].map O.sh)) (.lst ([D.non, .int 3, .int 2, .non].map O.sh)) = some (.sh (.bl true)) := by
  have e : fz (.lst ([D.non, .int 3, .int 2, .non].map O.sh)) = .lst [.non, .int 3, .int 2, .non] := by rw [fz, fzL_sh]
  unfold gEq
  rw [e]
  simp [gEqD, scalD, toPy, toPyL, SeqAt.shaped, PyData.canLay0, PyData.canLayAll0, PyData.depth, PyData.depthAll, PyData.eqv, PyData.eqvAll]
end Lw
end
section
open PySem L2 Den
namespace Lw
theorem last_row {x0 x1 x2 x4 x5 x6 x8 x9 : Option O} {x7 : Option O} : ∃ y7 : Option O, sSeq (sSet 3 (aOp [.ex (aC (.str "or")), .ex (aFz (aOp [.ex (aFz (aOp [.ex (aC (.str "never")), .ex (aFz (aOp [.ex (aC (.str "c"))] Den.gTup))] Den.gTup)), .ex (aFz (aOp [.ex (aC (.str "until")), .ex (aC (.str "b")), .ex (aFz (aOp [.ex (aC (.str "a")), .ex (aC (.str "c"))] Den.gTup))] Den.gTup))] Den.gTup))] Den.gTup))
    (sRet (aOp [.ex (aLc (aItems (aFz (aOp [.ex (aFz (aOp [.ex (aC (.str "c"))] Den.gTup)), .ex (aFz (aOp [.ex (aC (.str "c")), .ex (aC (.str "a")), .ex (aC (.str "c"))] Den.gTup)), .ex (aFz (aOp [.ex (aC (.str "a")), .ex (aC (.str "c"))] Den.gTup)), .ex (aFz (aOp [.ex (aC (.str "b")), .ex (aC (.str "a")), .ex (aC (.str "c"))] Den.gTup))] gLstS))) [7] (aN 7) aYes (aCall 2 [.pl 3, .pl 7] [] (d_broken_at))), .ex (aOp [.ex (aC .non), .ex (aC (.int 3)), .ex (aC (.int 2)), .ex (aC .non)] gLstS)] (l2 gEq)))
    [x0, x1, x2, none, x4, x5, x6, x7, x8, x9, none] = .ret (.sh (.bl true)) [x0, x1, x2, some (.sh toldS.d), x4, x5, x6, y7, x8, x9, none] := by
  have hall := told_all
  generalize d_broken_at = F at hall ⊢
  have s1 := set_ok (i := 3) (ρ := [x0, x1, x2, none, x4, x5, x6, x7, x8, x9, none]) told_lit (by simp)
  generalize toldS.d = T at hall s1 ⊢
  have lc := aLc_any (ρ := [x0, x1, x2, some (.sh T), x4, x5, x6, x7, x8, x9, none]) (i := 7) (ge := aCall 2 [.pl 3, .pl 7] [] F) fT words_lit (by simp [wS]) (by simp) (fun d hd => ⟨.sh (fT d), _, callsh2 (i := 3) (j := 7) rfl rfl (hall d hd), rfl, rfl⟩)
  rw [fT_w] at lc
  refine ⟨x7, (seq_nx s1).trans (ret_ok (op_xx (lc.trans ?_) due_lit due_eq))⟩
  cases x7 <;> rfl
theorem law_true : ∀ ns : List Int, ns.length ≤ 63 → ∃ os', d_law [.sh (.wls (ns.map D.int))] = .ret (.sh (.bl true)) os' ∧ os'.length = 1 := by
  intro ns hn
  obtain ⟨pen, e0, hp⟩ := t_pen hn
  have h4 : (rngD 0 (4 : Int).toNat).length = 4 := by simp [rngD]
  obtain ⟨pen', c2, b4, b5, b6, b7, b8, b9, e1⟩ := laps (x0 := some (.sh (.wls (ns.map D.int)))) (fun B pen x2 a4 a5 a6 a7 a8 a9 h hB => lap_ok (x0 := some (.sh (.wls (ns.map D.int)))) (x2 := x2) (a4 := a4) (a5 := a5) (a6 := a6) (a7 := a7) (a8 := a8) (a9 := a9) h hB) (rngD 0 (4 : Int).toNat) 0 pen none none none none none none none hp (by rw [h4]; omega)
  obtain ⟨y7, e2⟩ := last_row (x0 := some (.sh (.wls (ns.map D.int)))) (x1 := some pen') (x2 := c2) (x4 := b4) (x5 := b5) (x6 := b6) (x7 := b7) (x8 := b8) (x9 := b9)
  have s1 := set_ok (i := 1) (call1_sh (F := d__law_pen) (rest := [none, none, none, none, none, none, none, none, none, none]) e0) (by simp)
  have e1' := (sFor_rng1 (g := aC (.int 4)) (tg := aN 2) (ρ := [some (.sh (.wls (ns.map D.int))), some pen, none, none, none, none, none, none, none, none, none]) rfl (by omega)).trans e1
  refine ⟨[.sh (.wls (ns.map D.int))], ?_, rfl⟩
  unfold d_law
  exact def_ret (ρ := [some (.sh (.wls (ns.map D.int))), some pen', c2, some (.sh toldS.d), b4, b5, b6, y7, b8, b9, none]) rfl ((seq_nx s1).trans ((seq_nx e1').trans e2)) rfl
end Lw
end
section
open PySem PySem.W PyProof.Rows in
set_option maxRecDepth 100000 in
set_option maxHeartbeats 0 in
theorem PySem.Challenge.cw_keepersnotes_k04_whole_broken_sentences_holds : PySem.Challenge.rw_keepersnotes_k04_whole_broken_sentences.Holds := by
  w_on; o_law; k_head; (case hw => w_witness2)
  k_fill
  refine Den.walk_den (l := PySem.Challenge.rw_keepersnotes_k04_whole_broken_sentences) (k := 13) (den := Lw.d_law) (cls := fun _ => 0) rfl rfl ⟨rfl, by decide, by decide⟩ (fun w h Y => PySem.W.kIn_of Y) ?F Lw.law_true
  case F =>
    intro w mg fa h KX G hmg
    refine' Lw.all_mk KX G hmg ?a_plain_of ?l_plain_of ?c_plain_of ?k_plain_of ?a_overlap ?l_overlap ?c_overlap ?k_overlap ?a_stretched ?l_stretched ?c_stretched ?k_stretched ?a_counted ?l_counted ?c_counted ?k_counted ?a_behind_mind ?l_behind_mind ?c_behind_mind ?k_behind_mind ?a_end_mind ?l_end_mind ?c_end_mind ?k_end_mind ?a_breaks ?l_breaks ?c_breaks ?k_breaks ?a_broken_at ?l_broken_at ?c_broken_at ?k_broken_at ?a_is_broken ?l_is_broken ?c_is_broken ?k_is_broken ?a__law_pen ?l__law_pen ?c__law_pen ?k__law_pen ?a__law_draw ?l__law_draw ?c__law_draw ?k__law_draw ?a__law_pick ?l__law_pick ?c__law_pick ?k__law_pick ?a__law_shuffled ?l__law_shuffled ?c__law_shuffled ?k__law_shuffled ?a__law_some ?l__law_some ?c__law_some ?k__law_some ?a__law_name ?l__law_name ?c__law_name ?k__law_name ?a__law_names ?l__law_names ?c__law_names ?k__law_names ?a__law_same ?l__law_same ?c__law_same ?k__law_same ?a__law_calls ?l__law_calls ?c__law_calls ?k__law_calls ?a__law_some_word ?l__law_some_word ?c__law_some_word ?k__law_some_word ?a__law_words_to ?l__law_words_to ?c__law_words_to ?k__law_words_to ?a__law_some_plain ?l__law_some_plain ?c__law_some_plain ?k__law_some_plain ?a__law_some_sentence ?l__law_some_sentence ?c__law_some_sentence ?k__law_some_sentence ?a__law_ends_so ?l__law_ends_so ?c__law_ends_so ?k__law_ends_so ?a__law_fresh_break ?l__law_fresh_break ?c__law_fresh_break ?k__law_fresh_break ?a__law_plain_at ?l__law_plain_at ?c__law_plain_at ?k__law_plain_at ?a__law_sentence_at ?l__law_sentence_at ?c__law_sentence_at ?k__law_sentence_at ?a_law ?l_law ?c_law ?k_law ?n_range ?n_len ?n_min ?n_any ?n_all ?n_list ?n_zip ?n_int ?n_str ?n_isinstance ?n_tuple ?n_bool ?n_sorted ?n_max ?q_JOINTS ?w_JOINTS
    (case a_plain_of => k_is)
    (case l_plain_of => k_is)
    (case c_plain_of => k_is)
    (case k_plain_of => k_is)
    (case a_overlap => k_is)
    (case l_overlap => k_is)
    (case c_overlap => k_is)
    (case k_overlap => k_is)
    (case a_stretched => k_is)
    (case l_stretched => k_is)
    (case c_stretched => k_is)
    (case k_stretched => k_is)
    (case a_counted => k_is)
    (case l_counted => k_is)
    (case c_counted => k_is)
    (case k_counted => k_is)
    (case a_behind_mind => k_is)
    (case l_behind_mind => k_is)
    (case c_behind_mind => k_is)
    (case k_behind_mind => k_is)
    (case a_end_mind => k_is)
    (case l_end_mind => k_is)
    (case c_end_mind => k_is)
    (case k_end_mind => k_is)
    (case a_breaks => k_is)
    (case l_breaks => k_is)
    (case c_breaks => k_is)
    (case k_breaks => k_is)
    (case a_broken_at => k_is)
    (case l_broken_at => k_is)
    (case c_broken_at => k_is)
    (case k_broken_at => k_is)
    (case a_is_broken => k_is)
    (case l_is_broken => k_is)
    (case c_is_broken => k_is)
    (case k_is_broken => k_is)
    (case a__law_pen => k_is)
    (case l__law_pen => k_is)
    (case c__law_pen => k_is)
    (case k__law_pen => k_is)
    (case a__law_draw => k_is)
    (case l__law_draw => k_is)
    (case c__law_draw => k_is)
    (case k__law_draw => k_is)
    (case a__law_pick => k_is)
    (case l__law_pick => k_is)
    (case c__law_pick => k_is)
    (case k__law_pick => k_is)
    (case a__law_shuffled => k_is)
    (case l__law_shuffled => k_is)
    (case c__law_shuffled => k_is)
    (case k__law_shuffled => k_is)
    (case a__law_some => k_is)
    (case l__law_some => k_is)
    (case c__law_some => k_is)
    (case k__law_some => k_is)
    (case a__law_name => k_is)
    (case l__law_name => k_is)
    (case c__law_name => k_is)
    (case k__law_name => k_is)
    (case a__law_names => k_is)
    (case l__law_names => k_is)
    (case c__law_names => k_is)
    (case k__law_names => k_is)
    (case a__law_same => k_is)
    (case l__law_same => k_is)
    (case c__law_same => k_is)
    (case k__law_same => k_is)
    (case a__law_calls => k_is)
    (case l__law_calls => k_is)
    (case c__law_calls => k_is)
    (case k__law_calls => k_is)
    (case a__law_some_word => k_is)
    (case l__law_some_word => k_is)
    (case c__law_some_word => k_is)
    (case k__law_some_word => k_is)
    (case a__law_words_to => k_is)
    (case l__law_words_to => k_is)
    (case c__law_words_to => k_is)
    (case k__law_words_to => k_is)
    (case a__law_some_plain => k_is)
    (case l__law_some_plain => k_is)
    (case c__law_some_plain => k_is)
    (case k__law_some_plain => k_is)
    (case a__law_some_sentence => k_is)
    (case l__law_some_sentence => k_is)
    (case c__law_some_sentence => k_is)
    (case k__law_some_sentence => k_is)
    (case a__law_ends_so => k_is)
    (case l__law_ends_so => k_is)
    (case c__law_ends_so => k_is)
    (case k__law_ends_so => k_is)
    (case a__law_fresh_break => k_is)
    (case l__law_fresh_break => k_is)
    (case c__law_fresh_break => k_is)
    (case k__law_fresh_break => k_is)
    (case a__law_plain_at => k_is)
    (case l__law_plain_at => k_is)
    (case c__law_plain_at => k_is)
    (case k__law_plain_at => k_is)
    (case a__law_sentence_at => k_is)
    (case l__law_sentence_at => k_is)
    (case c__law_sentence_at => k_is)
    (case k__law_sentence_at => k_is)
    (case a_law => k_is)
    (case l_law => k_is)
    (case c_law => k_is)
    (case k_law => k_is)
    (case n_range => k_is)
    (case n_len => k_is)
    (case n_min => k_is)
    (case n_any => k_is)
    (case n_all => k_is)
    (case n_list => k_is)
    (case n_zip => k_is)
    (case n_int => k_is)
    (case n_str => k_is)
    (case n_isinstance => k_is)
    (case n_tuple => k_is)
    (case n_bool => k_is)
    (case n_sorted => k_is)
    (case n_max => k_is)
    (case q_JOINTS => k_is)
    (case w_JOINTS => k_is)
end
