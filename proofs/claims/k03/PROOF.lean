import PyProof.Rows.All
import Wide.All
import OpenK.AllK
import Wide.FinOn
import HandS.ForMost
import HandS.ForSpec
import HandS.CallSlots
import HandS.Flow
import HandS.TupAny
import HandS.IsInst
import HandS.Style
import HandS.Codes
import HandS.Deep
import HandS.RaiseMore
import HandS.More
import HandS.Dict
import HandS.Iter
import HandS.Zip
import HandS.Rev
import HandS.Comp
import HandS.NoneIn
import HandS.Small
import HandS.WordsExc
import HandS.StrMore
import HandS.TupMul
import HandS.Set
import HandS.Strs
import HandS.SetFor
import PyProof.Rows.SortShellAny
import HandS.Defaults
import PyProof.AutoSeq1
import PySem.Challenge.RW_keepersnotes_k03_sentences_judged
import PyProof.ReprLen
import PyProof.StrLawsRepr
set_option Elab.async false
set_option linter.all false
set_option maxRecDepth 100000
section
/-! Den, part A: data, owned trees, the algebra of what is owned and shared over the abstract heap. -/
namespace Den
open PySem L2

/-- plain data: what is shared and never changes -/
inductive D where
  | non | bl (b : Bool) | int (i : Int) | str (x : Str)
  | tup (ds : List D) | lst (ds : List D)
  | wls (ds : List D)
  | dic (kvs : List (D × D))
  | obj (c : Nat) (fs : List (Str × D))
  | xd (fs : List (Str × D))
  deriving Inhabited
/-- what a name holds: shared data, or an object of its own -/
inductive O where
  | sh (d : D)
  | lst (os : List O) | tup (os : List O)
  | dic (kvs : List (D × O))
  | obj (c : Nat) (fs : List (Str × O))
  deriving Inhabited

/-- what stands through a whole law: the program, its world, the written part, where its classes stand -/
structure Gb where
  prog : Program
  w : World
  K : PySem.W.Frag
  cls : Nat → Addr

def kD : Key → D
  | .inl i => .int i
  | .inr x => .str x

mutual
inductive Rep (Γ : Gb) (S : Hp) : V → D → Prop
  | non : Rep Γ S .non .non
  | bl (b : Bool) : Rep Γ S (.bl b) (.bl b)
  | int (i : Int) : Rep Γ S (.int i) (.int i)
  | str (x : Str) : Rep Γ S (.str x) (.str x)
  | tup {a : Addr} {xs : List V} {ds : List D} : SqT Γ.K S a xs → RepL Γ S xs ds → Rep Γ S (.ref a) (.tup ds)
  | lst {a : Addr} {xs : List V} {ds : List D} : S a = some (.lst xs) → RepL Γ S xs ds → Rep Γ S (.ref a) (.lst ds)
  | wls {a : Addr} {xs : List V} {ds : List D} : SqL Γ.K S a xs → RepL Γ S xs ds → Rep Γ S (.ref a) (.wls ds)
  | dic {a : Addr} {kvs : List (Key × V)} {dkvs : List (D × D)} : S a = some (.dK kvs) → dkvs.map Prod.fst = kvs.map (fun p => kD p.1) → RepL Γ S (kvs.map Prod.snd) (dkvs.map Prod.snd) → Rep Γ S (.ref a) (.dic dkvs)
  | obj {a dx : Addr} {c : Nat} {vs : List (Str × V)} {fs : List (Str × D)} : S a = some (.ins (Γ.cls c) dx vs) → fs.map Prod.fst = vs.map Prod.fst → RepL Γ S (vs.map Prod.snd) (fs.map Prod.snd) → Rep Γ S (.ref a) (.obj c fs)
  | xd {a : Addr} {vs : List (Str × V)} {fs : List (Str × D)} : S a = some (.xd vs) → fs.map Prod.fst = vs.map Prod.fst → RepL Γ S (vs.map Prod.snd) (fs.map Prod.snd) → Rep Γ S (.ref a) (.xd fs)
inductive RepL (Γ : Gb) (S : Hp) : List V → List D → Prop
  | nil : RepL Γ S [] []
  | cons {v : V} {vs : List V} {d : D} {ds : List D} : Rep Γ S v d → RepL Γ S vs ds → RepL Γ S (v :: vs) (d :: ds)
end

/-- not a code object's table -/
def NoT (o : HO) : Prop := ∀ ps, o ≠ .tbl ps
/-- all that S tells stands in H, and is no table -/
def Sub (S H : Hp) : Prop := ∀ a o, S a = some o → H a = some o ∧ NoT o

section
variable {Γ : Gb} {S S' H H' : Hp}
theorem rd_mono (h : ∀ a o, S a = some o → S' a = some o) {a : Addr} {u : HO} (r : Rd S a u) : Rd S' a u := by
  rcases r with r | ⟨o, r⟩
  · exact .inl (h _ _ r)
  · exact .inr ⟨o, h _ _ r⟩
theorem sqT_mono (h : ∀ a o, S a = some o → S' a = some o) {a : Addr} {xs : List V} (r : SqT Γ.K S a xs) : SqT Γ.K S' a xs := by
  rcases r with r | r
  · exact .inl (rd_mono h r)
  · exact .inr r
theorem sqL_mono (h : ∀ a o, S a = some o → S' a = some o) {a : Addr} {xs : List V} (r : SqL Γ.K S a xs) : SqL Γ.K S' a xs := by
  rcases r with r | r
  · exact .inl (rd_mono h r)
  · exact .inr r
mutual
theorem Rep.mono (h : ∀ a o, S a = some o → S' a = some o) : ∀ {v : V} {d : D}, Rep Γ S v d → Rep Γ S' v d
  | _, _, .non => .non
  | _, _, .bl b => .bl b
  | _, _, .int i => .int i
  | _, _, .str x => .str x
  | _, _, .tup hs hl => .tup (sqT_mono h hs) (RepL.mono h hl)
  | _, _, .lst hs hl => .lst (h _ _ hs) (RepL.mono h hl)
  | _, _, .wls hs hl => .wls (sqL_mono h hs) (RepL.mono h hl)
  | _, _, .dic ha hk hl => .dic (h _ _ ha) hk (RepL.mono h hl)
  | _, _, .obj ha hk hl => .obj (h _ _ ha) hk (RepL.mono h hl)
  | _, _, .xd ha hk hl => .xd (h _ _ ha) hk (RepL.mono h hl)
theorem RepL.mono (h : ∀ a o, S a = some o → S' a = some o) : ∀ {vs : List V} {ds : List D}, RepL Γ S vs ds → RepL Γ S' vs ds
  | _, _, .nil => .nil
  | _, _, .cons r t => .cons (Rep.mono h r) (RepL.mono h t)
end
end

mutual
inductive OR (Γ : Gb) (S H : Hp) : V → O → List Addr → Prop
  | sh {v : V} {d : D} : Rep Γ S v d → OR Γ S H v (.sh d) []
  | lst {a : Addr} {rs : List (V × O)} {os : List O} {F : List Addr} : H a = some (.lst (rs.map Prod.fst)) → ORL Γ S H rs F → os = rs.map Prod.snd → OR Γ S H (.ref a) (.lst os) (a :: F)
  | tup {a : Addr} {rs : List (V × O)} {os : List O} {F : List Addr} : H a = some (.tup (rs.map Prod.fst)) → ORL Γ S H rs F → os = rs.map Prod.snd → OR Γ S H (.ref a) (.tup os) (a :: F)
  | dic {a : Addr} {kvs : List (Key × V)} {dkvs : List (D × O)} {rs : List (V × O)} {F : List Addr} : H a = some (.dK kvs) → dkvs.map Prod.fst = kvs.map (fun p => kD p.1) → kvs.map Prod.snd = rs.map Prod.fst → dkvs.map Prod.snd = rs.map Prod.snd →
      ORL Γ S H rs F → OR Γ S H (.ref a) (.dic dkvs) (a :: F)
  | obj {a dx : Addr} {c : Nat} {vs : List (Str × V)} {fs : List (Str × O)} {rs : List (V × O)} {F : List Addr} : H a = some (.ins (Γ.cls c) dx vs) → fs.map Prod.fst = vs.map Prod.fst → vs.map Prod.snd = rs.map Prod.fst → fs.map Prod.snd = rs.map Prod.snd →
      ORL Γ S H rs F → OR Γ S H (.ref a) (.obj c fs) (a :: F)
inductive ORL (Γ : Gb) (S H : Hp) : List (V × O) → List Addr → Prop
  | nil : ORL Γ S H [] []
  | cons {v : V} {o : O} {rs : List (V × O)} {F G : List Addr} : OR Γ S H v o F → ORL Γ S H rs G → ORL Γ S H ((v, o) :: rs) (F ++ G)
end

section
variable {Γ : Gb} {S S' H H' : Hp}
mutual
theorem OR.mono (h : ∀ a o, S a = some o → S' a = some o) : ∀ {v : V} {o : O} {F : List Addr}, OR Γ S H v o F → (∀ a ∈ F, ∀ o, H a = some o → H' a = some o) → OR Γ S' H' v o F
  | _, _, _, .sh r, _ => .sh (r.mono h)
  | _, _, _, .lst ha hl e, k => .lst (k _ (by simp) _ ha) (ORL.mono h hl fun a m => k a (by simp [m])) e
  | _, _, _, .tup ha hl e, k => .tup (k _ (by simp) _ ha) (ORL.mono h hl fun a m => k a (by simp [m])) e
  | _, _, _, .dic ha e1 e2 e3 hl, k => .dic (k _ (by simp) _ ha) e1 e2 e3 (ORL.mono h hl fun a m => k a (by simp [m]))
  | _, _, _, .obj ha e1 e2 e3 hl, k => .obj (k _ (by simp) _ ha) e1 e2 e3 (ORL.mono h hl fun a m => k a (by simp [m]))
theorem ORL.mono (h : ∀ a o, S a = some o → S' a = some o) : ∀ {rs : List (V × O)} {F : List Addr}, ORL Γ S H rs F → (∀ a ∈ F, ∀ o, H a = some o → H' a = some o) → ORL Γ S' H' rs F
  | _, _, .nil, _ => .nil
  | _, _, .cons r t, k => .cons (OR.mono h r fun a m => k a (by simp [m])) (ORL.mono h t fun a m => k a (by simp [m]))
end
mutual
/-- what is owned stands in the heap -/
theorem OR.dom : ∀ {v : V} {o : O} {F : List Addr}, OR Γ S H v o F → ∀ a ∈ F, ∃ u, H a = some u ∧ NoT u
  | _, _, _, .sh _, a, m => by cases m
  | _, _, _, .lst ha hl _, a, m => by
    rcases List.mem_cons.mp m with rfl | m
    · exact ⟨_, ha, fun ps z => by cases z⟩
    · exact ORL.dom hl a m
  | _, _, _, .tup ha hl _, a, m => by
    rcases List.mem_cons.mp m with rfl | m
    · exact ⟨_, ha, fun ps z => by cases z⟩
    · exact ORL.dom hl a m
  | _, _, _, .dic ha _ _ _ hl, a, m => by
    rcases List.mem_cons.mp m with rfl | m
    · exact ⟨_, ha, fun ps z => by cases z⟩
    · exact ORL.dom hl a m
  | _, _, _, .obj ha _ _ _ hl, a, m => by
    rcases List.mem_cons.mp m with rfl | m
    · exact ⟨_, ha, fun ps z => by cases z⟩
    · exact ORL.dom hl a m
theorem ORL.dom : ∀ {rs : List (V × O)} {F : List Addr}, ORL Γ S H rs F → ∀ a ∈ F, ∃ u, H a = some u ∧ NoT u
  | _, _, .nil, a, m => by cases m
  | _, _, .cons r t, a, m => by
    rcases List.mem_append.mp m with m | m
    · exact OR.dom r a m
    · exact ORL.dom t a m
end
theorem ORL.append : ∀ {rs rs' : List (V × O)} {F G : List Addr}, ORL Γ S H rs F → ORL Γ S H rs' G → ORL Γ S H (rs ++ rs') (F ++ G)
  | _, _, _, _, .nil, s => s
  | _, _, _, _, .cons r t, s => by
    rw [List.append_assoc]
    exact .cons r (ORL.append t s)
theorem ORL.split : ∀ {rs rs' : List (V × O)} {F : List Addr}, ORL Γ S H (rs ++ rs') F → ∃ F1 F2, F = F1 ++ F2 ∧ ORL Γ S H rs F1 ∧ ORL Γ S H rs' F2
  | [], rs', F, h => ⟨[], F, rfl, .nil, h⟩
  | (v, o) :: rs, rs', F, h => by
    cases h with
    | cons r t =>
      obtain ⟨F1, F2, rfl, a, b⟩ := ORL.split t
      exact ⟨_, F2, (List.append_assoc _ _ _).symm, .cons r a, b⟩
theorem ORL.perm {rs rs' : List (V × O)} (p : rs.Perm rs') : ∀ {F : List Addr}, ORL Γ S H rs F → ∃ F', ORL Γ S H rs' F' ∧ F.Perm F' := by
  induction p with
  | nil => exact fun h => ⟨_, h, .refl _⟩
  | cons x _ ih =>
    intro F h
    cases h with
    | cons r t =>
      obtain ⟨F', h', q⟩ := ih t
      exact ⟨_, .cons r h', q.append_left _⟩
  | swap x y l =>
    intro F h
    cases h with
    | cons r t =>
      cases t with
      | cons r2 t2 =>
        refine ⟨_, .cons r2 (.cons r t2), ?_⟩
        rw [← List.append_assoc, ← List.append_assoc]
        exact List.Perm.append_right _ List.perm_append_comm
  | trans _ _ i1 i2 =>
    intro F h
    obtain ⟨F1, h1, p1⟩ := i1 h
    obtain ⟨F2, h2, p2⟩ := i2 h1
    exact ⟨F2, h2, p1.trans p2⟩
end

/-- where a def began: what was shared, the heap, what was owned -/
structure Ent where
  S : Hp
  H : Hp
  F : List Addr
structure Stp (c : Ent) (S H : Hp) (F : List Addr) : Prop where
  shr : ∀ a o, c.S a = some o → S a = some o
  frm : ∀ a o, c.H a = some o → NoT o → a ∉ c.F → H a = some o
  dom : ∀ a, H a = none → c.H a = none
  own : ∀ a ∈ F, a ∈ c.F ∨ c.H a = none
  sgr : ∀ a, S a ≠ none → c.S a ≠ none ∨ a ∈ c.F ∨ c.H a = none
/-- the resources R are held, from c on; besides the bare cells L -/
def RSL (Γ : Gb) (c : Ent) (R : List (V × O)) (L : List Addr) (H : Hp) : Prop :=
  ∃ S F, Stp c S H (F ++ L) ∧ ORL Γ S H R F ∧ (F ++ L).Nodup ∧ (∀ a ∈ F ++ L, S a = none) ∧ Sub S H ∧ ∀ a ∈ L, ∃ u, H a = some u ∧ NoT u
def RS (Γ : Gb) (c : Ent) (R : List (V × O)) (H : Hp) : Prop := RSL Γ c R [] H

theorem ORL.mem {Γ : Gb} {H : Hp} {S : Hp} : ∀ {R : List (V × O)} {F : List Addr}, ORL Γ S H R F → ∀ {p : V × O}, p ∈ R → ∃ G, OR Γ S H p.1 p.2 G ∧ ∀ a ∈ G, a ∈ F
  | _, _, .nil, p, m => by cases m
  | _, _, .cons r t, p, m => by
    rcases List.mem_cons.mp m with rfl | m
    · exact ⟨_, r, fun a z => by simp [z]⟩
    · obtain ⟨G, x, y⟩ := ORL.mem t m
      exact ⟨G, x, fun a z => by simp [y a z]⟩

theorem Stp.mem {c : Ent} {S H : Hp} {F G : List Addr} (h : Stp c S H F) (k : ∀ a ∈ G, a ∈ F) : Stp c S H G := ⟨h.shr, h.frm, h.dom, fun a m => h.own a (k a m), h.sgr⟩
theorem OR.ext {Γ : Gb} {S H H' : Hp} {v : V} {o : O} {F : List Addr} (r : OR Γ S H v o F) (k : ∀ a ∈ F, ∀ o, H a = some o → H' a = some o) : OR Γ S H' v o F := r.mono (fun _ _ e => e) k
theorem ORL.ext {Γ : Gb} {S H H' : Hp} {R : List (V × O)} {F : List Addr} (r : ORL Γ S H R F) (k : ∀ a ∈ F, ∀ o, H a = some o → H' a = some o) : ORL Γ S H' R F := r.mono (fun _ _ e => e) k

section
variable {Γ : Gb} {c : Ent} {R R' : List (V × O)} {L : List Addr} {H : Hp} {v : V} {o : O} {d : D}
theorem RSL.perm (h : RSL Γ c R L H) (p : R.Perm R') : RSL Γ c R' L H := by
  obtain ⟨S, F, st, r, nd, dj, sb, lc⟩ := h
  obtain ⟨F', r', q⟩ := r.perm p
  have q' : (F ++ L).Perm (F' ++ L) := q.append_right L
  exact ⟨S, F', st.mem fun a m => q'.mem_iff.mpr m, r', q'.nodup_iff.mp nd, fun a m => dj a (q'.mem_iff.mpr m), sb, lc⟩
theorem RS.perm (h : RS Γ c R H) (p : R.Perm R') : RS Γ c R' H := RSL.perm h p
theorem RS.dropL (h : RS Γ c (R ++ R') H) : RS Γ c R' H := by
  obtain ⟨S, F, st, r, nd, dj, sb, lc⟩ := h
  obtain ⟨F1, F2, rfl, _, r2⟩ := r.split
  have k : ∀ a, a ∈ F2 ++ [] → a ∈ (F1 ++ F2) ++ [] := fun a m => by simp at m ⊢; exact .inr m
  exact ⟨S, F2, st.mem k, r2, by simp at nd ⊢; exact (List.nodup_append.mp nd).2.1, fun a m => dj a (k a m), sb, lc⟩
theorem RS.drop (h : RS Γ c ((v, o) :: R) H) : RS Γ c R H := RS.dropL (R := [(v, o)]) h
theorem RS.dropR (h : RS Γ c (R ++ R') H) : RS Γ c R H := RS.dropL (h.perm List.perm_append_comm)
/-- plain data that stands in each shared heap -/
theorem RS.pure (h : RS Γ c R H) (r : ∀ S, Rep Γ S v d) : RS Γ c ((v, .sh d) :: R) H := by
  obtain ⟨S, F, st, q, nd, dj, sb, lc⟩ := h
  exact ⟨S, F, st, .cons (F := []) (.sh (r S)) q, nd, dj, sb, lc⟩
/-- what is held may be read -/
theorem RepL.orl {S H : Hp} : ∀ {xs : List V} {ds : List D}, RepL Γ S xs ds → ORL Γ S H (xs.zip (ds.map O.sh)) []
  | _, _, .nil => .nil
  | _, _, .cons r t => .cons (F := []) (G := []) (.sh r) (RepL.orl t)
theorem RS.readS (h : RS Γ c R H) : ∃ S, Sub S H ∧ (∀ p ∈ R, ∃ F, OR Γ S H p.1 p.2 F) ∧ (∀ w e, Rep Γ S w e → RS Γ c ((w, .sh e) :: R) H) ∧ ∀ xs ds, RepL Γ S xs ds → RS Γ c (xs.zip (ds.map O.sh) ++ R) H := by
  obtain ⟨S, F, st, q, nd, dj, sb, lc⟩ := h
  refine ⟨S, sb, fun p m => ?_, fun w e r => ⟨S, F, st, .cons (F := []) (.sh r) q, nd, dj, sb, lc⟩, fun xs ds r => ⟨S, F, st, r.orl.append q, nd, dj, sb, lc⟩⟩
  obtain ⟨G, x, _⟩ := q.mem m
  exact ⟨G, x⟩
/-- what is shared may be had again -/
theorem RS.dup (h : RS Γ c R H) (m : (v, O.sh d) ∈ R) : RS Γ c ((v, .sh d) :: R) H := by
  obtain ⟨S, sb, rd, ad, _⟩ := h.readS
  obtain ⟨F, x⟩ := rd _ m
  cases x with
  | sh r => exact ad _ _ r
theorem sub_free {S : Hp} (sb : Sub S H) {p : Addr} (hp : H p = none) : S p = none := by
  cases e : S p with
  | none => rfl
  | some o =>
    have z := (sb p o e).1
    rw [hp] at z
    cases z
/-- a new cell -/
theorem RS.new (h : RS Γ c R H) {p : Addr} (hp : H p = none) {u : HO} (hu : NoT u) : RSL Γ c R [p] (upd H p u) := by
  obtain ⟨S, F, st, q, nd, dj, sb, lc⟩ := h
  rw [List.append_nil] at st nd dj
  have nF : ∀ a ∈ F, a ≠ p := fun a m e => by
    obtain ⟨u, hu, _⟩ := q.dom a m
    rw [e, hp] at hu
    cases hu
  have nS : S p = none := sub_free sb hp
  have keep : ∀ a o, H a = some o → upd H p u a = some o := fun a o e => by
    rw [upd_ne (ne_of_none e hp)]
    exact e
  refine ⟨S, F, ⟨st.shr, fun a o e n m => keep a o (st.frm a o e n m), fun a e => ?_, fun a m => ?_, st.sgr⟩, q.ext fun a m o e => keep a o e, ?_, fun a m => ?_, fun a o e => ⟨keep a o (sb a o e).1, (sb a o e).2⟩, fun a m => ?_⟩
  · by_cases ha : a = p
    · rw [ha, upd_same] at e
      cases e
    · rw [upd_ne ha] at e
      exact st.dom a e
  · rcases List.mem_append.mp m with m | m
    · exact st.own a m
    · rw [List.mem_singleton.mp m]
      exact .inr (st.dom p hp)
  · exact List.nodup_append.mpr ⟨nd, by simp, fun a m b m' => by rw [List.mem_singleton.mp m']; exact nF a m⟩
  · rcases List.mem_append.mp m with m | m
    · exact dj a m
    · rw [List.mem_singleton.mp m]
      exact nS
  · rw [List.mem_singleton.mp m]
    exact ⟨u, upd_same, hu⟩
/-- an owned object is opened: its cell alone, what it holds besides -/
theorem RSL.put {a : Addr} (h : RSL Γ c R [a] H) {u : HO} (hu : NoT u) : RSL Γ c R [a] (upd H a u) := by
  obtain ⟨S, F, st, q, nd, dj, sb, lc⟩ := h
  have nS : S a = none := dj a (by simp)
  have nF : ∀ b ∈ F, b ≠ a := fun b m e => (List.nodup_append.mp nd).2.2 b m a (by simp) e
  have keep : ∀ b o, b ≠ a → H b = some o → upd H a u b = some o := fun b o n e => by
    rw [upd_ne n]
    exact e
  refine ⟨S, F, ⟨st.shr, fun b o e n m => keep b o (fun z => ?_) (st.frm b o e n m), fun b e => ?_, st.own, st.sgr⟩, q.ext fun b m o e => keep b o (nF b m) e, nd, dj, fun b o e => ⟨keep b o (fun z => ?_) (sb b o e).1, (sb b o e).2⟩, fun b m => ?_⟩
  · rcases st.own a (by simp) with w | w
    · exact m (z ▸ w)
    · rw [z, w] at e
      cases e
  · by_cases hb : b = a
    · rw [hb, upd_same] at e
      cases e
    · rw [upd_ne hb] at e
      exact st.dom b e
  · rw [z, nS] at e
    cases e
  · rw [List.mem_singleton.mp m]
    exact ⟨u, upd_same, hu⟩
theorem RSL.close {a : Addr} {rs : List (V × O)} (h : RSL Γ c (rs ++ R) [a] H) (k : ∀ (S : Hp) (F : List Addr), ORL Γ S H rs F → OR Γ S H (.ref a) o (a :: F)) : RS Γ c ((.ref a, o) :: R) H := by
  obtain ⟨S, F, st, q, nd, dj, sb, lc⟩ := h
  obtain ⟨F1, F2, rfl, r1, r2⟩ := q.split
  have p : ((F1 ++ F2) ++ [a]).Perm (((a :: F1) ++ F2) ++ []) := by
    rw [List.append_nil]
    exact List.perm_append_comm
  exact ⟨S, (a :: F1) ++ F2, st.mem fun b m => p.mem_iff.mpr m, .cons (k S F1 r1) r2, p.nodup_iff.mp nd, fun b m => dj b (p.mem_iff.mpr m), sb, fun b m => by cases m⟩
theorem RS.opens (h : RS Γ c ((v, o) :: R) H) {a : Addr} {P : List (V × O) → Prop} (k : ∀ (S : Hp) (F : List Addr), OR Γ S H v o F → ∃ rs F', F = a :: F' ∧ ORL Γ S H rs F' ∧ P rs ∧ ∃ u, H a = some u ∧ NoT u) : ∃ rs, P rs ∧ RSL Γ c (rs ++ R) [a] H := by
  obtain ⟨S, F, st, q, nd, dj, sb, lc⟩ := h
  cases q with
  | cons r t =>
    rename_i F1 F2
    obtain ⟨rs, F', rfl, r', pr, hu⟩ := k S F1 r
    have p : (((a :: F') ++ F2) ++ []).Perm ((F' ++ F2) ++ [a]) := by
      rw [List.append_nil]
      exact List.perm_append_comm (l₁ := [a])
    exact ⟨rs, pr, S, F' ++ F2, st.mem fun b m => p.mem_iff.mpr m, r'.append t, p.nodup_iff.mp nd, fun b m => dj b (p.mem_iff.mpr m), sb, fun b m => by rw [List.mem_singleton.mp m]; exact hu⟩
end

/-! ### lists, tuples, dicts: made, opened, closed -/
section
variable {Γ : Gb} {c : Ent} {R : List (V × O)} {H : Hp} {v : V} {o : O}
theorem noT_lst {xs : List V} : NoT (.lst xs) := fun _ z => by cases z
theorem noT_tup {xs : List V} : NoT (.tup xs) := fun _ z => by cases z
theorem noT_dK {kvs : List (Key × V)} : NoT (.dK kvs) := fun _ z => by cases z
theorem RSL.closeL {a : Addr} {rs : List (V × O)} (h : RSL Γ c (rs ++ R) [a] H) (ha : H a = some (.lst (rs.map Prod.fst))) : RS Γ c ((.ref a, .lst (rs.map Prod.snd)) :: R) H :=
  h.close fun _ _ q => .lst ha q rfl
theorem RSL.closeT {a : Addr} {rs : List (V × O)} (h : RSL Γ c (rs ++ R) [a] H) (ha : H a = some (.tup (rs.map Prod.fst))) : RS Γ c ((.ref a, .tup (rs.map Prod.snd)) :: R) H :=
  h.close fun _ _ q => .tup ha q rfl
theorem noT_ins {C dx : Addr} {fs : List (Str × V)} : NoT (.ins C dx fs) := fun _ z => by cases z
theorem RSL.closeO {a dx : Addr} {n : Nat} {rs : List (V × O)} {vs : List (Str × V)} {fs : List (Str × O)} (h : RSL Γ c (rs ++ R) [a] H) (ha : H a = some (.ins (Γ.cls n) dx vs)) (e1 : fs.map Prod.fst = vs.map Prod.fst) (e2 : vs.map Prod.snd = rs.map Prod.fst)
    (e3 : fs.map Prod.snd = rs.map Prod.snd) : RS Γ c ((.ref a, .obj n fs) :: R) H := h.close fun _ _ q => .obj ha e1 e2 e3 q
theorem RSL.closeD {a : Addr} {rs : List (V × O)} {kvs : List (Key × V)} {dkvs : List (D × O)} (h : RSL Γ c (rs ++ R) [a] H) (ha : H a = some (.dK kvs)) (e1 : dkvs.map Prod.fst = kvs.map (fun p => kD p.1)) (e2 : kvs.map Prod.snd = rs.map Prod.fst)
    (e3 : dkvs.map Prod.snd = rs.map Prod.snd) : RS Γ c ((.ref a, .dic dkvs) :: R) H := h.close fun _ _ q => .dic ha e1 e2 e3 q
theorem RS.newL {rs : List (V × O)} (h : RS Γ c (rs ++ R) H) {p : Addr} (hp : H p = none) : RS Γ c ((.ref p, .lst (rs.map Prod.snd)) :: R) (upd H p (.lst (rs.map Prod.fst))) :=
  (h.new hp noT_lst).closeL upd_same
theorem RS.newT {rs : List (V × O)} (h : RS Γ c (rs ++ R) H) {p : Addr} (hp : H p = none) : RS Γ c ((.ref p, .tup (rs.map Prod.snd)) :: R) (upd H p (.tup (rs.map Prod.fst))) :=
  (h.new hp noT_tup).closeT upd_same
theorem RS.newD {rs : List (V × O)} {kvs : List (Key × V)} {dkvs : List (D × O)} (h : RS Γ c (rs ++ R) H) {p : Addr} (hp : H p = none) (e1 : dkvs.map Prod.fst = kvs.map (fun p => kD p.1)) (e2 : kvs.map Prod.snd = rs.map Prod.fst)
    (e3 : dkvs.map Prod.snd = rs.map Prod.snd) : RS Γ c ((.ref p, .dic dkvs) :: R) (upd H p (.dK kvs)) := (h.new hp noT_dK).closeD upd_same e1 e2 e3
theorem RS.openL {os : List O} (h : RS Γ c ((v, .lst os) :: R) H) : ∃ a rs, v = .ref a ∧ os = rs.map Prod.snd ∧ H a = some (.lst (rs.map Prod.fst)) ∧ RSL Γ c (rs ++ R) [a] H := by
  obtain ⟨S, sb, rd, _⟩ := h.readS
  obtain ⟨F, x⟩ := rd _ List.mem_cons_self
  cases x with
  | @lst a _ _ _ ha hl e =>
    obtain ⟨rs, ⟨p1, p2⟩, q⟩ := h.opens (a := a) (P := fun rs => os = rs.map Prod.snd ∧ H a = some (.lst (rs.map Prod.fst))) fun S F x => by
      cases x with
      | lst ha hl e => exact ⟨_, _, rfl, hl, ⟨e, ha⟩, _, ha, noT_lst⟩
    exact ⟨a, rs, rfl, p1, p2, q⟩
theorem RS.openT {os : List O} (h : RS Γ c ((v, .tup os) :: R) H) : ∃ a rs, v = .ref a ∧ os = rs.map Prod.snd ∧ H a = some (.tup (rs.map Prod.fst)) ∧ RSL Γ c (rs ++ R) [a] H := by
  obtain ⟨S, sb, rd, _⟩ := h.readS
  obtain ⟨F, x⟩ := rd _ List.mem_cons_self
  cases x with
  | @tup a _ _ _ ha hl e =>
    obtain ⟨rs, ⟨p1, p2⟩, q⟩ := h.opens (a := a) (P := fun rs => os = rs.map Prod.snd ∧ H a = some (.tup (rs.map Prod.fst))) fun S F x => by
      cases x with
      | tup ha hl e => exact ⟨_, _, rfl, hl, ⟨e, ha⟩, _, ha, noT_tup⟩
    exact ⟨a, rs, rfl, p1, p2, q⟩
theorem RS.openD {dkvs : List (D × O)} (h : RS Γ c ((v, .dic dkvs) :: R) H) : ∃ a rs kvs, v = .ref a ∧ H a = some (.dK kvs) ∧ dkvs.map Prod.fst = kvs.map (fun p => kD p.1) ∧ kvs.map Prod.snd = rs.map Prod.fst ∧ dkvs.map Prod.snd = rs.map Prod.snd ∧ RSL Γ c (rs ++ R) [a] H := by
  obtain ⟨S, sb, rd, _⟩ := h.readS
  obtain ⟨F, x⟩ := rd _ List.mem_cons_self
  cases x with
  | @dic a _ _ _ _ ha e1 e2 e3 hl =>
    obtain ⟨rs, ⟨kvs, p1, p2, p3, p4⟩, q⟩ := h.opens (a := a) (P := fun rs => ∃ kvs, H a = some (.dK kvs) ∧ dkvs.map Prod.fst = kvs.map (fun p => kD p.1) ∧ kvs.map Prod.snd = rs.map Prod.fst ∧ dkvs.map Prod.snd = rs.map Prod.snd) fun S F x => by
      cases x with
      | dic ha e1 e2 e3 hl => exact ⟨_, _, rfl, hl, ⟨_, ha, e1, e2, e3⟩, _, ha, noT_dK⟩
    exact ⟨a, rs, kvs, rfl, p1, p2, p3, p4, q⟩
theorem RS.openO {n : Nat} {fs : List (Str × O)} (h : RS Γ c ((v, .obj n fs) :: R) H) : ∃ a dx rs vs, v = .ref a ∧ H a = some (.ins (Γ.cls n) dx vs) ∧ fs.map Prod.fst = vs.map Prod.fst ∧ vs.map Prod.snd = rs.map Prod.fst ∧ fs.map Prod.snd = rs.map Prod.snd ∧ RSL Γ c (rs ++ R) [a] H := by
  obtain ⟨S, sb, rd, _⟩ := h.readS
  obtain ⟨F, x⟩ := rd _ List.mem_cons_self
  cases x with
  | @obj a dx _ _ _ _ _ ha e1 e2 e3 hl =>
    obtain ⟨rs, ⟨dx, vs, p1, p2, p3, p4⟩, q⟩ := h.opens (a := a) (P := fun rs => ∃ dx vs, H a = some (.ins (Γ.cls n) dx vs) ∧ fs.map Prod.fst = vs.map Prod.fst ∧ vs.map Prod.snd = rs.map Prod.fst ∧ fs.map Prod.snd = rs.map Prod.snd) fun S F x => by
      cases x with
      | obj ha e1 e2 e3 hl => exact ⟨_, _, rfl, hl, ⟨_, _, ha, e1, e2, e3⟩, _, ha, noT_ins⟩
    exact ⟨a, dx, rs, vs, rfl, p1, p2, p3, p4, q⟩
/-- bare cells are let go -/
theorem RSL.letgo {a : Addr} (h : RSL Γ c R [a] H) : RS Γ c R H := by
  obtain ⟨S, F, st, q, nd, dj, sb, lc⟩ := h
  have k : ∀ b, b ∈ F ++ [] → b ∈ F ++ [a] := fun b m => by simp at m; simp [m]
  exact ⟨S, F, st.mem k, q, by simp; exact (List.nodup_append.mp nd).1, fun b m => dj b (k b m), sb, fun b m => by cases m⟩
end

/-! ### what was owned is shared from now on -/
mutual
def fz : O → D
  | .sh d => d
  | .lst os => .lst (fzL os)
  | .tup os => .tup (fzL os)
  | .dic kvs => .dic (fzKV kvs)
  | .obj c fs => .obj c (fzFs fs)
def fzL : List O → List D
  | [] => []
  | o :: os => fz o :: fzL os
def fzKV : List (D × O) → List (D × D)
  | [] => []
  | (k, o) :: r => (k, fz o) :: fzKV r
def fzFs : List (Str × O) → List (Str × D)
  | [] => []
  | (k, o) :: r => (k, fz o) :: fzFs r
end
theorem fzFs_map : ∀ kvs : List (Str × O), fzFs kvs = kvs.map fun p => (p.1, fz p.2)
  | [] => rfl
  | (k, o) :: r => by rw [fzFs, fzFs_map r, List.map_cons]
theorem fzL_map : ∀ os : List O, fzL os = os.map fz
  | [] => rfl
  | o :: os => by rw [fzL, fzL_map os, List.map_cons]
theorem fzKV_map : ∀ kvs : List (D × O), fzKV kvs = kvs.map fun p => (p.1, fz p.2)
  | [] => rfl
  | (k, o) :: r => by rw [fzKV, fzKV_map r, List.map_cons]
/-- S with the cells of G as they stand in H -/
def addS (S H : Hp) (G : List Addr) : Hp := fun a => if a ∈ G then H a else S a
section
variable {Γ : Gb} {S H : Hp}
theorem addS_in {G : List Addr} {a : Addr} (m : a ∈ G) : addS S H G a = H a := if_pos m
theorem addS_out {G : List Addr} {a : Addr} (m : a ∉ G) : addS S H G a = S a := if_neg m
mutual
theorem OR.fz {S' : Hp} (h : ∀ a o, S a = some o → S' a = some o) : ∀ {v : V} {o : O} {F : List Addr}, OR Γ S H v o F → (∀ a ∈ F, ∀ o, H a = some o → S' a = some o) → Rep Γ S' v (Den.fz o)
  | _, _, _, .sh r, _ => by rw [Den.fz]; exact r.mono h
  | _, _, _, .lst ha hl e, k => by
    rw [Den.fz, e]
    exact .lst (k _ (by simp) _ ha) (ORL.fz h hl fun a m => k a (by simp [m]))
  | _, _, _, .tup ha hl e, k => by
    rw [Den.fz, e]
    exact .tup (.of (k _ (by simp) _ ha)) (ORL.fz h hl fun a m => k a (by simp [m]))
  | _, _, _, .dic ha e1 e2 e3 hl, k => by
    rw [Den.fz, fzKV_map]
    refine .dic (k _ (by simp) _ ha) ?_ ?_
    · rw [List.map_map]
      exact e1
    · have q := ORL.fz h hl fun a m => k a (by simp [m])
      rw [e2, List.map_map]
      rw [fzL_map, ← e3, List.map_map] at q
      exact q
  | _, _, _, .obj ha e1 e2 e3 hl, k => by
    rw [Den.fz, fzFs_map]
    refine .obj (k _ (by simp) _ ha) ?_ ?_
    · rw [List.map_map]
      exact e1
    · have q := ORL.fz h hl fun a m => k a (by simp [m])
      rw [e2, List.map_map]
      rw [fzL_map, ← e3, List.map_map] at q
      exact q
theorem ORL.fz {S' : Hp} (h : ∀ a o, S a = some o → S' a = some o) : ∀ {rs : List (V × O)} {F : List Addr}, ORL Γ S H rs F → (∀ a ∈ F, ∀ o, H a = some o → S' a = some o) → RepL Γ S' (rs.map Prod.fst) (fzL (rs.map Prod.snd))
  | _, _, .nil, _ => by
    rw [List.map_nil, List.map_nil, fzL]
    exact .nil
  | _, _, .cons r t, k => by
    rw [List.map_cons, List.map_cons, fzL]
    exact .cons (OR.fz h r fun a m => k a (by simp [m])) (ORL.fz h t fun a m => k a (by simp [m]))
end
end
section
variable {Γ : Gb} {c : Ent} {R : List (V × O)} {H : Hp} {v : V} {o : O}
theorem RS.freeze (h : RS Γ c ((v, o) :: R) H) : RS Γ c ((v, .sh (fz o)) :: R) H := by
  obtain ⟨S, F, st, q, nd, dj, sb, lc⟩ := h
  rw [List.append_nil] at st nd dj
  cases q with
  | cons r t =>
    rename_i F1 F2
    have S1 : ∀ a o, S a = some o → addS S H F1 a = some o := fun a u e => by
      by_cases m : a ∈ F1
      · rw [addS_in m]
        exact (sb a u e).1
      · rw [addS_out m]
        exact e
    have nd2 := List.nodup_append.mp nd
    refine ⟨addS S H F1, F2, ⟨fun a u e => S1 a u (st.shr a u e), st.frm, st.dom, fun a m => st.own a (by simp at m; simp [m]), fun a e => ?_⟩, .cons (F := []) (.sh (r.fz S1 fun a m u e => ?_)) (t.mono S1 fun _ _ _ e => e), by simp; exact nd2.2.1, fun a m => ?_, fun a u e => ?_, lc⟩
    · by_cases m : a ∈ F1
      · exact (st.own a (by simp [m])).elim (fun z => .inr (.inl z)) fun z => .inr (.inr z)
      · rw [addS_out m] at e
        exact st.sgr a e
    · rw [addS_in m]
      exact e
    · have m2 : a ∈ F2 := by simpa using m
      rw [addS_out fun z => nd2.2.2 a z a m2 rfl]
      exact dj a (by simp [m2])
    · by_cases m : a ∈ F1
      · rw [addS_in m] at e
        obtain ⟨u', hu, n⟩ := r.dom a m
        rw [e] at hu
        cases hu
        exact ⟨e, n⟩
      · rw [addS_out m] at e
        exact sb a u e
end
/-! ### a call: the caller's own things stand by -/
section
variable {Γ : Gb} {c : Ent} {R1 R2 : List (V × O)} {H : Hp}
theorem RS.enter (h : RS Γ c (R1 ++ R2) H) : ∃ e : Ent, e.H = H ∧ RS Γ e R1 H ∧ ∀ R1' H', RS Γ e R1' H' → RS Γ c (R1' ++ R2) H' := by
  obtain ⟨S, F, st, q, nd, dj, sb, lc⟩ := h
  rw [List.append_nil] at st nd dj
  obtain ⟨F1, F2, rfl, r1, r2⟩ := q.split
  have nd2 := List.nodup_append.mp nd
  refine ⟨⟨S, H, F1⟩, rfl, ⟨S, F1, ⟨fun _ _ e => e, fun _ _ e _ _ => e, fun _ e => e, fun a m => .inl (by simpa using m), fun _ e => .inl e⟩, r1, by simp; exact nd2.1, fun a m => dj a (by simp at m; simp [m]), sb, fun a m => by cases m⟩, fun R1' H' h' => ?_⟩
  obtain ⟨S', F', st', q', nd', dj', sb', lc'⟩ := h'
  rw [List.append_nil] at st' nd' dj'
  have n12 : ∀ a ∈ F2, a ∉ F1 := fun a m z => nd2.2.2 a z a m rfl
  have keep2 : ∀ a ∈ F2, ∀ o, H a = some o → H' a = some o := fun a m o e => by
    obtain ⟨u, hu, n⟩ := r2.dom a m
    rw [e] at hu
    cases hu
    exact st'.frm a o e n (n12 a m)
  have not2 : ∀ a ∈ F', a ∉ F2 := fun a m z => by
    rcases st'.own a m with w | w
    · exact n12 a z w
    · obtain ⟨u, hu, _⟩ := r2.dom a z
      have w' : H a = none := w
      rw [w'] at hu
      cases hu
  have own' : ∀ a, a ∈ F1 ∨ H a = none → a ∈ c.F ∨ c.H a = none := fun a z => z.elim (fun z => st.own a (by simp [z])) fun z => .inr (st.dom a z)
  refine ⟨S', F' ++ F2, ⟨fun a o e => st'.shr a o (st.shr a o e), fun a o e n m => ?_, fun a e => st.dom a (st'.dom a e), fun a m => ?_, fun a e => ?_⟩, q'.append (r2.mono st'.shr keep2), ?_, fun a m => ?_, sb', fun a m => by cases m⟩
  · refine st'.frm a o (st.frm a o e n m) n fun z => ?_
    rcases st.own a (by simp; exact .inl z) with w | w
    · exact m w
    · rw [w] at e
      cases e
  · rcases List.mem_append.mp (by simpa using m) with m | m
    · exact own' a (st'.own a m)
    · exact st.own a (by simp [m])
  · rcases st'.sgr a e with z | z
    · exact st.sgr a z
    · exact .inr (own' a z)
  · rw [List.append_nil]
    exact List.nodup_append.mpr ⟨nd', nd2.2.1, fun a m b m' e => not2 a m (e ▸ m')⟩
  · rcases List.mem_append.mp (by simpa using m) with m | m
    · exact dj' a m
    · cases e : S' a with
      | none => rfl
      | some o =>
        have z : S' a ≠ none := by rw [e]; exact fun z => by cases z
        rcases st'.sgr a z with w | w | w
        · exact (w (dj a (by simp [m]))).elim
        · exact (n12 a m w).elim
        · obtain ⟨u, hu, _⟩ := r2.dom a m
          have w' : H a = none := w
          rw [w'] at hu
          cases hu
end
end Den
end
section
/-! Den, part B: stores, what an expression, a test, arguments, a statement do. -/
namespace Den
open PySem L2
abbrev Store := List (Option O)
inductive SlotsOk : L2.St → Store → Prop
  | nil : SlotsOk [] []
  | skip {x : Option V} {σ : L2.St} {ρ : Store} : SlotsOk σ ρ → SlotsOk (x :: σ) (none :: ρ)
  | keep {v : V} {o : O} {σ : L2.St} {ρ : Store} : SlotsOk σ ρ → SlotsOk (some v :: σ) (some o :: ρ)
def slotsR : L2.St → Store → List (V × O)
  | some v :: σ, some o :: ρ => (v, o) :: slotsR σ ρ
  | _ :: σ, _ :: ρ => slotsR σ ρ
  | _, _ => []
theorem slotsR_skip {x : Option V} {σ : L2.St} {ρ : Store} : slotsR (x :: σ) (none :: ρ) = slotsR σ ρ := by cases x <;> rfl
theorem SlotsOk.len {σ : L2.St} {ρ : Store} (h : SlotsOk σ ρ) : σ.length = ρ.length := by
  induction h with
  | nil => rfl
  | skip _ ih => simp [ih]
  | keep _ ih => simp [ih]
theorem slots_take {σ : L2.St} {ρ : Store} {o : O} (h : SlotsOk σ ρ) : ∀ {i : Nat}, ρ[i]? = some (some o) →
    ∃ v, σ[i]? = some (some v) ∧ SlotsOk σ (ρ.set i none) ∧ (slotsR σ ρ).Perm ((v, o) :: slotsR σ (ρ.set i none)) := by
  induction h with
  | nil => intro i e; simp at e
  | @skip x σ ρ h ih =>
    intro i e
    cases i with
    | zero => simp at e
    | succ i =>
      obtain ⟨v, a, b, c⟩ := ih (i := i) (by simpa using e)
      refine ⟨v, by simpa using a, by simpa using .skip b, ?_⟩
      rw [List.set_cons_succ, slotsR_skip, slotsR_skip]
      exact c
  | @keep w u σ ρ h ih =>
    intro i e
    cases i with
    | zero =>
      simp at e
      subst e
      refine ⟨w, rfl, .skip h, ?_⟩
      rw [List.set_cons_zero, slotsR_skip]
      exact .refl _
    | succ i =>
      obtain ⟨v, a, b, c⟩ := ih (i := i) (by simpa using e)
      refine ⟨v, by simpa using a, by simpa using .keep b, ?_⟩
      rw [List.set_cons_succ]
      show ((w, u) :: slotsR σ ρ).Perm ((v, o) :: (w, u) :: slotsR σ (ρ.set i none))
      exact (c.cons (w, u)).trans (List.Perm.swap _ _ _)
theorem slots_put {σ : L2.St} {ρ : Store} {v : V} {o : O} (h : SlotsOk σ ρ) : ∀ {i : Nat}, i < σ.length →
    SlotsOk (σ.set i (some v)) (ρ.set i (some o)) ∧ ∃ X, ((v, o) :: slotsR σ ρ).Perm (X ++ slotsR (σ.set i (some v)) (ρ.set i (some o))) := by
  induction h with
  | nil => intro i e; simp at e
  | @skip x σ ρ h ih =>
    intro i e
    cases i with
    | zero =>
      refine ⟨.keep h, [], ?_⟩
      rw [slotsR_skip]
      exact .refl _
    | succ i =>
      obtain ⟨a, X, c⟩ := ih (i := i) (by simpa using e)
      refine ⟨.skip a, X, ?_⟩
      rw [List.set_cons_succ, List.set_cons_succ, slotsR_skip, slotsR_skip]
      exact c
  | @keep w u σ ρ h ih =>
    intro i e
    cases i with
    | zero => exact ⟨.keep h, [(w, u)], List.Perm.swap _ _ _⟩
    | succ i =>
      obtain ⟨a, X, c⟩ := ih (i := i) (by simpa using e)
      refine ⟨.keep a, X, ?_⟩
      rw [List.set_cons_succ, List.set_cons_succ]
      show ((v, o) :: (w, u) :: slotsR σ ρ).Perm (X ++ ((w, u) :: slotsR (σ.set i (some v)) (ρ.set i (some o))))
      exact (List.Perm.swap _ _ _).trans ((c.cons (w, u)).trans List.perm_middle.symm)
theorem slots_none {σ : L2.St} {ρ : Store} (h : SlotsOk σ ρ) : ∀ {i : Nat}, SlotsOk σ (ρ.set i none) ∧ ∃ X, (slotsR σ ρ).Perm (X ++ slotsR σ (ρ.set i none)) := by
  induction h with
  | nil => intro i; exact ⟨.nil, [], .refl _⟩
  | @skip x σ ρ h ih =>
    intro i
    cases i with
    | zero => exact ⟨.skip h, [], .refl _⟩
    | succ i =>
      obtain ⟨a, X, c⟩ := ih (i := i)
      refine ⟨.skip a, X, ?_⟩
      rw [List.set_cons_succ, slotsR_skip, slotsR_skip]
      exact c
  | @keep w u σ ρ h ih =>
    intro i
    cases i with
    | zero =>
      refine ⟨.skip h, [(w, u)], ?_⟩
      rw [List.set_cons_zero, slotsR_skip]
      exact .refl _
    | succ i =>
      obtain ⟨a, X, c⟩ := ih (i := i)
      refine ⟨.keep a, X, ?_⟩
      rw [List.set_cons_succ]
      exact (c.cons (w, u)).trans List.perm_middle.symm
theorem slots_mem {σ : L2.St} {ρ : Store} {o : O} {v : V} (h : SlotsOk σ ρ) {i : Nat} (e : ρ[i]? = some (some o)) (s : σ[i]? = some (some v)) : (v, o) ∈ slotsR σ ρ := by
  obtain ⟨w, a, _, p⟩ := slots_take h e
  rw [s] at a
  cases a
  exact p.mem_iff.mpr List.mem_cons_self

/-- a def's frame: what it entered with, its slots then -/
structure Fr where
  c : Ent
  s0 : L2.St
/-- the state of a def's body: the slots hold what ρ says (those that P names are as at the entry), besides the things T -/
structure SR (Γ : Gb) (P : Nat → Bool) (f : Fr) (σ : L2.St) (ρ : Store) (T : List (V × O)) (H : Hp) : Prop where
  ok : SlotsOk σ ρ
  fix : ∀ j, P j = true → σ[j]? = f.s0[j]?
  rs : RS Γ f.c (slotsR σ ρ ++ T) H
section
variable {Γ : Gb} {P : Nat → Bool} {f : Fr} {σ : L2.St} {ρ : Store} {T T' : List (V × O)} {H : Hp} {v : V} {o : O} {i : Nat}
theorem SR.mapT (h : SR Γ P f σ ρ T H) {H' : Hp} (k : ∀ R, RS Γ f.c (T ++ R) H → RS Γ f.c (T' ++ R) H') : SR Γ P f σ ρ T' H' :=
  ⟨h.ok, h.fix, (k _ (h.rs.perm List.perm_append_comm)).perm List.perm_append_comm⟩
theorem SR.drop (h : SR Γ P f σ ρ ((v, o) :: T) H) : SR Γ P f σ ρ T H := h.mapT fun _ q => q.drop
theorem SR.dropL (h : SR Γ P f σ ρ (T' ++ T) H) : SR Γ P f σ ρ T H := h.mapT fun R q => by
  rw [List.append_assoc] at q
  exact q.dropL
theorem SR.permT (h : SR Γ P f σ ρ T H) (p : T.Perm T') : SR Γ P f σ ρ T' H := ⟨h.ok, h.fix, h.rs.perm (p.append_left _)⟩
theorem SR.fz (h : SR Γ P f σ ρ ((v, o) :: T) H) : SR Γ P f σ ρ ((v, .sh (Den.fz o)) :: T) H := h.mapT fun _ q => q.freeze
theorem SR.pure {d : D} (h : SR Γ P f σ ρ T H) (r : ∀ S, Rep Γ S v d) : SR Γ P f σ ρ ((v, .sh d) :: T) H := h.mapT fun _ q => q.pure r
/-- a slot's thing is taken out -/
theorem SR.take (h : SR Γ P f σ ρ T H) (e : ρ[i]? = some (some o)) : ∃ v, σ[i]? = some (some v) ∧ SR Γ P f σ (ρ.set i none) ((v, o) :: T) H := by
  obtain ⟨v, a, b, p⟩ := slots_take h.ok e
  exact ⟨v, a, b, h.fix, h.rs.perm ((p.append_right T).trans List.perm_middle.symm)⟩
/-- a thing is put into a slot -/
theorem SR.set (h : SR Γ P f σ ρ ((v, o) :: T) H) (hi : i < σ.length) (hp : P i = false) : SR Γ P f (σ.set i (some v)) (ρ.set i (some o)) T H := by
  obtain ⟨a, X, p⟩ := slots_put (v := v) (o := o) h.ok hi
  refine ⟨a, fun j hj => ?_, ?_⟩
  · rw [List.getElem?_set_ne (fun z => by rw [z, hj] at hp; cases hp)]
    exact h.fix j hj
  · have q : (slotsR σ ρ ++ (v, o) :: T).Perm (X ++ (slotsR (σ.set i (some v)) (ρ.set i (some o)) ++ T)) := List.perm_middle.trans ((p.append_right T).trans (by rw [List.append_assoc]))
    exact (h.rs.perm q).dropL
/-- a thing is put back into its slot -/
theorem SR.back (h : SR Γ P f σ ρ ((v, o) :: T) H) (hs : σ[i]? = some (some v)) : SR Γ P f σ (ρ.set i (some o)) T H := by
  have hi : i < σ.length := (List.getElem?_eq_some_iff.mp hs).1
  have e : σ.set i (some v) = σ := by
    have z := List.getElem?_eq_some_iff.mp hs
    rw [← z.2]
    exact List.set_getElem_self _
  obtain ⟨a, X, p⟩ := slots_put (v := v) (o := o) h.ok hi
  rw [e] at a p
  refine ⟨a, h.fix, ?_⟩
  have q : (slotsR σ ρ ++ (v, o) :: T).Perm (X ++ (slotsR σ (ρ.set i (some o)) ++ T)) := List.perm_middle.trans ((p.append_right T).trans (by rw [List.append_assoc]))
  exact (h.rs.perm q).dropL
theorem SR.clear (h : SR Γ P f σ ρ T H) : SR Γ P f σ (ρ.set i none) T H := by
  obtain ⟨a, X, p⟩ := slots_none (i := i) h.ok
  refine ⟨a, h.fix, ?_⟩
  have q : (slotsR σ ρ ++ T).Perm (X ++ (slotsR σ (ρ.set i none) ++ T)) := (p.append_right T).trans (by rw [List.append_assoc])
  exact (h.rs.perm q).dropL
theorem SR.lenS (h : SR Γ P f σ ρ T H) : σ.length = ρ.length := h.ok.len
end

/-! ### outcomes -/
inductive Xc where
  | own (n : Nat) | ty (s : String)
def Xc.val (Γ : Gb) : Xc → Value
  | .own n => .ref (Γ.cls n)
  | .ty s => .type s
structure Xn where
  cls : Xc
  fs : Option (List (Str × D))
inductive Res (α : Type) where
  | ok (a : α) (ρ : Store) | exc (x : Xn) (ρ : Store) | stuck
def Res.bind {α β : Type} : Res α → (α → Store → Res β) → Res β
  | .ok a ρ, g => g a ρ
  | .exc x ρ, _ => .exc x ρ
  | .stuck, _ => .stuck
abbrev aE := Store → Res O
abbrev aT := Store → Res Bool
def XR (Γ : Gb) (P : Nat → Bool) (f : Fr) (σ : L2.St) (ρ : Store) (T : List (V × O)) (x : Xn) (cls : Value) (d : Option Addr) (H : Hp) : Prop :=
  cls = x.cls.val Γ ∧ match x.fs with
    | none => d = none ∧ SR Γ P f σ ρ T H
    | some fs => ∃ dd, d = some dd ∧ SR Γ P f σ ρ ((.ref dd, .sh (.xd fs)) :: T) H
section
variable {Γ : Gb} {P : Nat → Bool} {f : Fr} {σ : L2.St} {ρ : Store} {T T' : List (V × O)} {H : Hp} {v : V} {o : O} {i : Nat} {x : Xn} {cls : Value} {d : Option Addr}
theorem XR.drop (h : XR Γ P f σ ρ ((v, o) :: T) x cls d H) : XR Γ P f σ ρ T x cls d H := by
  obtain ⟨e, h⟩ := h
  refine ⟨e, ?_⟩
  obtain ⟨c, fs⟩ := x
  cases fs with
  | none => exact ⟨h.1, h.2.drop⟩
  | some fs =>
    obtain ⟨dd, a, b⟩ := h
    exact ⟨dd, a, (b.permT (List.Perm.swap _ _ _)).drop⟩
theorem XR.dropL (h : XR Γ P f σ ρ (T' ++ T) x cls d H) : XR Γ P f σ ρ T x cls d H := by
  induction T' with
  | nil => exact h
  | cons p T' ih => exact ih (XR.drop (v := p.1) (o := p.2) h)
end
def Good {α : Type} (Γ : Gb) (P : Nat → Bool) (W : WX) (f : Fr) (σ : L2.St) (T : List (V × O)) (k : α → Store → Prop) : Res α → Prop
  | .ok a ρ => k a ρ
  | .exc x ρ => ∀ cls d H, XR Γ P f σ ρ T x cls d H → W cls d σ H
  | .stuck => False
section
variable {α β : Type} {Γ : Gb} {P : Nat → Bool} {W : WX} {f : Fr} {σ : L2.St} {T T' : List (V × O)} {k k' : α → Store → Prop} {r : Res α}
theorem Good.imp (h : Good Γ P W f σ T k r) (q : ∀ a ρ, k a ρ → k' a ρ) : Good Γ P W f σ T k' r := by
  cases r with
  | ok a ρ => exact q _ _ h
  | exc x ρ => exact h
  | stuck => exact h
theorem Good.bind {g : α → Store → Res β} {k : β → Store → Prop} (h : Good Γ P W f σ T k (r.bind g)) : Good Γ P W f σ T (fun a ρ => Good Γ P W f σ T k (g a ρ)) r := by
  cases r with
  | ok a ρ => exact h
  | exc x ρ => exact h
  | stuck => exact h
theorem Good.more (h : Good Γ P W f σ T k r) : Good Γ P W f σ (T' ++ T) k r := by
  cases r with
  | ok a ρ => exact h
  | exc x ρ => exact fun cls d H q => h cls d H q.dropL
  | stuck => exact h
end
/-! ### what a reading is worth -/
def Sx (Γ : Gb) (P : Nat → Bool) (W : WX) (te : TE) (g : aE) : Prop := ∀ f σ ρ T H Q, SR Γ P f σ ρ T H →
  Good Γ P W f σ T (fun o ρ' => ∀ v H', SR Γ P f σ ρ' ((v, o) :: T) H' → Q v H') (g ρ) → te σ H Q
def Sxt (Γ : Gb) (P : Nat → Bool) (W : WX) (tt : TT) (g : aT) : Prop := ∀ f σ ρ T H Q, SR Γ P f σ ρ T H →
  Good Γ P W f σ T (fun b ρ' => ∀ H', SR Γ P f σ ρ' T H' → Q b H') (g ρ) → tt σ H Q
inductive Od where
  | pl (i : Nat) | ex (g : aE)
inductive Rv where
  | o (o : O) | p (i : Nat)
def evA : List Od → Store → Res (List Rv)
  | [], ρ => .ok [] ρ
  | .pl i :: r, ρ => match ρ[i]? with
    | some (some _) => (evA r ρ).bind fun rs ρ' => .ok (.p i :: rs) ρ'
    | _ => .stuck
  | .ex g :: r, ρ => (g ρ).bind fun o ρ1 => (evA r ρ1).bind fun rs ρ2 => .ok (.o o :: rs) ρ2
inductive Mt (σ : L2.St) : List (V × O) → List V → List Rv → Prop
  | nil : Mt σ [] [] []
  | ex {v : V} {o : O} {T : List (V × O)} {vs : List V} {rs : List Rv} : Mt σ T vs rs → Mt σ (T ++ [(v, o)]) (v :: vs) (.o o :: rs)
  | pl {v : V} {i : Nat} {T : List (V × O)} {vs : List V} {rs : List Rv} : σ[i]? = some (some v) → Mt σ T vs rs → Mt σ T (v :: vs) (.p i :: rs)
def Sa (Γ : Gb) (P : Nat → Bool) (W : WX) (ta : TA) (ods : List Od) : Prop := ∀ f σ ρ T H R, SR Γ P f σ ρ T H →
  Good Γ P W f σ T (fun rs ρ' => ∀ vs T' H', Mt σ T' vs rs → SR Γ P f σ ρ' (T' ++ T) H' → R vs H') (evA ods ρ) → ta σ H R
section
variable {Γ : Gb} {P : Nat → Bool} {W : WX} {te : TE} {ta : TA} {g : aE} {ods : List Od} {i : Nat}
theorem sa_nil : Sa Γ P W tNil [] := fun f σ ρ T H R h k => k [] [] H .nil h
theorem sa_ex (h1 : Sx Γ P W te g) (h2 : Sa Γ P W ta ods) : Sa Γ P W (tCons te ta) (.ex g :: ods) := fun f σ ρ T H R h k => by
  have k1 : Good Γ P W f σ T _ (g ρ) := Good.bind k
  refine h1 f σ ρ T H _ h (k1.imp fun o ρ1 k2 v H1 s1 => ?_)
  have k3 := (Good.bind k2).more (T' := [(v, o)])
  refine h2 f σ ρ1 ((v, o) :: T) H1 _ s1 (k3.imp fun rs ρ2 k4 vs T' H2 m s2 => ?_)
  refine k4 (v :: vs) (T' ++ [(v, o)]) H2 (.ex m) ?_
  rw [List.append_assoc]
  exact s2
theorem sa_pl (h2 : Sa Γ P W ta ods) : Sa Γ P W (tCons (tVar i) ta) (.pl i :: ods) := fun f σ ρ T H R h k => by
  unfold evA at k
  split at k
  · rename_i o e
    obtain ⟨v, hv, _⟩ := h.take e
    refine ⟨v, hv, h2 f σ ρ T H _ h ((Good.bind k).imp fun rs ρ2 k4 vs T' H2 m s2 => ?_)⟩
    exact k4 (v :: vs) T' H2 (.pl hv m) s2
  · exact k.elim
end
def rsv (ρ : Store) : List Rv → Option (List O)
  | [] => some []
  | .o o :: r => (rsv ρ r).map (o :: ·)
  | .p i :: r => match ρ[i]? with
    | some (some o) => (rsv ρ r).map (o :: ·)
    | _ => none
theorem rsv_ok {Γ : Gb} {P : Nat → Bool} {f : Fr} {σ : L2.St} {ρ : Store} {H : Hp} {T' : List (V × O)} {vs : List V} {rs : List Rv} (m : Mt σ T' vs rs) : ∀ {T : List (V × O)} {os : List O}, SR Γ P f σ ρ (T' ++ T) H → rsv ρ rs = some os →
    ∃ ps : List (V × O), ps.map Prod.fst = vs ∧ ps.map Prod.snd = os ∧ ∀ p ∈ ps, p ∈ slotsR σ ρ ++ (T' ++ T) := by
  induction m with
  | nil =>
    intro T os h e
    cases e
    exact ⟨[], rfl, rfl, fun p m => by cases m⟩
  | @ex v o T1 vs rs m ih =>
    intro T os h e
    simp only [rsv, Option.map_eq_some_iff] at e
    obtain ⟨os', e, rfl⟩ := e
    rw [List.append_assoc] at h
    obtain ⟨ps, a, b, c⟩ := ih h e
    refine ⟨(v, o) :: ps, by simp [a], by simp [b], fun p hp => ?_⟩
    rcases List.mem_cons.mp hp with rfl | hp
    · simp
    · rw [List.append_assoc]
      exact c p hp
  | @pl v i T1 vs rs hv m ih =>
    intro T os h e
    unfold rsv at e
    split at e
    · rename_i o eo
      simp only [Option.map_eq_some_iff] at e
      obtain ⟨os', e, rfl⟩ := e
      obtain ⟨ps, a, b, c⟩ := ih h e
      refine ⟨(v, o) :: ps, by simp [a], by simp [b], fun p hp => ?_⟩
      rcases List.mem_cons.mp hp with rfl | hp
      · exact List.mem_append_left _ (slots_mem h.ok eo hv)
      · exact c p hp
    · cases e
/-- an operation upon values that are held: what it gives is held besides -/
def OpOk (Γ : Gb) (r : List V → Hp → VK → Prop) (g : List O → Option O) : Prop := ∀ c R H (ps : List (V × O)) o Q, RS Γ c R H → (∀ p ∈ ps, p ∈ R) → g (ps.map Prod.snd) = some o →
  (∀ v H', RS Γ c ((v, o) :: R) H' → Q v H') → r (ps.map Prod.fst) H Q
def aOp (ods : List Od) (g : List O → Option O) : aE := fun ρ => (evA ods ρ).bind fun rs ρ' => match rsv ρ' rs with
  | some os => match g os with
    | some o => .ok o ρ'
    | none => .stuck
  | none => .stuck
theorem sx_op {Γ : Gb} {P : Nat → Bool} {W : WX} {ta : TA} {ods : List Od} {r : List V → Hp → VK → Prop} {g : List O → Option O} (ha : Sa Γ P W ta ods) (hr : OpOk Γ r g) :
    Sx Γ P W (fun σ H Q => ta σ H fun vs H1 => r vs H1 Q) (aOp ods g) := fun f σ ρ T H Q h k => by
  refine ha f σ ρ T H _ h ((Good.bind k).imp fun rs ρ' k vs T' H' m s => ?_)
  split at k
  · rename_i os eo
    split at k
    · rename_i o eg
      obtain ⟨ps, rfl, rfl, mem⟩ := rsv_ok m s eo
      refine hr f.c _ H' ps o Q s.rs mem eg fun v H2 q => k v H2 ?_
      have z : SR Γ P f σ ρ' ((v, o) :: (T' ++ T)) H2 := ⟨s.ok, s.fix, q.perm List.perm_middle.symm⟩
      exact (z.permT (T' := T' ++ (v, o) :: T) List.perm_middle.symm).dropL
    · exact k.elim
  · exact k.elim
end Den
end
section
/-! Den, part C: what values are told by, operations upon values. -/
namespace Den
open PySem L2
section
variable {Γ : Gb} {S H : Hp}
theorem RepL.len : ∀ {xs : List V} {ds : List D}, RepL Γ S xs ds → xs.length = ds.length
  | _, _, .nil => rfl
  | _, _, .cons _ t => by simp [RepL.len t]
theorem RepL.append : ∀ {xs ys : List V} {ds es : List D}, RepL Γ S xs ds → RepL Γ S ys es → RepL Γ S (xs ++ ys) (ds ++ es)
  | _, _, _, _, .nil, s => s
  | _, _, _, _, .cons r t, s => .cons r (RepL.append t s)
theorem RepL.drop : ∀ {xs : List V} {ds : List D} (n : Nat), RepL Γ S xs ds → RepL Γ S (xs.drop n) (ds.drop n)
  | _, _, 0, r => r
  | _, _, _ + 1, .nil => .nil
  | _, _, n + 1, .cons _ t => RepL.drop n t
theorem RepL.take : ∀ {xs : List V} {ds : List D} (n : Nat), RepL Γ S xs ds → RepL Γ S (xs.take n) (ds.take n)
  | _, _, 0, _ => .nil
  | _, _, _ + 1, .nil => .nil
  | _, _, n + 1, .cons r t => .cons r (RepL.take n t)
theorem RepL.get : ∀ {xs : List V} {ds : List D} {i : Nat} {d : D}, RepL Γ S xs ds → ds[i]? = some d → ∃ v, xs[i]? = some v ∧ Rep Γ S v d
  | _, _, _, _, .nil, e => by simp at e
  | _, _, 0, _, .cons r _, e => by
    simp at e
    subst e
    exact ⟨_, rfl, r⟩
  | _, _, i + 1, _, .cons _ t, e => by
    obtain ⟨v, a, b⟩ := RepL.get t (i := i) (by simpa using e)
    exact ⟨v, by simpa using a, b⟩
theorem RepL.ints : ∀ {xs : List V} {ns : List Int}, RepL Γ S xs (ns.map D.int) → xs = ns.map V.int
  | xs, [], h => by cases h; rfl
  | xs, n :: ns, h => by
    cases h with
    | cons r t =>
      cases r
      rw [List.map_cons, RepL.ints t]
theorem RepL.strs : ∀ {xs : List V} {ns : List Str}, RepL Γ S xs (ns.map D.str) → xs = ns.map V.str
  | xs, [], h => by cases h; rfl
  | xs, n :: ns, h => by
    cases h with
    | cons r t =>
      cases r
      rw [List.map_cons, RepL.strs t]
theorem RepL.bools : ∀ {xs : List V} {ns : List Bool}, RepL Γ S xs (ns.map D.bl) → xs = ns.map V.bl
  | xs, [], h => by cases h; rfl
  | xs, n :: ns, h => by
    cases h with
    | cons r t =>
      cases r
      rw [List.map_cons, RepL.bools t]
theorem repL_ints : ∀ {ns : List Int}, RepL Γ S (ns.map V.int) (ns.map D.int)
  | [] => .nil
  | n :: ns => .cons (.int n) repL_ints
theorem repL_strs : ∀ {ns : List Str}, RepL Γ S (ns.map V.str) (ns.map D.str)
  | [] => .nil
  | n :: ns => .cons (.str n) repL_strs
end

/-- all are shared -/
def shs : List O → Option (List D)
  | [] => some []
  | .sh d :: r => (shs r).map (d :: ·)
  | _ :: _ => none
theorem shs_some : ∀ {os : List O} {ds : List D}, shs os = some ds → os = ds.map O.sh
  | [], _, e => by cases e; rfl
  | .sh d :: r, _, e => by
    simp only [shs, Option.map_eq_some_iff] at e
    obtain ⟨ds, e, rfl⟩ := e
    rw [shs_some e, List.map_cons]
theorem shs_map : ∀ ds : List D, shs (ds.map O.sh) = some ds
  | [] => rfl
  | d :: ds => by rw [List.map_cons, shs, shs_map ds, Option.map_some]
theorem fzL_sh : ∀ ds : List D, fzL (ds.map O.sh) = ds
  | [] => rfl
  | d :: ds => by rw [List.map_cons, fzL, fzL_sh ds, fz]
/-- a list's items, all shared -/
def lstD : O → Option (List D)
  | .sh (.lst ds) => some ds
  | .lst os => shs os
  | _ => none
def tupD : O → Option (List D)
  | .sh (.tup ds) => some ds
  | _ => none
section
variable {Γ : Gb} {S H : Hp} {v : V} {o : O} {F : List Addr} {ds : List D}
theorem ORL.repL : ∀ {rs : List (V × O)} {ds : List D} {F : List Addr}, ORL Γ S H rs F → rs.map Prod.snd = ds.map O.sh → RepL Γ S (rs.map Prod.fst) ds
  | [], ds, _, h, e => by
    cases ds with
    | nil => exact .nil
    | cons _ _ => cases e
  | (v, o) :: rs, ds, _, h, e => by
    cases ds with
    | nil => cases e
    | cons d ds =>
      cases h with
      | cons r t =>
        simp only [List.map_cons, List.cons.injEq] at e
        obtain ⟨e1, e2⟩ := e
        subst e1
        cases r with
        | sh r => exact .cons r (ORL.repL t e2)
theorem lst_at (r : OR Γ S H v o F) (sb : Sub S H) (e : lstD o = some ds) : ∃ a xs, v = .ref a ∧ H a = some (.lst xs) ∧ RepL Γ S xs ds := by
  unfold lstD at e
  split at e
  · cases e
    cases r with
    | sh r =>
      cases r with
      | lst ha hl => exact ⟨_, _, rfl, (sb _ _ ha).1, hl⟩
  · cases r with
    | lst ha hl e' =>
      have z := shs_some e
      rw [e'] at z
      exact ⟨_, _, rfl, ha, hl.repL z⟩
  · cases e
theorem tupD_sh (e : tupD o = some ds) : o = .sh (.tup ds) := by
  unfold tupD at e
  split at e
  · cases e
    rfl
  · cases e
theorem tup_at (r : OR Γ S H v o F) (sb : Sub S H) (e : tupD o = some ds) : ∃ a xs, v = .ref a ∧ SqT Γ.K H a xs ∧ RepL Γ S xs ds := by
  rw [tupD_sh e] at r
  cases r with
  | sh r =>
    cases r with
    | tup ha hl => exact ⟨_, _, rfl, sqT_mono (fun a o e => (sb a o e).1) ha, hl⟩
end
section
variable {Γ : Gb} {c : Ent} {R : List (V × O)} {H : Hp} {v : V} {o : O} {ds : List D}
theorem RS.sh (h : RS Γ c R H) {d : D} (m : (v, O.sh d) ∈ R) : ∃ S, Sub S H ∧ Rep Γ S v d := by
  obtain ⟨S, sb, rd, _⟩ := h.readS
  obtain ⟨F, x⟩ := rd _ m
  cases x with
  | sh r => exact ⟨S, sb, r⟩
theorem RS.int (h : RS Γ c R H) {i : Int} (m : (v, O.sh (.int i)) ∈ R) : v = .int i := by
  obtain ⟨S, sb, r⟩ := h.sh m
  cases r
  rfl
theorem RS.str (h : RS Γ c R H) {i : Str} (m : (v, O.sh (.str i)) ∈ R) : v = .str i := by
  obtain ⟨S, sb, r⟩ := h.sh m
  cases r
  rfl
theorem RS.bl (h : RS Γ c R H) {i : Bool} (m : (v, O.sh (.bl i)) ∈ R) : v = .bl i := by
  obtain ⟨S, sb, r⟩ := h.sh m
  cases r
  rfl
theorem RS.non (h : RS Γ c R H) (m : (v, O.sh .non) ∈ R) : v = .non := by
  obtain ⟨S, sb, r⟩ := h.sh m
  cases r
  rfl
/-- a list read: what it gives may be held, singly, as a new list, as a new tuple -/
structure Had (Γ : Gb) (c : Ent) (R : List (V × O)) (H : Hp) (xs : List V) (ds : List D) : Prop where
  ex : ∃ S, Sub S H ∧ RepL Γ S xs ds ∧ (∀ w e, Rep Γ S w e → RS Γ c ((w, .sh e) :: R) H) ∧ ∀ xs ds, RepL Γ S xs ds → RS Γ c (xs.zip (ds.map O.sh) ++ R) H
theorem Had.len {xs : List V} (h : Had Γ c R H xs ds) : xs.length = ds.length := by
  obtain ⟨S, _, r, _⟩ := h.ex
  exact r.len
theorem zip_fst : ∀ {xs : List V} {ds : List D}, xs.length = ds.length → (xs.zip (ds.map O.sh)).map Prod.fst = xs
  | [], [], _ => rfl
  | x :: xs, d :: ds, e => by
    rw [List.map_cons, List.zip_cons_cons, List.map_cons, zip_fst (by simpa using e)]
theorem zip_snd : ∀ {xs : List V} {ds : List D}, xs.length = ds.length → (xs.zip (ds.map O.sh)).map Prod.snd = ds.map O.sh
  | [], [], _ => rfl
  | x :: xs, d :: ds, e => by
    rw [List.map_cons, List.zip_cons_cons, List.map_cons, zip_snd (by simpa using e)]
theorem Had.newL {xs : List V} (h : Had Γ c R H xs ds) {p : Addr} (hp : H p = none) : RS Γ c ((.ref p, .lst (ds.map O.sh)) :: R) (upd H p (.lst xs)) := by
  obtain ⟨S, sb, r, _, ad⟩ := h.ex
  have q := (ad xs ds r).newL hp
  rw [zip_fst r.len, zip_snd r.len] at q
  exact q
theorem Had.newT {xs : List V} (h : Had Γ c R H xs ds) {p : Addr} (hp : H p = none) : RS Γ c ((.ref p, .sh (.tup ds)) :: R) (upd H p (.tup xs)) := by
  obtain ⟨S, sb, r, _, ad⟩ := h.ex
  have q := ((ad xs ds r).newT hp).freeze
  rw [zip_fst r.len, zip_snd r.len, fz, fzL_sh] at q
  exact q
theorem Had.get {xs : List V} (h : Had Γ c R H xs ds) {i : Nat} {d : D} (e : ds[i]? = some d) : ∃ w, xs[i]? = some w ∧ RS Γ c ((w, .sh d) :: R) H := by
  obtain ⟨S, sb, r, ad, _⟩ := h.ex
  obtain ⟨w, a, b⟩ := r.get e
  exact ⟨w, a, ad w d b⟩
theorem Had.drop {xs : List V} (h : Had Γ c R H xs ds) (n : Nat) : Had Γ c R H (xs.drop n) (ds.drop n) := by
  obtain ⟨S, sb, r, q⟩ := h.ex
  exact ⟨S, sb, r.drop n, q⟩
theorem Had.take {xs : List V} (h : Had Γ c R H xs ds) (n : Nat) : Had Γ c R H (xs.take n) (ds.take n) := by
  obtain ⟨S, sb, r, q⟩ := h.ex
  exact ⟨S, sb, r.take n, q⟩
theorem RS.lst (h : RS Γ c R H) (m : (v, o) ∈ R) (e : lstD o = some ds) : ∃ a xs, v = .ref a ∧ H a = some (.lst xs) ∧ Had Γ c R H xs ds := by
  obtain ⟨S, sb, rd, ad⟩ := h.readS
  obtain ⟨F, x⟩ := rd _ m
  obtain ⟨a, xs, p, q, r⟩ := lst_at x sb e
  exact ⟨a, xs, p, q, ⟨S, sb, r, ad⟩⟩
theorem RS.tup (h : RS Γ c R H) (m : (v, o) ∈ R) (e : tupD o = some ds) : ∃ a xs, v = .ref a ∧ SqT Γ.K H a xs ∧ Had Γ c R H xs ds := by
  obtain ⟨S, sb, rd, ad⟩ := h.readS
  obtain ⟨F, x⟩ := rd _ m
  obtain ⟨a, xs, p, q, r⟩ := tup_at x sb e
  exact ⟨a, xs, p, q, ⟨S, sb, r, ad⟩⟩
theorem RS.lst2 (h : RS Γ c R H) {v2 : V} {o2 : O} {es : List D} (m : (v, o) ∈ R) (e : lstD o = some ds) (m2 : (v2, o2) ∈ R) (e2 : lstD o2 = some es) :
    ∃ a xs b ys, v = .ref a ∧ H a = some (.lst xs) ∧ v2 = .ref b ∧ H b = some (.lst ys) ∧ xs.length = ds.length ∧ ys.length = es.length ∧ Had Γ c R H (xs ++ ys) (ds ++ es) := by
  obtain ⟨S, sb, rd, ad⟩ := h.readS
  obtain ⟨F, x⟩ := rd _ m
  obtain ⟨a, xs, p, q, r⟩ := lst_at x sb e
  obtain ⟨F2, x2⟩ := rd _ m2
  obtain ⟨b, ys, p2, q2, r2⟩ := lst_at x2 sb e2
  exact ⟨a, xs, b, ys, p, q, p2, q2, r.len, r2.len, ⟨S, sb, r.append r2, ad⟩⟩
theorem RS.tup2 (h : RS Γ c R H) {v2 : V} {o2 : O} {es : List D} (m : (v, o) ∈ R) (e : tupD o = some ds) (m2 : (v2, o2) ∈ R) (e2 : tupD o2 = some es) :
    ∃ a xs b ys, v = .ref a ∧ SqT Γ.K H a xs ∧ v2 = .ref b ∧ SqT Γ.K H b ys ∧ xs.length = ds.length ∧ ys.length = es.length ∧ Had Γ c R H (xs ++ ys) (ds ++ es) := by
  obtain ⟨S, sb, rd, ad⟩ := h.readS
  obtain ⟨F, x⟩ := rd _ m
  obtain ⟨a, xs, p, q, r⟩ := tup_at x sb e
  obtain ⟨F2, x2⟩ := rd _ m2
  obtain ⟨b, ys, p2, q2, r2⟩ := tup_at x2 sb e2
  exact ⟨a, xs, b, ys, p, q, p2, q2, r.len, r2.len, ⟨S, sb, r.append r2, ad⟩⟩
/-- an item of a list, of its own or shared, that is shared -/
theorem RS.item {os : List O} (h : RS Γ c R H) (m : (v, O.lst os) ∈ R) : ∃ a xs, v = .ref a ∧ H a = some (.lst xs) ∧ xs.length = os.length ∧ ∀ (i : Nat) (d : D), os[i]? = some (O.sh d) → ∃ w, xs[i]? = some w ∧ RS Γ c ((w, .sh d) :: R) H := by
  obtain ⟨S, sb, rd, ad, _⟩ := h.readS
  obtain ⟨F, x⟩ := rd _ m
  cases x with
  | @lst a rs _ F ha hl e =>
    refine ⟨a, _, rfl, ha, by rw [e, List.length_map, List.length_map], fun i d q => ?_⟩
    rw [e, List.getElem?_map, Option.map_eq_some_iff] at q
    obtain ⟨⟨u, o'⟩, hp, q⟩ := q
    obtain rfl : o' = O.sh d := q
    obtain ⟨G, x, _⟩ := hl.mem (List.mem_of_getElem? hp)
    exact ⟨u, by rw [List.getElem?_map, hp]; rfl, ad _ _ (by cases x with | sh r => exact r)⟩
end

/-! ### operations by one, two, three values -/
def Op1 (Γ : Gb) (r : V → Hp → VK → Prop) (g : O → Option O) : Prop := ∀ c R H x ox w Q, RS Γ c R H → (x, ox) ∈ R → g ox = some w → (∀ v H', RS Γ c ((v, w) :: R) H' → Q v H') → r x H Q
def Op2 (Γ : Gb) (r : R2) (g : O → O → Option O) : Prop := ∀ c R H x ox y oy w Q, RS Γ c R H → (x, ox) ∈ R → (y, oy) ∈ R → g ox oy = some w → (∀ v H', RS Γ c ((v, w) :: R) H' → Q v H') → r x y H Q
def l1 (g : O → Option O) : List O → Option O
  | [a] => g a
  | _ => none
def l2 (g : O → O → Option O) : List O → Option O
  | [a, b] => g a b
  | _ => none
def r1L (r : V → Hp → VK → Prop) : List V → Hp → VK → Prop
  | [x], H, Q => r x H Q
  | _, _, _ => False
def r2L (r : R2) : List V → Hp → VK → Prop
  | [x, y], H, Q => r x y H Q
  | _, _, _ => False
section
variable {Γ : Gb} {P : Nat → Bool} {W : WX} {ta tb : TE} {oa ob : Od}
theorem Op1.ok {r : V → Hp → VK → Prop} {g : O → Option O} (h : Op1 Γ r g) : OpOk Γ (r1L r) (l1 g) := by
  intro c R H ps o Q hR mem e k
  match ps, e with
  | [(x, ox)], e => exact h c R H x ox o Q hR (mem _ (by simp)) e k
theorem Op2.ok {r : R2} {g : O → O → Option O} (h : Op2 Γ r g) : OpOk Γ (r2L r) (l2 g) := by
  intro c R H ps o Q hR mem e k
  match ps, e with
  | [(x, ox), (y, oy)], e => exact h c R H x ox y oy o Q hR (mem _ (by simp)) (mem _ (by simp)) e k
theorem sx_op1 {r : V → Hp → VK → Prop} {g : O → Option O} (ha : Sa Γ P W (tCons ta tNil) [oa]) (h : Op1 Γ r g) : Sx Γ P W (fun σ H Q => ta σ H fun x H1 => r x H1 Q) (aOp [oa] (l1 g)) := sx_op ha h.ok
theorem sx_op2 {r : R2} {g : O → O → Option O} (ha : Sa Γ P W (tCons ta (tCons tb tNil)) [oa, ob]) (h : Op2 Γ r g) : Sx Γ P W (tOp r ta tb) (aOp [oa, ob] (l2 g)) := sx_op ha h.ok
end

/-! ### whole numbers -/
def gAdd : O → O → Option O
  | .sh (.int i), .sh (.int j) => some (.sh (.int (i + j)))
  | .sh (.str x), .sh (.str y) => if x.length + y.length ≤ 16000000 then some (.sh (.str (x ++ y))) else none
  | a, b => match tupD a, tupD b with
    | some ds, some es => if ds.length + es.length ≤ 16000000 then some (.sh (.tup (ds ++ es))) else none
    | _, _ => match lstD a, lstD b with
      | some ds, some es => if ds.length + es.length ≤ 16000000 then some (.lst ((ds ++ es).map O.sh)) else none
      | _, _ => none
theorem le_line {n : Nat} (h : n ≤ 16000000) : n ≤ sizeLine := by rw [sizeLine_eq]; omega
theorem lt_line {n : Nat} (h : n < 16000000) : n < sizeLine := by rw [sizeLine_eq]; omega
def rAddG (K : PySem.W.Frag) : R2 := fun x y H Q => rI0 (fun i j => .int (i + j)) x y H Q ∨ (∃ i j, x = .str i ∧ y = .str j ∧ i.length + j.length ≤ sizeLine ∧ Q (.str (i ++ j)) H) ∨ rCatA K x y H Q ∨ rCat x y H Q
theorem or_add {X : Cx} : OpR X (binaryOp .Add) (rAddG X.K) := op_add.or (op_add_str.or (op_catA.or op_cat))
section
variable {Γ : Gb}
theorem ok_add : Op2 Γ (rAddG Γ.K) gAdd := by
  intro c R H x ox y oy w Q h m1 m2 e k
  unfold gAdd at e
  split at e
  · cases e
    exact .inl ⟨_, _, h.int m1, h.int m2, k _ _ (h.pure fun _ => .int _)⟩
  · split at e
    · cases e
      rename_i hl
      exact .inr (.inl ⟨_, _, h.str m1, h.str m2, le_line hl, k _ _ (h.pure fun _ => .str _)⟩)
    · cases e
  · split at e
    · rename_i ds es e1 e2
      split at e
      · cases e
        rename_i hl
        obtain ⟨a, xs, b, ys, rfl, ha, rfl, hb, l1, l2, had⟩ := h.tup2 m1 e1 m2 e2
        refine .inr (.inr (.inl ⟨a, b, xs, ys, rfl, rfl, ha, hb, le_line (by omega), fun z => ?_, fun _ z => ?_, fun _ _ p hp => k _ _ (had.newT hp)⟩))
        · subst z
          have : ds = [] := List.eq_nil_of_length_eq_zero (by simpa using l1.symm)
          subst this
          rw [tupD_sh e2] at m2
          exact k _ _ (h.dup m2)
        · subst z
          have : es = [] := List.eq_nil_of_length_eq_zero (by simpa using l2.symm)
          subst this
          rw [tupD_sh e1] at m1
          rw [List.append_nil] at k
          exact k _ _ (h.dup m1)
      · cases e
    · split at e
      · rename_i ds es e1 e2
        split at e
        · cases e
          rename_i hl
          obtain ⟨a, xs, b, ys, rfl, ha, rfl, hb, l1, l2, had⟩ := h.lst2 m1 e1 m2 e2
          exact .inr (.inr (.inr ⟨a, b, xs, ys, rfl, rfl, ha, hb, le_line (by omega), fun p hp => k _ _ (had.newL hp)⟩))
        · cases e
      · cases e
end
end Den
end
section
/-! Den, part D: operations upon values. -/
namespace Den
open PySem L2
section
variable {Γ : Gb}
/-! ### whole numbers -/
def gSub : O → O → Option O
  | .sh (.int i), .sh (.int j) => some (.sh (.int (i - j)))
  | _, _ => none
theorem ok_sub : Op2 Γ (rI0 fun i j => .int (i - j)) gSub := by
  intro c R H x ox y oy w Q h m1 m2 e k
  unfold gSub at e
  split at e
  · cases e
    exact ⟨_, _, h.int m1, h.int m2, k _ _ (h.pure fun _ => .int _)⟩
  · cases e
def gFdiv : O → O → Option O
  | .sh (.int i), .sh (.int j) => if 0 < j ∧ j < 1073741824 then some (.sh (.int (i / j))) else none
  | _, _ => none
theorem ok_fdiv : Op2 Γ (rI CDiv fun i j => .int (i / j)) gFdiv := by
  intro c R H x ox y oy w Q h m1 m2 e k
  unfold gFdiv at e
  split at e
  · split at e
    · cases e
      rename_i hc
      exact ⟨_, _, h.int m1, h.int m2, hc, k _ _ (h.pure fun _ => .int _)⟩
    · cases e
  · cases e
def gMod : O → O → Option O
  | .sh (.int i), .sh (.int j) => if 0 < j then some (.sh (.int (i % j))) else none
  | _, _ => none
theorem ok_mod : Op2 Γ (rI (fun _ j => 0 < j) fun i j => .int (i % j)) gMod := by
  intro c R H x ox y oy w Q h m1 m2 e k
  unfold gMod at e
  split at e
  · split at e
    · cases e
      rename_i hc
      exact ⟨_, _, h.int m1, h.int m2, hc, k _ _ (h.pure fun _ => .int _)⟩
    · cases e
  · cases e
def gPow : O → O → Option O
  | .sh (.int i), .sh (.int j) => if 0 ≤ j ∧ j ≤ 1000000 ∧ i.natAbs < 18446744073709551616 then some (.sh (.int (i ^ j.toNat))) else none
  | _, _ => none
theorem ok_pow : Op2 Γ (rI CPow fun i j => .int (i ^ j.toNat)) gPow := by
  intro c R H x ox y oy w Q h m1 m2 e k
  unfold gPow at e
  split at e
  · split at e
    · cases e
      rename_i hc
      exact ⟨_, _, h.int m1, h.int m2, ⟨hc.1, hc.2.1, by have := hc.2.2; omega⟩, k _ _ (h.pure fun _ => .int _)⟩
    · cases e
  · cases e
theorem RepL.flat {S : Hp} {xs : List V} {ds : List D} (r : RepL Γ S xs ds) : ∀ n : Nat, RepL Γ S (List.replicate n xs).flatten (List.replicate n ds).flatten
  | 0 => .nil
  | n + 1 => by
    rw [List.replicate_succ, List.replicate_succ, List.flatten_cons, List.flatten_cons]
    exact r.append (RepL.flat r n)
def gMul : O → O → Option O
  | .sh (.int i), .sh (.int j) => if (-18446744073709551616 < i ∧ i < 18446744073709551616) ∨ (-18446744073709551616 < j ∧ j < 18446744073709551616) then some (.sh (.int (i * j))) else none
  | a, .sh (.int k) => match lstD a with
    | some ds => if 0 ≤ k ∧ k ≤ 1000000 ∧ ds.length * k.toNat ≤ 16000000 then some (.lst ((List.replicate k.toNat ds).flatten.map O.sh)) else none
    | none => none
  | _, _ => none
def rMulG : R2 := fun x y H Q => rI CMul (fun i j => .int (i * j)) x y H Q ∨ rRep x y H Q
theorem or_mul {X : Cx} : OpR X (binaryOp .Mult) rMulG := op_mul.or op_rep
theorem ok_mul : Op2 Γ rMulG gMul := by
  intro c R H x ox y oy w Q h m1 m2 e k
  unfold gMul at e
  split at e
  · split at e
    · cases e
      rename_i hc
      exact .inl ⟨_, _, h.int m1, h.int m2, by unfold CMul; omega, k _ _ (h.pure fun _ => .int _)⟩
    · cases e
  · split at e
    · rename_i ds e1
      split at e
      · cases e
        rename_i hc
        obtain ⟨a, xs, rfl, ha, had⟩ := h.lst m1 e1
        refine .inr ⟨a, _, xs, rfl, h.int m2, ha, by omega, by omega, le_line (by rw [had.len]; exact hc.2.2), fun p hp => k _ _ ?_⟩
        obtain ⟨S, sb, r, q⟩ := had.ex
        exact Had.newL ⟨S, sb, r.flat _, q⟩ hp
      · cases e
    · cases e
  · cases e
def gNeg : O → Option O
  | .sh (.int i) => some (.sh (.int (-i)))
  | _ => none
theorem ok_neg : Op1 Γ (rU fun i => .int (-i)) gNeg := by
  intro c R H x ox w Q h m1 e k
  unfold gNeg at e
  split at e
  · cases e
    exact ⟨_, h.int m1, k _ _ (h.pure fun _ => .int _)⟩
  · cases e

/-! ### equality -/
mutual
def toPy : D → Option PyData
  | .non => some .none
  | .bl b => some (.bool b)
  | .int i => some (.int i)
  | .str x => some (.str x)
  | .tup ds => (toPyL ds).map .tuple
  | .lst ds => (toPyL ds).map .list
  | .wls _ => none
  | .dic _ => none
  | .obj _ _ => none
  | .xd _ => none
def toPyL : List D → Option (List PyData)
  | [] => some []
  | d :: ds => (toPy d).bind fun p => (toPyL ds).map (p :: ·)
end
mutual
theorem Rep.dp {S : Hp} : ∀ {v : V} {d : D}, Rep Γ S v d → ∀ {p : PyData}, toPy d = some p → Dp Γ.K S v p
  | _, _, .non, p, e => by
    simp only [toPy, Option.some.injEq] at e
    subst e
    exact .non
  | _, _, .bl b, p, e => by
    simp only [toPy, Option.some.injEq] at e
    subst e
    exact .bl b
  | _, _, .int i, p, e => by
    simp only [toPy, Option.some.injEq] at e
    subst e
    exact .int i
  | _, _, .str x, p, e => by
    simp only [toPy, Option.some.injEq] at e
    subst e
    exact .str x
  | _, _, .tup hs hl, p, e => by
    simp only [toPy, Option.map_eq_some_iff] at e
    obtain ⟨q, e, rfl⟩ := e
    exact .tup hs (RepL.dp hl e)
  | _, _, .lst hs hl, p, e => by
    simp only [toPy, Option.map_eq_some_iff] at e
    obtain ⟨q, e, rfl⟩ := e
    exact .lst (.of hs) (RepL.dp hl e)
  | _, _, .wls _ _, p, e => by simp [toPy] at e
  | _, _, .dic _ _ _, p, e => by simp [toPy] at e
  | _, _, .obj _ _ _, p, e => by simp [toPy] at e
  | _, _, .xd _ _ _, p, e => by simp [toPy] at e
theorem RepL.dp {S : Hp} : ∀ {vs : List V} {ds : List D}, RepL Γ S vs ds → ∀ {ps : List PyData}, toPyL ds = some ps → DpAll Γ.K S vs ps
  | _, _, .nil, ps, e => by
    simp only [toPyL, Option.some.injEq] at e
    subst e
    exact .nil
  | _, _, .cons r t, ps, e => by
    simp only [toPyL, Option.bind_eq_some_iff, Option.map_eq_some_iff] at e
    obtain ⟨p, e1, q, e2, rfl⟩ := e
    exact .cons (Rep.dp r e1) (RepL.dp t e2)
end
/-- what is owned stands in H as data, too -/
theorem OR.rep {S H : Hp} {v : V} {o : O} {F : List Addr} (r : OR Γ S H v o F) (sb : Sub S H) : Rep Γ H v (Den.fz o) := r.fz (fun a o e => (sb a o e).1) fun _ _ _ e => e
theorem RS.rep {c : Ent} {R : List (V × O)} {H : Hp} {v : V} {o : O} (h : RS Γ c R H) (m : (v, o) ∈ R) : Rep Γ H v (Den.fz o) := by
  obtain ⟨S, sb, rd, _⟩ := h.readS
  obtain ⟨F, x⟩ := rd _ m
  exact x.rep sb
/-- == of two flat things that are of kinds that are told apart at once -/
def scalD : D → D → Option Bool
  | .non, .non => some true
  | .non, .int _ => some false | .int _, .non => some false
  | .non, .bl _ => some false | .bl _, .non => some false
  | .non, .str _ => some false | .str _, .non => some false
  | .int i, .int j => some (decide (i = j))
  | .bl i, .bl j => some (decide (i = j))
  | .str i, .str j => some (decide (i = j))
  | .int _, .str _ => some false | .str _, .int _ => some false
  | .bl _, .str _ => some false | .str _, .bl _ => some false
  | _, _ => none
theorem scal_of {S : Hp} {x y : V} {a b : D} (r1 : Rep Γ S x a) (r2 : Rep Γ S y b) {t : Bool} (e : scalD a b = some t) : scal x y = true ∧ decide (x = y) = t := by
  cases r1 <;> cases r2 <;> simp only [scalD, Option.some.injEq, reduceCtorEq] at e <;> subst e <;> simp [scal]
def gEqD (a b : D) : Option Bool := match scalD a b with
  | some t => some t
  | none => match toPy a, toPy b with
    | some p, some q => if SeqAt.shaped p = true ∧ SeqAt.shaped q = true then some (PyData.eqv p q) else none
    | _, _ => none
def gEq (x y : O) : Option O := (gEqD (fz x) (fz y)).map fun b => .sh (.bl b)
def gNe (x y : O) : Option O := (gEqD (fz x) (fz y)).map fun b => .sh (.bl (!b))
def rEqG (K : PySem.W.Frag) : R2 := fun x y H Q => rEq x y H Q ∨ rEqD K x y H Q
def rNeG (K : PySem.W.Frag) : R2 := fun x y H Q => rNe x y H Q ∨ rNeD K x y H Q
theorem or_eq {X : Cx} (hu : X.A.units + 64 < cLine) : OpR X (compareOp .Eq) (rEqG X.K) := op_eq.or (op_eqD hu)
theorem or_ne {X : Cx} (hu : X.A.units + 64 < cLine) : OpR X (compareOp .NotEq) (rNeG X.K) := op_ne.or (op_neD hu)
theorem ok_eq : Op2 Γ (rEqG Γ.K) gEq := by
  intro c R H x ox y oy w Q h m1 m2 e k
  simp only [gEq, Option.map_eq_some_iff] at e
  obtain ⟨t, e, rfl⟩ := e
  have r1 := h.rep m1
  have r2 := h.rep m2
  unfold gEqD at e
  split at e
  · cases e
    rename_i es
    obtain ⟨a, b⟩ := scal_of r1 r2 es
    exact .inl ⟨a, k _ _ (by rw [b]; exact h.pure fun _ => .bl _)⟩
  · split at e
    · rename_i p q e1 e2
      split at e
      · cases e
        rename_i hc
        exact .inr ⟨p, q, r1.dp e1, r2.dp e2, hc.1, hc.2, k _ _ (h.pure fun _ => .bl _)⟩
      · cases e
    · cases e
theorem ok_ne : Op2 Γ (rNeG Γ.K) gNe := by
  intro c R H x ox y oy w Q h m1 m2 e k
  simp only [gNe, Option.map_eq_some_iff] at e
  obtain ⟨t, e, rfl⟩ := e
  have r1 := h.rep m1
  have r2 := h.rep m2
  unfold gEqD at e
  split at e
  · cases e
    rename_i es
    obtain ⟨a, b⟩ := scal_of r1 r2 es
    exact .inl ⟨a, k _ _ (by rw [b]; exact h.pure fun _ => .bl _)⟩
  · split at e
    · rename_i p q e1 e2
      split at e
      · cases e
        rename_i hc
        exact .inr ⟨p, q, r1.dp e1, r2.dp e2, hc.1, hc.2, k _ _ (h.pure fun _ => .bl _)⟩
      · cases e
    · cases e

/-! ### order -/
def gLt : O → O → Option O
  | .sh (.int i), .sh (.int j) => some (.sh (.bl (decide (i < j))))
  | .sh (.str i), .sh (.str j) => some (.sh (.bl (decide (i.cps.toList < j.cps.toList))))
  | _, _ => none
def gGt : O → O → Option O
  | .sh (.int i), .sh (.int j) => some (.sh (.bl (decide (j < i))))
  | .sh (.str i), .sh (.str j) => some (.sh (.bl (decide (j.cps.toList < i.cps.toList))))
  | _, _ => none
def gLe : O → O → Option O
  | .sh (.int i), .sh (.int j) => some (.sh (.bl (decide (i ≤ j))))
  | .sh (.str i), .sh (.str j) => some (.sh (.bl (!decide (j.cps.toList < i.cps.toList))))
  | _, _ => none
def gGe : O → O → Option O
  | .sh (.int i), .sh (.int j) => some (.sh (.bl (decide (j ≤ i))))
  | .sh (.str i), .sh (.str j) => some (.sh (.bl (!decide (i.cps.toList < j.cps.toList))))
  | _, _ => none
def rCmpG (f : Int → Int → Bool) (g : Str → Str → Bool) : R2 := fun x y H Q => rI0 (fun i j => .bl (f i j)) x y H Q ∨ (∃ i j, x = .str i ∧ y = .str j ∧ Q (.bl (g i j)) H)
theorem or_lt {X : Cx} : OpR X (compareOp .Lt) (rCmpG (fun i j => decide (i < j)) fun i j => decide (i.cps.toList < j.cps.toList)) := op_lt.or op_lt_str
theorem or_gt {X : Cx} : OpR X (compareOp .Gt) (rCmpG (fun i j => decide (j < i)) fun i j => decide (j.cps.toList < i.cps.toList)) := op_gt.or op_gt_str
theorem or_le {X : Cx} : OpR X (compareOp .LtE) (rCmpG (fun i j => decide (i ≤ j)) fun i j => !decide (j.cps.toList < i.cps.toList)) := op_le.or op_le_str
theorem or_ge {X : Cx} : OpR X (compareOp .GtE) (rCmpG (fun i j => decide (j ≤ i)) fun i j => !decide (i.cps.toList < j.cps.toList)) := op_ge.or op_ge_str
theorem ok_lt : Op2 Γ (rCmpG (fun i j => decide (i < j)) fun i j => decide (i.cps.toList < j.cps.toList)) gLt := by
  intro c R H x ox y oy w Q h m1 m2 e k
  unfold gLt at e
  split at e <;> cases e
  · exact .inl ⟨_, _, h.int m1, h.int m2, k _ _ (h.pure fun _ => .bl _)⟩
  · exact .inr ⟨_, _, h.str m1, h.str m2, k _ _ (h.pure fun _ => .bl _)⟩
theorem ok_gt : Op2 Γ (rCmpG (fun i j => decide (j < i)) fun i j => decide (j.cps.toList < i.cps.toList)) gGt := by
  intro c R H x ox y oy w Q h m1 m2 e k
  unfold gGt at e
  split at e <;> cases e
  · exact .inl ⟨_, _, h.int m1, h.int m2, k _ _ (h.pure fun _ => .bl _)⟩
  · exact .inr ⟨_, _, h.str m1, h.str m2, k _ _ (h.pure fun _ => .bl _)⟩
theorem ok_le : Op2 Γ (rCmpG (fun i j => decide (i ≤ j)) fun i j => !decide (j.cps.toList < i.cps.toList)) gLe := by
  intro c R H x ox y oy w Q h m1 m2 e k
  unfold gLe at e
  split at e <;> cases e
  · exact .inl ⟨_, _, h.int m1, h.int m2, k _ _ (h.pure fun _ => .bl _)⟩
  · exact .inr ⟨_, _, h.str m1, h.str m2, k _ _ (h.pure fun _ => .bl _)⟩
theorem ok_ge : Op2 Γ (rCmpG (fun i j => decide (j ≤ i)) fun i j => !decide (i.cps.toList < j.cps.toList)) gGe := by
  intro c R H x ox y oy w Q h m1 m2 e k
  unfold gGe at e
  split at e <;> cases e
  · exact .inl ⟨_, _, h.int m1, h.int m2, k _ _ (h.pure fun _ => .bl _)⟩
  · exact .inr ⟨_, _, h.str m1, h.str m2, k _ _ (h.pure fun _ => .bl _)⟩

/-! ### is -/
def gIs (b : V) (d : D → Bool) : O → Option O := fun o => some (.sh (.bl (d (fz o))))
def isNon : D → Bool
  | .non => true
  | _ => false
def isBl (b : Bool) : D → Bool
  | .bl c => c == b
  | _ => false
def gIsN (o : O) : Option O := some (.sh (.bl (isNon (fz o))))
def gNotN (o : O) : Option O := some (.sh (.bl (!isNon (fz o))))
def gIsB (b : Bool) (o : O) : Option O := some (.sh (.bl (isBl b (fz o))))
def gNotB (b : Bool) (o : O) : Option O := some (.sh (.bl (!isBl b (fz o))))
theorem isNon_of {S : Hp} {x : V} {d : D} (r : Rep Γ S x d) : decide (x = .non) = isNon d := by cases r <;> simp [isNon]
theorem isBl_of {S : Hp} {x : V} {d : D} {b : Bool} (r : Rep Γ S x d) : decide (x = .bl b) = isBl b d := by cases r <;> first | (simp [isBl]; done) | (rename_i c; cases b <;> cases c <;> rfl)
theorem ok_isN : Op1 Γ (fun x H Q => Q (.bl (decide (x = .non))) H) gIsN := by
  intro c R H x ox w Q h m1 e k
  cases e
  exact k _ _ (by rw [isNon_of (h.rep m1)]; exact h.pure fun _ => .bl _)
theorem ok_notN : Op1 Γ (fun x H Q => Q (.bl (!decide (x = .non))) H) gNotN := by
  intro c R H x ox w Q h m1 e k
  cases e
  exact k _ _ (by rw [isNon_of (h.rep m1)]; exact h.pure fun _ => .bl _)
def rIsBG : R2 := fun x y H Q => ∃ b : Bool, y = .bl b ∧ Q (.bl (decide (x = .bl b))) H
def rNotBG : R2 := fun x y H Q => ∃ b : Bool, y = .bl b ∧ Q (.bl (!decide (x = .bl b))) H
theorem op_isBG {X : Cx} : OpR X (compareOp .Is) rIsBG := by
  intro pins s σ H x y v u Q I rx ry h
  obtain ⟨b, rfl, q⟩ := h
  cases (show u = Value.bool b from ry)
  have pl : plainIs v (.bool b) = true := by cases x <;> first | (cases rx; rfl) | (obtain ⟨t, rfl⟩ := rx; rfl) | skip
  by_cases e : v = .bool b
  · subst e
    have : x = .bl b := rx.inj ry
    subst this
    exact wpAny_is_self rfl ⟨.bl true, H, I, rfl, by simpa using q⟩
  · have : x ≠ .bl b := fun z => by subst z; exact e rx
    exact wpAny_is_other pl e ⟨.bl false, H, I, rfl, by simpa [this] using q⟩
theorem op_notBG {X : Cx} : OpR X (compareOp .IsNot) rNotBG := by
  intro pins s σ H x y v u Q I rx ry h
  obtain ⟨b, rfl, q⟩ := h
  cases (show u = Value.bool b from ry)
  have pl : plainIs v (.bool b) = true := by cases x <;> first | (cases rx; rfl) | (obtain ⟨t, rfl⟩ := rx; rfl) | skip
  by_cases e : v = .bool b
  · subst e
    have : x = .bl b := rx.inj ry
    subst this
    exact wpAny_isNot_self rfl ⟨.bl false, H, I, rfl, by simpa using q⟩
  · have : x ≠ .bl b := fun z => by subst z; exact e rx
    exact wpAny_isNot_other pl e ⟨.bl true, H, I, rfl, by simpa [this] using q⟩
theorem ok_isB {b : Bool} : Op1 Γ (fun x H Q => rIsBG x (.bl b) H Q) (gIsB b) := by
  intro c R H x ox w Q h m1 e k
  cases e
  exact ⟨b, rfl, k _ _ (by rw [isBl_of (h.rep m1)]; exact h.pure fun _ => .bl _)⟩
theorem ok_notB {b : Bool} : Op1 Γ (fun x H Q => rNotBG x (.bl b) H Q) (gNotB b) := by
  intro c R H x ox w Q h m1 e k
  cases e
  exact ⟨b, rfl, k _ _ (by rw [isBl_of (h.rep m1)]; exact h.pure fun _ => .bl _)⟩
end
end Den
end
section
/-! Den, part E: in, items, slices, built-ins. -/
namespace Den
open PySem L2
section
variable {Γ : Gb}
/-! ### in -/
def flatD : D → Bool
  | .non | .bl _ | .int _ | .str _ => true
  | _ => false
def dV : D → V
  | .bl b => .bl b
  | .int i => .int i
  | .str x => .str x
  | _ => .non
theorem flat_of {S : Hp} {v : V} {d : D} (r : Rep Γ S v d) (f : flatD d = true) : v = dV d ∧ flatV v = true := by
  cases r <;> first | (simp [flatD] at f; done) | exact ⟨rfl, rfl⟩
theorem flats_of {S : Hp} : ∀ {xs : List V} {ds : List D}, RepL Γ S xs ds → ds.all flatD = true → xs = ds.map dV ∧ xs.all flatV = true
  | _, _, .nil, _ => ⟨rfl, rfl⟩
  | _, _, .cons r t, f => by
    rw [List.all_cons, Bool.and_eq_true] at f
    obtain ⟨a, b⟩ := flat_of r f.1
    obtain ⟨c, d⟩ := flats_of t f.2
    exact ⟨by rw [List.map_cons, ← a, ← c], by rw [List.all_cons, b, d] <;> rfl⟩
/-- == of flat things -/
def eqF (a b : D) : Bool := eqV (dV a) (dV b)
def inF (d : D) (ds : List D) : Bool := ds.any fun e => eqF e d
theorem inF_of (d : D) (ds : List D) : inV (dV d) (ds.map dV) = inF d ds := by
  unfold inV inF
  rw [List.any_map]
  rfl
def seqD (o : O) : Option (List D) := match fz o with
  | .lst ds => some ds
  | .tup ds => some ds
  | _ => none
/-- a dict's key -/
def keyD : D → Option Key
  | .int i => some (.inl i)
  | .str x => some (.inr x)
  | _ => none
theorem keyD_kD {d : D} {k : Key} (e : keyD d = some k) : d = kD k := by
  cases d <;> simp [keyD] at e <;> subst e <;> rfl
def keyEq (d : D) (k : Key) : Bool := match d, k with
  | .int i, .inl j => decide (i = j)
  | .str x, .inr y => decide (x = y)
  | _, _ => false
theorem keyEq_kD (k j : Key) : keyEq (kD k) j = decide (k = j) := by
  cases k <;> cases j <;> simp [keyEq, kD]
/-- what stands at a key -/
def valD {α : Type} (kvs : List (D × α)) (k : Key) : Option α := (kvs.find? fun p => keyEq p.1 k).map (·.2)
theorem rep_key {S : Hp} {v : V} {k : Key} (r : Rep Γ S v (kD k)) : v = kV k := by
  cases k <;> (cases r; rfl)
theorem valD_rep {S : Hp} : ∀ {kvs : List (Key × V)} {dkvs : List (D × D)}, dkvs.map Prod.fst = kvs.map (fun p => kD p.1) → RepL Γ S (kvs.map Prod.snd) (dkvs.map Prod.snd) → ∀ k : Key,
    match valD dkvs k with
    | some d => ∃ v, valV kvs k = some v ∧ Rep Γ S v d
    | none => valV kvs k = none
  | [], [], _, _, k => by simp [valD, valV]
  | [], _ :: _, e, _, k => by cases e
  | _ :: _, [], e, _, k => by cases e
  | (k1, v1) :: kvs, (d1, e1) :: dkvs, e, r, k => by
    simp only [List.map_cons, List.cons.injEq] at e
    obtain ⟨a, b⟩ := e
    subst a
    cases r with
    | cons r1 r2 =>
      have ih := valD_rep b r2 k
      by_cases hk : k1 = k
      · have h1 : valD ((kD k1, e1) :: dkvs) k = some e1 := by simp [valD, List.find?_cons, keyEq_kD, hk]
        rw [h1]
        exact ⟨v1, valV_pos hk, r1⟩
      · have h1 : valD ((kD k1, e1) :: dkvs) k = valD dkvs k := by simp [valD, List.find?_cons, keyEq_kD, hk]
        rw [h1, valV_neg hk]
        exact ih
def dicD (o : O) : Option (List (D × D)) := match fz o with
  | .dic kvs => some kvs
  | _ => none
theorem RS.seq {c : Ent} {R : List (V × O)} {H : Hp} {v : V} {o : O} {ds : List D} (h : RS Γ c R H) (m : (v, o) ∈ R) (e : seqD o = some ds) : ∃ a xs, v = .ref a ∧ (SqL Γ.K H a xs ∨ SqT Γ.K H a xs) ∧ RepL Γ H xs ds := by
  have r := h.rep m
  unfold seqD at e
  split at e <;> cases e
  · rename_i q
    rw [q] at r
    cases r with
    | lst a b => exact ⟨_, _, rfl, .inl (.of a), b⟩
  · rename_i q
    rw [q] at r
    cases r with
    | tup a b => exact ⟨_, _, rfl, .inr a, b⟩
theorem RS.dic {c : Ent} {R : List (V × O)} {H : Hp} {v : V} {o : O} {kvs : List (D × D)} (h : RS Γ c R H) (m : (v, o) ∈ R) (e : dicD o = some kvs) : ∃ a ks, v = .ref a ∧ H a = some (.dK ks) ∧ kvs.map Prod.fst = ks.map (fun p => kD p.1) ∧ RepL Γ H (ks.map Prod.snd) (kvs.map Prod.snd) := by
  have r := h.rep m
  unfold dicD at e
  split at e <;> cases e
  rename_i q
  rw [q] at r
  cases r with
  | dic a b c => exact ⟨_, _, rfl, a, b, c⟩
/-- is x in y -/
def inG (x y : O) : Option Bool := match x, y with
  | .sh (.str a), .sh (.str z) => match a.cps.toList with
    | [c] => some (decide (c ∈ z.cps.toList))
    | _ => some (!(Builtin.Str.occurrences z a 0 z.length 1).isEmpty)
  | x, y => match dicD y with
    | some kvs => (keyD (fz x)).map fun k => (valD kvs k).isSome
    | none => match seqD y with
      | some ds => if flatD (fz x) = true ∧ ds.all flatD = true then some (inF (fz x) ds) else
        match fz y, toPy (fz x), toPyL ds with
        | .lst _, some p, some qs => if SeqAt.shaped p = true ∧ SeqAt.shaped (.list qs) = true then some (qs.any fun z => PyData.eqv z p) else none
        | _, _, _ => none
      | none => none
def gIn (x y : O) : Option O := (inG x y).map fun b => .sh (.bl b)
def gNotIn (x y : O) : Option O := (inG x y).map fun b => .sh (.bl (!b))
def rSignIn (neg : Bool) : R2 := fun x y H Q => ∃ (c : Nat) (z : Str), x = .str ⟨#[c]⟩ ∧ y = .str z ∧ Q (.bl (if neg then !decide (c ∈ z.cps.toList) else decide (c ∈ z.cps.toList))) H
def rStrIn (neg : Bool) : R2 := fun x y H Q => ∃ i j, x = .str i ∧ y = .str j ∧ Q (.bl (if neg then !(!(Builtin.Str.occurrences j i 0 j.length 1).isEmpty) else !(Builtin.Str.occurrences j i 0 j.length 1).isEmpty)) H
def rDicIn (neg : Bool) : R2 := fun y x H Q => ∃ a o, x = .ref a ∧ DGet H a y o ∧ Q (.bl (if neg then !o.isSome else o.isSome)) H
def rInG (K : PySem.W.Frag) (neg : Bool) : R2 := fun x y H Q => rSignIn neg x y H Q ∨ rStrIn neg x y H Q ∨ rIn K neg x y H Q ∨ rDicIn neg x y H Q ∨ (if neg then rNotInD K else rInD K) x y H Q
theorem op_dicIn {X : Cx} (hu : X.A.units + 1 < cLine) : OpR X (compareOp .In) (rDicIn false) := by
  intro pins s σ H y x v u Q I ry rx h
  obtain ⟨a, o, rfl, g, q⟩ := h
  obtain rfl : u = Value.ref a := rx
  exact d_in hu I g ry fun s3 I3 => ⟨.bl o.isSome, H, I3, rfl, q⟩
theorem op_dicNotIn {X : Cx} (hu : X.A.units + 1 < cLine) : OpR X (compareOp .NotIn) (rDicIn true) := by
  intro pins s σ H y x v u Q I ry rx h
  obtain ⟨a, o, rfl, g, q⟩ := h
  obtain rfl : u = Value.ref a := rx
  exact d_notIn hu I g ry fun s3 I3 => ⟨.bl (!o.isSome), H, I3, rfl, q⟩
theorem or_in {X : Cx} (hu : X.A.units + 65 < cLine) : OpR X (compareOp .In) (rInG X.K false) := op_in_sign.or (op_in_str.or (op_in_seq.or ((op_dicIn (by omega)).or (op_inD hu))))
theorem or_notIn {X : Cx} (hu : X.A.units + 65 < cLine) : OpR X (compareOp .NotIn) (rInG X.K true) := op_notIn_sign.or (op_notIn_str.or (op_notIn_seq.or ((op_dicNotIn (by omega)).or (op_notInD hu))))
theorem sign_of {a : Str} {c : Nat} (e : a.cps.toList = [c]) : a = ⟨#[c]⟩ := by
  obtain ⟨⟨l⟩⟩ := a
  have : l = [c] := e
  subst this
  rfl
theorem in_core {neg : Bool} {c : Ent} {R : List (V × O)} {H : Hp} {x : V} {ox : O} {y : V} {oy : O} {b : Bool} {Q : VK} (h : RS Γ c R H) (m1 : (x, ox) ∈ R) (m2 : (y, oy) ∈ R) (e : inG ox oy = some b)
    (k : Q (.bl (if neg then !b else b)) H) : rInG Γ.K neg x y H Q := by
  unfold inG at e
  split at e
  · rename_i a z
    have e1 := h.str m1
    have e2 := h.str m2
    subst e1 e2
    split at e
    · rename_i c hc
      cases e
      exact .inl ⟨c, z, by rw [sign_of hc], rfl, k⟩
    · cases e
      exact .inr (.inl ⟨a, z, rfl, rfl, k⟩)
  · split at e
    · rename_i kvs hd
      simp only [Option.map_eq_some_iff] at e
      obtain ⟨kk, ek, rfl⟩ := e
      obtain ⟨a, ks, rfl, ha, e1, r⟩ := h.dic m2 hd
      have r1 := h.rep m1
      rw [keyD_kD ek] at r1
      refine .inr (.inr (.inr (.inl ⟨a, valV ks kk, rfl, ?_, ?_⟩)))
      · rw [rep_key r1]
        exact .k ha
      · have z := valD_rep e1 r kk
        have : (valV ks kk).isSome = (valD kvs kk).isSome := by
          cases q : valD kvs kk with
          | none =>
            rw [q] at z
            have z : valV ks kk = none := z
            rw [z]
            rfl
          | some d =>
            rw [q] at z
            obtain ⟨v, hv, _⟩ := z
            rw [hv]
            rfl
        rw [this]
        exact k
    · split at e
      · rename_i ds hs
        obtain ⟨a, xs, rfl, hq, r⟩ := h.seq m2 hs
        have r1 := h.rep m1
        split at e
        · cases e
          rename_i hf
          obtain ⟨f1, f2⟩ := flat_of r1 hf.1
          obtain ⟨g1, g2⟩ := flats_of r hf.2
          subst f1 g1
          exact .inr (.inr (.inl ⟨a, _, rfl, hq, f2, g2, by rw [inF_of]; exact k⟩))
        · split at e
          · rename_i p qs ey ep eq
            split at e
            · cases e
              rename_i hc
              have r2 := h.rep m2
              unfold seqD at hs
              rw [ey] at hs r2
              cases hs
              have dy : Dp Γ.K H (.ref a) (.list qs) := r2.dp (by simp only [toPy, eq, Option.map_some])
              refine .inr (.inr (.inr (.inr ?_)))
              cases neg with
              | true => exact ⟨p, qs, r1.dp ep, dy, hc.1, hc.2, k⟩
              | false => exact ⟨p, qs, r1.dp ep, dy, hc.1, hc.2, k⟩
            · cases e
          · cases e
      · cases e
theorem ok_in : Op2 Γ (rInG Γ.K false) gIn := by
  intro c R H x ox y oy w Q h m1 m2 e k
  simp only [gIn, Option.map_eq_some_iff] at e
  obtain ⟨b, e, rfl⟩ := e
  exact in_core h m1 m2 e (k _ _ (h.pure fun _ => .bl _))
theorem ok_notIn : Op2 Γ (rInG Γ.K true) gNotIn := by
  intro c R H x ox y oy w Q h m1 m2 e k
  simp only [gNotIn, Option.map_eq_some_iff] at e
  obtain ⟨b, e, rfl⟩ := e
  exact in_core h m1 m2 e (k _ _ (h.pure fun _ => .bl _))

/-! ### items -/
def gIx : O → O → Option O
  | .lst os, .sh (.int i) => match atI os i with
    | some (.sh d) => some (.sh d)
    | _ => none
  | .sh (.lst ds), .sh (.int i) => (atI ds i).map O.sh
  | .sh (.tup ds), .sh (.int i) => (atI ds i).map O.sh
  | .sh (.str z), .sh (.int i) => if z.length ≤ 16000000 then (atI z.cps.toList i).map fun c => .sh (.str ⟨#[c]⟩) else none
  | .dic kvs, .sh k => match keyD k with
    | some k => match valD kvs k with
      | some (.sh d) => some (.sh d)
      | _ => none
    | none => none
  | .sh (.dic kvs), .sh k => match keyD k with
    | some k => (valD kvs k).map O.sh
    | none => none
  | _, _ => none
def rDicIx : R2 := fun x y H Q => ∃ a v, x = .ref a ∧ DGet H a y (some v) ∧ Q v H
def rIxG (K : PySem.W.Frag) : R2 := fun x y H Q => rIx K x y H Q ∨ rDicIx x y H Q
theorem ix_dic {X : Cx} (hu : X.A.units + 1 < cLine) : IxR X rDicIx := by
  intro value slice pins s σ H x y v u Q I rx ry h hs
  obtain ⟨a, w, rfl, g, q⟩ := h
  obtain rfl : v = Value.ref a := rx
  exact PyProof.Rows.tail_any (dict_typeIs I g) PySem.F.slot_dict_getitem.lookup (d_getItem hu I g ry fun w' s' I' r' => ⟨w, H, I', r', q⟩) hs
theorem or_ix {X : Cx} (hu : X.A.units + 1 < cLine) : IxR X (rIxG X.K) := ix_seq.or (ix_dic hu)
theorem atI_some {α : Type} {xs : List α} {i : Int} {x : α} (e : atI xs i = some x) : ∃ j, ixN xs.length i = some j ∧ xs[j]? = some x := by
  unfold atI at e
  cases q : ixN xs.length i with
  | none =>
    rw [q] at e
    cases e
  | some j =>
    rw [q] at e
    exact ⟨j, rfl, e⟩
theorem atI_of {α β : Type} {xs : List α} {ys : List β} {i : Int} {j : Nat} {y : β} (hl : xs.length = ys.length) (e : ixN xs.length i = some j) (h : ys[j]? = some y) : atI ys i = some y := by
  unfold atI
  rw [← hl, e]
  exact h
theorem valD_own {c : Ent} {R : List (V × O)} {H : Hp} {v : V} {kvs : List (D × O)} (h : RS Γ c R H) (m : (v, O.dic kvs) ∈ R) : ∃ a ks, v = .ref a ∧ H a = some (.dK ks) ∧ ∀ (k : Key) (d : D), valD kvs k = some (O.sh d) → ∃ w, valV ks k = some w ∧ RS Γ c ((w, .sh d) :: R) H := by
  obtain ⟨S, sb, rd, ad, _⟩ := h.readS
  obtain ⟨F, x⟩ := rd _ m
  cases x with
  | @dic a ks _ rs F ha e1 e2 e3 hl =>
    refine ⟨a, ks, rfl, ha, fun k d q => ?_⟩
    have key : ∀ (kvs : List (D × O)) (ks : List (Key × V)) (rs : List (V × O)) (F : List Addr), ORL Γ S H rs F → kvs.map Prod.fst = ks.map (fun p => kD p.1) → ks.map Prod.snd = rs.map Prod.fst → kvs.map Prod.snd = rs.map Prod.snd →
        valD kvs k = some (O.sh d) → ∃ w, valV ks k = some w ∧ Rep Γ S w d := by
      intro kvs
      induction kvs with
      | nil =>
        intro ks rs F _ _ _ _ q
        simp [valD] at q
      | cons p kvs ih =>
        intro ks rs F hl e1 e2 e3 q
        cases ks with
        | nil => cases e1
        | cons kv ks =>
          cases rs with
          | nil => cases e2
          | cons r rs =>
            obtain ⟨d1, o1⟩ := p
            obtain ⟨k1, v1⟩ := kv
            obtain ⟨v2, o2⟩ := r
            simp only [List.map_cons, List.cons.injEq] at e1 e2 e3
            obtain ⟨rfl, e1⟩ := e1
            obtain ⟨rfl, e2⟩ := e2
            obtain ⟨rfl, e3⟩ := e3
            cases hl with
            | cons r1 r2 =>
              by_cases hk : k1 = k
              · have h1 : valD ((kD k1, o1) :: kvs) k = some o1 := by simp [valD, List.find?_cons, keyEq_kD, hk]
                rw [h1] at q
                cases q
                exact ⟨v1, valV_pos hk, by cases r1 with | sh r => exact r⟩
              · have h1 : valD ((kD k1, o1) :: kvs) k = valD kvs k := by simp [valD, List.find?_cons, keyEq_kD, hk]
                rw [h1] at q
                obtain ⟨w, a, b⟩ := ih ks rs _ r2 e1 e2 e3 q
                exact ⟨w, by rw [valV_neg hk]; exact a, b⟩
    obtain ⟨w, p1, p2⟩ := key kvs ks rs F hl e1 e2 e3 q
    exact ⟨w, p1, ad _ _ p2⟩
theorem ok_ix : Op2 Γ (rIxG Γ.K) gIx := by
  intro c R H x ox y oy w Q h m1 m2 e k
  unfold gIx at e
  split at e
  · split at e
    · cases e
      rename_i d hd
      obtain ⟨j, h1, h2⟩ := atI_some hd
      obtain ⟨a, xs, rfl, ha, hl, hi⟩ := h.item m1
      obtain ⟨u, hu, q⟩ := hi j d h2
      exact .inl (.inl ⟨a, xs, _, u, rfl, h.int m2, .of ha, atI_of hl.symm h1 hu, k _ _ q⟩)
    · cases e
  · simp only [Option.map_eq_some_iff] at e
    obtain ⟨d, hd, rfl⟩ := e
    obtain ⟨j, h1, h2⟩ := atI_some hd
    obtain ⟨a, xs, rfl, ha, had⟩ := h.lst m1 rfl
    obtain ⟨u, hu, q⟩ := had.get h2
    exact .inl (.inl ⟨a, xs, _, u, rfl, h.int m2, .of ha, atI_of had.len.symm h1 hu, k _ _ q⟩)
  · simp only [Option.map_eq_some_iff] at e
    obtain ⟨d, hd, rfl⟩ := e
    obtain ⟨j, h1, h2⟩ := atI_some hd
    obtain ⟨a, xs, rfl, ha, had⟩ := h.tup m1 rfl
    obtain ⟨u, hu, q⟩ := had.get h2
    exact .inl (.inr (.inl ⟨a, xs, _, u, rfl, h.int m2, ha, atI_of had.len.symm h1 hu, k _ _ q⟩))
  · split at e
    · simp only [Option.map_eq_some_iff] at e
      obtain ⟨d, hd, rfl⟩ := e
      rename_i hl
      exact .inl (.inr (.inr ⟨_, _, d, h.str m1, h.int m2, le_line hl, hd, k _ _ (h.pure fun _ => .str _)⟩))
    · cases e
  · split at e
    · rename_i k1 hk
      split at e
      · cases e
        rename_i d hd
        obtain ⟨a, ks, rfl, ha, hv⟩ := valD_own h m1
        obtain ⟨u, hu, q⟩ := hv _ _ hd
        have r2 := h.rep m2
        rw [fz, keyD_kD hk] at r2
        exact .inr ⟨a, u, rfl, by rw [rep_key r2, ← hu]; exact .k ha, k _ _ q⟩
      · cases e
    · cases e
  · split at e
    · rename_i k1 hk
      simp only [Option.map_eq_some_iff] at e
      obtain ⟨d, hd, rfl⟩ := e
      obtain ⟨S, sb, rd, ad, _⟩ := h.readS
      obtain ⟨F, z⟩ := rd _ m1
      have r2 := h.rep m2
      rw [fz, keyD_kD hk] at r2
      cases z with
      | sh z =>
        cases z with
        | dic ha e1 r =>
          have z := valD_rep e1 r k1
          rw [hd] at z
          obtain ⟨u, hu, ru⟩ := z
          exact .inr ⟨_, u, rfl, by rw [rep_key r2, ← hu]; exact .k (sb _ _ ha).1, k _ _ (ad _ _ ru)⟩
    · cases e
  · cases e
end
end Den
end
section
/-! Den, part F: slices, built-ins, displays. -/
namespace Den
open PySem L2
section
variable {Γ : Gb} {P : Nat → Bool} {W : WX}
theorem CallR.or {X : Cx} {f : Value} {r r' : List V → Hp → VK → Prop} (h : CallR X f r) (h' : CallR X f r') : CallR X f (fun xs H Q => r xs H Q ∨ r' xs H Q) := by
  intro pins s σ H xs us Q I rs q
  rcases q with q | q
  · exact h pins s σ H xs us Q I rs q
  · exact h' pins s σ H xs us Q I rs q
/-! ### slices -/
def aP (g : Option aE) : Store → Res (Option Int) := fun ρ => match g with
  | none => .ok none ρ
  | some g => (g ρ).bind fun o ρ' => match o with
    | .sh (.int i) => .ok (some i) ρ'
    | _ => .stuck
def Sxo (Γ : Gb) (P : Nat → Bool) (W : WX) (to : TO) (p : Store → Res (Option Int)) : Prop := ∀ f σ ρ T H Q, SR Γ P f σ ρ T H →
  Good Γ P W f σ T (fun i ρ' => ∀ H', SR Γ P f σ ρ' T H' → Q i H') (p ρ) → to σ H Q
theorem sxo_none : Sxo Γ P W tNoPart (aP none) := fun f σ ρ T H Q h k => k H h
theorem sxo_some {te : TE} {g : aE} (h1 : Sx Γ P W te g) : Sxo Γ P W (tPart te) (aP (some g)) := fun f σ ρ T H Q h k => by
  refine h1 f σ ρ T H _ h ((Good.bind k).imp fun o ρ' k v H' s => ?_)
  split at k
  · rename_i i
    have : v = .int i := s.rs.int (by simp)
    exact ⟨i, this, k H' s.drop⟩
  · exact k.elim
def SlOk (Γ : Gb) (r : V → Option Int → Option Int → Hp → VK → Prop) (g : O → Option Int → Option Int → Option O) : Prop := ∀ c R H x ox i j w Q, RS Γ c R H → (x, ox) ∈ R → g ox i j = some w →
  (∀ v H', RS Γ c ((v, w) :: R) H' → Q v H') → r x i j H Q
def aSl (od : Od) (lo hi : Option aE) (g : O → Option Int → Option Int → Option O) : aE := fun ρ => (evA [od] ρ).bind fun rs ρ1 => (aP lo ρ1).bind fun i ρ2 => (aP hi ρ2).bind fun j ρ3 => match rsv ρ3 rs with
  | some [o] => match g o i j with
    | some w => .ok w ρ3
    | none => .stuck
  | _ => .stuck
theorem sx_sl {ta : TE} {tl th : TO} {od : Od} {lo hi : Option aE} {r : V → Option Int → Option Int → Hp → VK → Prop} {g : O → Option Int → Option Int → Option O} (ha : Sa Γ P W (tCons ta tNil) [od]) (hl : Sxo Γ P W tl (aP lo)) (hh : Sxo Γ P W th (aP hi)) (hr : SlOk Γ r g) :
    Sx Γ P W (tSl r ta tl th) (aSl od lo hi g) := fun f σ ρ T H Q h k => by
  refine ha f σ ρ T H (fun vs H1 => match vs with
    | [x] => tl σ H1 fun l H2 => th σ H2 fun u H3 => r x l u H3 Q
    | _ => True) h ((Good.bind k).imp fun rs ρ1 k vs T' H1 m s => ?_)
  match vs, rs, m with
  | [x], [q], m =>
    refine hl f σ ρ1 (T' ++ T) H1 _ s ((Good.bind k).more.imp fun i ρ2 k H2 s2 => ?_)
    refine hh f σ ρ2 (T' ++ T) H2 _ s2 ((Good.bind k).more.imp fun j ρ3 k H3 s3 => ?_)
    split at k
    · rename_i o eo
      split at k
      · rename_i w ew
        obtain ⟨ps, p1, p2, mem⟩ := rsv_ok m s3 eo
        match ps, p1, p2 with
        | [(x', o')], p1, p2 =>
          obtain rfl : x' = x := by simpa using p1
          obtain rfl : o' = o := by simpa using p2
          refine hr f.c _ H3 x' o' i j w Q s3.rs (mem _ (by simp)) ew fun v H4 q => k v H4 ?_
          have z : SR Γ P f σ ρ3 ((v, w) :: (T' ++ T)) H4 := ⟨s3.ok, s3.fix, q.perm List.perm_middle.symm⟩
          exact (z.permT (T' := T' ++ (v, w) :: T) List.perm_middle.symm).dropL
      · exact k.elim
    · exact k.elim
  | [], _, _ => trivial
  | _ :: _ :: _, _, _ => trivial
def cutD {α : Type} (ds : List α) (lo hi : Option Int) : List α := (ds.drop (HT.sIx ds.length 0 lo)).take (HT.sIx ds.length ds.length hi - HT.sIx ds.length 0 lo)
theorem RepL.cut {S : Hp} {xs : List V} {ds : List D} (r : RepL Γ S xs ds) (lo hi : Option Int) : RepL Γ S (cutV xs lo hi) (cutD ds lo hi) := by
  unfold cutV cutD
  rw [r.len]
  exact (r.drop _).take _
def gSl (o : O) (lo hi : Option Int) : Option O := match o with
  | .sh (.str z) => if z.length ≤ 16000000 then some (.sh (.str (cutS z lo hi))) else none
  | o => match tupD o with
    | some ds => some (.sh (.tup (cutD ds lo hi)))
    | none => match lstD o with
      | some ds => some (.lst ((cutD ds lo hi).map O.sh))
      | none => none
def rSlG (K : PySem.W.Frag) : V → Option Int → Option Int → Hp → VK → Prop := fun x lo hi H Q => rSlS x lo hi H Q ∨ rSlA K x lo hi H Q ∨ rSlL K x lo hi H Q
theorem or_sl {X : Cx} : SlR X (rSlG X.K) := sl_str.or (sl_tupA.or sl_list)
theorem ok_sl : SlOk Γ (rSlG Γ.K) gSl := by
  intro c R H x ox i j w Q h m e k
  unfold gSl at e
  split at e
  · split at e
    · cases e
      rename_i hl
      exact .inl ⟨_, h.str m, le_line hl, k _ _ (h.pure fun _ => .str _)⟩
    · cases e
  · split at e
    · cases e
      rename_i ds et
      obtain ⟨a, xs, rfl, ha, had⟩ := h.tup m et
      obtain ⟨S, sb, r, q⟩ := had.ex
      have hc : Had Γ c R H (cutV xs i j) (cutD ds i j) := ⟨S, sb, r.cut i j, q⟩
      refine .inr (.inl ⟨a, xs, rfl, ha, fun z => ?_, fun _ p hp => k _ _ (hc.newT hp)⟩)
      have : cutD ds i j = ds := by
        unfold cutD
        rw [r.len] at z
        rw [z.1, z.2, List.drop_zero, Nat.sub_zero, List.take_length]
      rw [this] at k
      rw [tupD_sh et] at m
      exact k _ _ (h.dup m)
    · split at e
      · cases e
        rename_i ds et
        obtain ⟨a, xs, rfl, ha, had⟩ := h.lst m et
        obtain ⟨S, sb, r, q⟩ := had.ex
        have hc : Had Γ c R H (cutV xs i j) (cutD ds i j) := ⟨S, sb, r.cut i j, q⟩
        exact .inr (.inr ⟨a, xs, rfl, .of ha, fun p hp => k _ _ (hc.newL hp)⟩)
      · cases e

/-! ### built-ins -/
/-- a call of a built-in with one argument -/
def C1 (r : List V → Hp → VK → Prop) : V → Hp → VK → Prop := fun x H Q => r [x] H Q
theorem sx_call1 {ta : TE} {od : Od} {r : List V → Hp → VK → Prop} {g : O → Option O} (ha : Sa Γ P W (tCons ta tNil) [od]) (h : Op1 Γ (C1 r) g) : Sx Γ P W (tCB r (tCons ta tNil)) (aOp [od] (l1 g)) := show Sx Γ P W (fun σ H Q => ta σ H fun x H1 => C1 r x H1 Q) _ from sx_op1 ha h
theorem sx_call2 {ta tb : TE} {od oe : Od} {r : List V → Hp → VK → Prop} {g : O → O → Option O} (ha : Sa Γ P W (tCons ta (tCons tb tNil)) [od, oe]) (h : Op2 Γ (fun x y H Q => r [x, y] H Q) g) : Sx Γ P W (tCB r (tCons ta (tCons tb tNil))) (aOp [od, oe] (l2 g)) := sx_op2 ha h
def gLen : O → Option O
  | .lst os => some (.sh (.int os.length))
  | .dic kvs => some (.sh (.int kvs.length))
  | .sh (.lst ds) => some (.sh (.int ds.length))
  | .sh (.tup ds) => some (.sh (.int ds.length))
  | .sh (.wls ds) => some (.sh (.int ds.length))
  | .sh (.dic ds) => some (.sh (.int ds.length))
  | .sh (.str z) => if z.length ≤ 16000000 then some (.sh (.int z.length)) else none
  | _ => none
def rLenG (K : PySem.W.Frag) : List V → Hp → VK → Prop := fun xs H Q => (∃ x n, xs = [x] ∧ LenV K x H n ∧ Q (.int n) H) ∨ (∃ a kvs, xs = [V.ref a] ∧ H a = some (.dK kvs) ∧ Q (.int kvs.length) H)
theorem or_len {X : Cx} : CallR X (.builtin "len") (rLenG X.K) := CallR.or call_len call_lenD
theorem ok_len : Op1 Γ (C1 (rLenG Γ.K)) gLen := by
  intro c R H x ox w Q h m e k
  have r := h.rep m
  unfold gLen at e
  split at e
  · cases e
    rw [fz] at r
    cases r with
    | lst ha hl =>
      refine .inl ⟨_, _, rfl, .inl ⟨_, .of ha, rfl⟩, ?_⟩
      rw [hl.len, fzL_map, List.length_map]
      exact k _ _ (h.pure fun _ => .int _)
  · cases e
    rw [fz] at r
    cases r with
    | dic ha e1 hl =>
      refine .inr ⟨_, _, rfl, ha, ?_⟩
      have q := congrArg List.length e1
      rw [List.length_map, List.length_map, fzKV_map, List.length_map] at q
      rw [← q]
      exact k _ _ (h.pure fun _ => .int _)
  · cases e
    rw [fz] at r
    cases r with
    | lst ha hl =>
      refine .inl ⟨_, _, rfl, .inl ⟨_, .of ha, rfl⟩, ?_⟩
      rw [hl.len]
      exact k _ _ (h.pure fun _ => .int _)
  · cases e
    rw [fz] at r
    cases r with
    | tup ha hl =>
      refine .inl ⟨_, _, rfl, .inr ⟨_, ha, rfl⟩, ?_⟩
      rw [hl.len]
      exact k _ _ (h.pure fun _ => .int _)
  · cases e
    rw [fz] at r
    cases r with
    | wls ha hl =>
      refine .inl ⟨_, _, rfl, .inl ⟨_, ha, rfl⟩, ?_⟩
      rw [hl.len]
      exact k _ _ (h.pure fun _ => .int _)
  · cases e
    rw [fz] at r
    cases r with
    | dic ha e1 hl =>
      refine .inr ⟨_, _, rfl, ha, ?_⟩
      have q := congrArg List.length e1
      rw [List.length_map, List.length_map] at q
      rw [← q]
      exact k _ _ (h.pure fun _ => .int _)
  · split at e
    · cases e
      rename_i hl
      obtain rfl := h.str m
      exact .inl ⟨_, _, rfl, ⟨le_line hl, rfl⟩, k _ _ (h.pure fun _ => .int _)⟩
    · cases e
  · cases e
/-- a written list: its items -/
theorem RS.wls {c : Ent} {R : List (V × O)} {H : Hp} {v : V} {ds : List D} (h : RS Γ c R H) (m : (v, O.sh (.wls ds)) ∈ R) : ∃ a xs, v = .ref a ∧ SqL Γ.K H a xs ∧ Had Γ c R H xs ds := by
  obtain ⟨S, sb, rd, ad⟩ := h.readS
  obtain ⟨F, x⟩ := rd _ m
  cases x with
  | sh r =>
    cases r with
    | wls ha hl => exact ⟨_, _, rfl, sqL_mono (fun a o e => (sb a o e).1) ha, ⟨S, sb, hl, ad⟩⟩
def gList : O → Option O
  | .sh (.wls ds) => some (.lst (ds.map O.sh))
  | o => match tupD o with
    | some ds => some (.lst (ds.map O.sh))
    | none => match lstD o with
      | some ds => some (.lst (ds.map O.sh))
      | none => match dicD o with
        | some kvs => some (.lst ((kvs.map Prod.fst).map O.sh))
        | none => none
def rListG (K : PySem.W.Frag) : List V → Hp → VK → Prop := fun xs H Q => (∃ p ys, xs = [.ref p] ∧ (SqL K H p ys ∨ SqT K H p ys) ∧ ∀ l, H l = none → Q (.ref l) (upd H l (.lst ys))) ∨
  (∃ (a : Addr) (kvs : List (Key × V)), xs = [.ref a] ∧ Rd H a (.dK kvs) ∧ ∀ p, H p = none → Q (.ref p) (upd H p (.lst (kvs.map fun kv => kV kv.1))))
theorem or_list {X : Cx} (hc : X.calm = true) : CallR X (.type "list") (rListG X.K) := CallR.or call_list_of (call_listD hc)
theorem repL_keys {S : Hp} : ∀ ks : List (Key × V), RepL Γ S (ks.map fun kv => kV kv.1) (ks.map fun kv => kD kv.1)
  | [] => .nil
  | (k, v) :: ks => .cons (by cases k <;> constructor) (repL_keys ks)
theorem ok_list : Op1 Γ (C1 (rListG Γ.K)) gList := by
  intro c R H x ox w Q h m e k
  unfold gList at e
  split at e
  · cases e
    obtain ⟨a, xs, rfl, ha, had⟩ := h.wls m
    exact .inl ⟨a, xs, rfl, .inl ha, fun p hp => k _ _ (had.newL hp)⟩
  · split at e
    · cases e
      rename_i et
      obtain ⟨a, xs, rfl, ha, had⟩ := h.tup m et
      exact .inl ⟨a, xs, rfl, .inr ha, fun p hp => k _ _ (had.newL hp)⟩
    · split at e
      · cases e
        rename_i et
        obtain ⟨a, xs, rfl, ha, had⟩ := h.lst m et
        exact .inl ⟨a, xs, rfl, .inl (.of ha), fun p hp => k _ _ (had.newL hp)⟩
      · split at e
        · cases e
          rename_i kvs ed
          obtain ⟨a, ks, rfl, ha, e1, _⟩ := h.dic m ed
          obtain ⟨S, sb, rd, q⟩ := h.readS
          have hc : Had Γ c R H (ks.map fun kv => kV kv.1) (kvs.map Prod.fst) := ⟨S, sb, by rw [e1]; exact repL_keys ks, q⟩
          exact .inr ⟨a, ks, rfl, .inl ha, fun p hp => k _ _ (hc.newL hp)⟩
        · cases e
def gTuple (o : O) : Option O := match tupD o with
  | some ds => some (.sh (.tup ds))
  | none => match lstD o with
    | some ds => some (.sh (.tup ds))
    | none => none
theorem ok_tuple : Op1 Γ (C1 fun xs H Q => ∃ p ys, xs = [.ref p] ∧ ((SqL Γ.K H p ys ∧ ∀ l, H l = none → Q (.ref l) (upd H l (.tup ys))) ∨ (SqT Γ.K H p ys ∧ Q (.ref p) H))) gTuple := by
  intro c R H x ox w Q h m e k
  unfold gTuple at e
  split at e
  · cases e
    rename_i et
    obtain ⟨a, xs, rfl, ha, had⟩ := h.tup m et
    rw [tupD_sh et] at m
    exact ⟨a, xs, rfl, .inr ⟨ha, k _ _ (h.dup m)⟩⟩
  · split at e
    · cases e
      rename_i et
      obtain ⟨a, xs, rfl, ha, had⟩ := h.lst m et
      exact ⟨a, xs, rfl, .inl ⟨.of ha, fun p hp => k _ _ (had.newT hp)⟩⟩
    · cases e
def gInt : O → Option O
  | .sh (.int i) => some (.sh (.int i))
  | .sh (.bl b) => some (.sh (.int (if b then 1 else 0)))
  | .sh (.str a) => if a.length ≤ 640 then (PySem.intText? a).map fun n => .sh (.int n) else none
  | _ => none
def rIntG : List V → Hp → VK → Prop := fun xs H Q => ((∃ i, xs = [.int i] ∧ Q (.int i) H) ∨ ∃ k, xs = [.bl k] ∧ Q (.int (if k then 1 else 0)) H) ∨ (∃ a n, xs = [.str a] ∧ PySem.intText? a = some n ∧ a.length ≤ 640 ∧ Q (.int n) H)
theorem or_int {X : Cx} : CallR X (.type "int") rIntG := CallR.or call_int1 call_int_str
theorem ok_int : Op1 Γ (C1 rIntG) gInt := by
  intro c R H x ox w Q h m e k
  unfold gInt at e
  split at e
  · cases e
    obtain rfl := h.int m
    exact .inl (.inl ⟨_, rfl, k _ _ (h.pure fun _ => .int _)⟩)
  · cases e
    obtain rfl := h.bl m
    exact .inl (.inr ⟨_, rfl, k _ _ (h.pure fun _ => .int _)⟩)
  · split at e
    · rename_i hl
      simp only [Option.map_eq_some_iff] at e
      obtain ⟨n, en, rfl⟩ := e
      obtain rfl := h.str m
      exact .inr ⟨_, n, rfl, en, hl, k _ _ (h.pure fun _ => .int _)⟩
    · cases e
  · cases e
def gStr : O → Option O
  | .sh (.int i) => if i.natAbs.log2 < 1920 then some (.sh (.str (toString i))) else none
  | .sh (.str a) => some (.sh (.str a))
  | _ => none
def rStrG : List V → Hp → VK → Prop := fun xs H Q => (∃ i, xs = [.int i] ∧ i.natAbs.log2 < 1920 ∧ Q (.str (toString i)) H) ∨ (∃ a, xs = [.str a] ∧ Q (.str a) H)
theorem or_str {X : Cx} : CallR X (.type "str") rStrG := CallR.or call_str_int SkE.call_str_str
theorem ok_str : Op1 Γ (C1 rStrG) gStr := by
  intro c R H x ox w Q h m e k
  unfold gStr at e
  split at e
  · split at e
    · cases e
      rename_i hl
      obtain rfl := h.int m
      exact .inl ⟨_, rfl, hl, k _ _ (h.pure fun _ => .str _)⟩
    · cases e
  · cases e
    obtain rfl := h.str m
    exact .inr ⟨_, rfl, k _ _ (h.pure fun _ => .str _)⟩
  · cases e
def gMin2 : O → O → Option O
  | .sh (.int i), .sh (.int j) => some (.sh (.int (if j < i then j else i)))
  | _, _ => none
def gMax2 : O → O → Option O
  | .sh (.int i), .sh (.int j) => some (.sh (.int (if j > i then j else i)))
  | _, _ => none
theorem ok_min2 : Op2 Γ (fun x y H Q => (fun xs H (Q : VK) => ∃ i j : Int, xs = [V.int i, .int j] ∧ Q (.int (if j < i then j else i)) H) [x, y] H Q) gMin2 := by
  intro c R H x ox y oy w Q h m1 m2 e k
  unfold gMin2 at e
  split at e
  · cases e
    obtain rfl := h.int m1
    obtain rfl := h.int m2
    exact ⟨_, _, rfl, k _ _ (h.pure fun _ => .int _)⟩
  · cases e
theorem ok_max2 : Op2 Γ (fun x y H Q => (fun xs H (Q : VK) => ∃ i j : Int, xs = [V.int i, .int j] ∧ Q (.int (if j > i then j else i)) H) [x, y] H Q) gMax2 := by
  intro c R H x ox y oy w Q h m1 m2 e k
  unfold gMax2 at e
  split at e
  · cases e
    obtain rfl := h.int m1
    obtain rfl := h.int m2
    exact ⟨_, _, rfl, k _ _ (h.pure fun _ => .int _)⟩
  · cases e
def intsD : List D → Option (List Int)
  | [] => some []
  | .int i :: r => (intsD r).map (i :: ·)
  | _ :: _ => none
theorem intsD_some : ∀ {ds : List D} {ns : List Int}, intsD ds = some ns → ds = ns.map D.int
  | [], _, e => by cases e; rfl
  | .int i :: r, _, e => by
    simp only [intsD, Option.map_eq_some_iff] at e
    obtain ⟨ns, e, rfl⟩ := e
    rw [intsD_some e, List.map_cons]
theorem intsD_map : ∀ ns : List Int, intsD (ns.map D.int) = some ns
  | [] => rfl
  | n :: ns => by rw [List.map_cons, intsD, intsD_map ns, Option.map_some]
def boolsD : List D → Option (List Bool)
  | [] => some []
  | .bl i :: r => (boolsD r).map (i :: ·)
  | _ :: _ => none
theorem boolsD_some : ∀ {ds : List D} {ns : List Bool}, boolsD ds = some ns → ds = ns.map D.bl
  | [], _, e => by cases e; rfl
  | .bl i :: r, _, e => by
    simp only [boolsD, Option.map_eq_some_iff] at e
    obtain ⟨ns, e, rfl⟩ := e
    rw [boolsD_some e, List.map_cons]
theorem boolsD_map : ∀ ns : List Bool, boolsD (ns.map D.bl) = some ns
  | [] => rfl
  | n :: ns => by rw [List.map_cons, boolsD, boolsD_map ns, Option.map_some]
def strsD : List D → Option (List Str)
  | [] => some []
  | .str i :: r => (strsD r).map (i :: ·)
  | _ :: _ => none
theorem strsD_some : ∀ {ds : List D} {ns : List Str}, strsD ds = some ns → ds = ns.map D.str
  | [], _, e => by cases e; rfl
  | .str i :: r, _, e => by
    simp only [strsD, Option.map_eq_some_iff] at e
    obtain ⟨ns, e, rfl⟩ := e
    rw [strsD_some e, List.map_cons]
theorem strsD_map : ∀ ns : List Str, strsD (ns.map D.str) = some ns
  | [] => rfl
  | n :: ns => by rw [List.map_cons, strsD, strsD_map ns, Option.map_some]
def onInts (f : List Int → Option Int) (o : O) : Option O := match lstD o with
  | some ds => match intsD ds with
    | some ns => (f ns).map fun m => .sh (.int m)
    | none => none
  | none => none
def onBools (f : List Bool → Bool) (o : O) : Option O := match lstD o with
  | some ds => match boolsD ds with
    | some ns => some (.sh (.bl (f ns)))
    | none => none
  | none => none
def gMinL := onInts List.min?
def gMaxL := onInts List.max?
def gSum := onInts fun ns => some ns.sum
def gAny := onBools fun bs => bs.any id
def gAll := onBools fun bs => bs.all id
theorem RS.ints {c : Ent} {R : List (V × O)} {H : Hp} {v : V} {o : O} {ds : List D} {ns : List Int} (h : RS Γ c R H) (m : (v, o) ∈ R) (e : lstD o = some ds) (e2 : intsD ds = some ns) : ∃ a, v = .ref a ∧ SqL Γ.K H a (ns.map V.int) := by
  obtain ⟨a, xs, rfl, ha, had⟩ := h.lst m e
  obtain ⟨S, sb, r, _⟩ := had.ex
  rw [intsD_some e2] at r
  rw [r.ints] at ha
  exact ⟨a, rfl, .of ha⟩
theorem RS.bools {c : Ent} {R : List (V × O)} {H : Hp} {v : V} {o : O} {ds : List D} {ns : List Bool} (h : RS Γ c R H) (m : (v, o) ∈ R) (e : lstD o = some ds) (e2 : boolsD ds = some ns) : ∃ a, v = .ref a ∧ SqL Γ.K H a (ns.map V.bl) := by
  obtain ⟨a, xs, rfl, ha, had⟩ := h.lst m e
  obtain ⟨S, sb, r, _⟩ := had.ex
  rw [boolsD_some e2] at r
  rw [r.bools] at ha
  exact ⟨a, rfl, .of ha⟩
theorem RS.strs {c : Ent} {R : List (V × O)} {H : Hp} {v : V} {o : O} {ds : List D} {ns : List Str} (h : RS Γ c R H) (m : (v, o) ∈ R) (e : lstD o = some ds) (e2 : strsD ds = some ns) : ∃ a, v = .ref a ∧ H a = some (.lst (ns.map V.str)) := by
  obtain ⟨a, xs, rfl, ha, had⟩ := h.lst m e
  obtain ⟨S, sb, r, _⟩ := had.ex
  rw [strsD_some e2] at r
  rw [r.strs] at ha
  exact ⟨a, rfl, ha⟩
theorem ok_minL : Op1 Γ (C1 (rMin Γ.K)) gMinL := by
  intro c R H x ox w Q h m e k
  unfold gMinL onInts at e
  split at e
  · rename_i ds e1
    split at e
    · rename_i ns e2
      simp only [Option.map_eq_some_iff] at e
      obtain ⟨z, ez, rfl⟩ := e
      obtain ⟨a, rfl, ha⟩ := h.ints m e1 e2
      have hz := List.min?_eq_some_iff.mp ez
      refine ⟨a, ns, rfl, ha, List.length_pos_of_mem hz.1, fun y hy hle => ?_⟩
      have : y = z := Int.le_antisymm (hle z hz.1) (hz.2 y hy)
      rw [this]
      exact k _ _ (h.pure fun _ => .int _)
    · cases e
  · cases e
theorem ok_maxL : Op1 Γ (C1 (rMax Γ.K)) gMaxL := by
  intro c R H x ox w Q h m e k
  unfold gMaxL onInts at e
  split at e
  · rename_i ds e1
    split at e
    · rename_i ns e2
      simp only [Option.map_eq_some_iff] at e
      obtain ⟨z, ez, rfl⟩ := e
      obtain ⟨a, rfl, ha⟩ := h.ints m e1 e2
      have hz := List.max?_eq_some_iff.mp ez
      refine ⟨a, ns, rfl, ha, List.length_pos_of_mem hz.1, fun y hy hle => ?_⟩
      have : y = z := Int.le_antisymm (hz.2 y hy) (hle z hz.1)
      rw [this]
      exact k _ _ (h.pure fun _ => .int _)
    · cases e
  · cases e
theorem ok_sum : Op1 Γ (C1 (rSum Γ.K)) gSum := by
  intro c R H x ox w Q h m e k
  unfold gSum onInts at e
  split at e
  · rename_i ds e1
    split at e
    · rename_i ns e2
      cases e
      obtain ⟨a, rfl, ha⟩ := h.ints m e1 e2
      exact ⟨a, ns, rfl, ha, k _ _ (h.pure fun _ => .int _)⟩
    · cases e
  · cases e
theorem ok_any : Op1 Γ (C1 (rAny Γ.K)) gAny := by
  intro c R H x ox w Q h m e k
  unfold gAny onBools at e
  split at e
  · rename_i ds e1
    split at e
    · rename_i ns e2
      cases e
      obtain ⟨a, rfl, ha⟩ := h.bools m e1 e2
      exact ⟨a, ns, rfl, ha, k _ _ (h.pure fun _ => .bl _)⟩
    · cases e
  · cases e
theorem ok_all : Op1 Γ (C1 (rAll Γ.K)) gAll := by
  intro c R H x ox w Q h m e k
  unfold gAll onBools at e
  split at e
  · rename_i ds e1
    split at e
    · rename_i ns e2
      cases e
      obtain ⟨a, rfl, ha⟩ := h.bools m e1 e2
      exact ⟨a, ns, rfl, ha, k _ _ (h.pure fun _ => .bl _)⟩
    · cases e
  · cases e
end
end Den
end
section
/-! Den, part G: sorting of texts, isinstance. -/
namespace Den
open PySem L2 PySem.Spec PyProof.Rows
section
variable {Γ : Gb} {P : Nat → Bool} {W : WX}
/-! ### sorted of texts -/
def leStr (a b : Str) : Bool := !ltCps b.cps.toList a.cps.toList
def sortStr (xs : List Str) : List Str := xs.mergeSort leStr
theorem ltCps_lt (a b : List Nat) : ltCps a b = decide (a < b) := PyProof.Rows.ltCps_eq a b
theorem leStr_iff {a b : Str} : leStr a b = true ↔ ¬ b.cps.toList < a.cps.toList := by
  unfold leStr
  rw [ltCps_lt, Bool.not_eq_true', decide_eq_false_iff_not]
theorem leStr_trans {a b c : Str} (h1 : leStr a b = true) (h2 : leStr b c = true) : leStr a c = true := by
  rw [leStr_iff] at *
  have h1 : a.cps.toList ≤ b.cps.toList := h1
  have h2 : b.cps.toList ≤ c.cps.toList := h2
  exact List.le_trans h1 h2
theorem leStr_total (a b : Str) : (leStr a b || leStr b a) = true := by
  rw [Bool.or_eq_true, leStr_iff, leStr_iff]
  rcases List.le_total a.cps.toList b.cps.toList with h | h
  · exact .inl h
  · exact .inr h
theorem str_ext {a b : Str} (h : a.cps.toList = b.cps.toList) : a = b := by
  obtain ⟨⟨x⟩⟩ := a
  obtain ⟨⟨y⟩⟩ := b
  have : x = y := h
  rw [this]
theorem leStr_antisymm {a b : Str} (h1 : leStr a b = true) (h2 : leStr b a = true) : a = b := by
  rw [leStr_iff] at *
  have h1 : a.cps.toList ≤ b.cps.toList := h1
  have h2 : b.cps.toList ≤ a.cps.toList := h2
  exact str_ext (List.le_antisymm h1 h2)
theorem sortStr_perm (xs : List Str) : (sortStr xs).Perm xs := List.mergeSort_perm xs leStr
theorem sortStr_sorted (xs : List Str) : (sortStr xs).Pairwise (fun a b => leStr a b = true) := List.pairwise_mergeSort (le := leStr) (fun a b c h1 h2 => leStr_trans h1 h2) (fun a b => leStr_total a b) xs
theorem rising_all : ∀ {l : List Str} {p : Str}, risingS p l = true → (p :: l).Pairwise (fun a b => leStr a b = true)
  | [], p, _ => by simp
  | x :: r, p, h => by
    simp only [risingS, Bool.and_eq_true] at h
    have ih := rising_all h.2
    refine List.pairwise_cons.mpr ⟨fun b hb => ?_, ih⟩
    rcases List.mem_cons.mp hb with rfl | hb
    · exact h.1
    · exact leStr_trans h.1 ((List.pairwise_cons.mp ih).1 b hb)
theorem sorted_all {l : List Str} (h : sortedS l = true) : l.Pairwise (fun a b => leStr a b = true) := by
  cases l with
  | nil => simp
  | cons x r => exact rising_all h
theorem sortStr_eq {xs ys : List Str} (p : ys.Perm xs) (h : sortedS ys = true) : ys = sortStr xs :=
  List.Perm.eq_of_pairwise (le := fun a b => leStr a b = true) (fun a b _ _ h1 h2 => leStr_antisymm h1 h2) (sorted_all h) (sortStr_sorted xs) (p.trans (sortStr_perm xs).symm)
def gSortedS (o : O) : Option O := match lstD o with
  | some ds => match strsD ds with
    | some ss => if ss.length < 64 then some (.lst (((sortStr ss).map D.str).map O.sh)) else none
    | none => none
  | none => none
theorem ok_sortedS : Op1 Γ (C1 (rSortedS Γ.K)) gSortedS := by
  intro c R H x ox w Q h m e k
  unfold gSortedS at e
  split at e
  · rename_i ds e1
    split at e
    · rename_i ss e2
      split at e
      · cases e
        rename_i hl
        obtain ⟨a, rfl, ha⟩ := h.strs m e1 e2
        refine ⟨a, ss, rfl, .of ha, hl, fun ys p hp hs hn => ?_⟩
        rw [sortStr_eq hp hs]
        obtain ⟨S, sb, rd, q⟩ := h.readS
        have hc : Had Γ c R H ((sortStr ss).map V.str) ((sortStr ss).map D.str) := ⟨S, sb, repL_strs, q⟩
        exact k _ _ (hc.newL hn)
      · cases e
    · cases e
  · cases e
/-! ### isinstance of built-in classes -/
def tyN : D → Option String
  | .non => some "NoneType"
  | .bl _ => some "bool"
  | .int _ => some "int"
  | .str _ => some "str"
  | .tup _ => some "tuple"
  | .lst _ => some "list"
  | .wls _ => some "list"
  | .dic _ => some "dict"
  | _ => none
def isTy (t n : String) : Bool := t == n || (t == "bool" && n == "int")
def okTy (n : String) : Bool := n == "int" || n == "bool" || n == "str" || n == "tuple" || n == "list" || n == "dict"
theorem kit_all (t n : String) (ht : t = "NoneType" ∨ t = "bool" ∨ t = "int" ∨ t = "str" ∨ t = "tuple" ∨ t = "list" ∨ t = "dict") (hn : n = "int" ∨ n = "bool" ∨ n = "str" ∨ n = "tuple" ∨ n = "list" ∨ n = "dict") : kitB t n = some (isTy t n) := by
  rcases ht with rfl | rfl | rfl | rfl | rfl | rfl | rfl <;> rcases hn with rfl | rfl | rfl | rfl | rfl | rfl <;> decide +kernel
theorem tyN_ok {d : D} {t : String} (e : tyN d = some t) : t = "NoneType" ∨ t = "bool" ∨ t = "int" ∨ t = "str" ∨ t = "tuple" ∨ t = "list" ∨ t = "dict" := by
  cases d <;> simp [tyN] at e <;> subst e <;> simp
theorem ty_of {H : Hp} {v : V} {d : D} {t : String} (r : Rep Γ H v d) (e : tyN d = some t) : TyX Γ.K H v (.type t) := by
  cases r with
  | non => cases e; exact .base .non
  | bl b => cases e; exact .base (.bl b)
  | int i => cases e; exact .base (.int i)
  | str x => cases e; exact .base (.str x)
  | tup hs _ =>
    cases e
    rcases hs with (hs | ⟨o, hs⟩) | ⟨o, its, n, hk, hc, _⟩
    · exact .base (.tup hs)
    · exact .fTuple hs
    · exact .kTuple hk hc
  | lst hs _ => cases e; exact .base (.lst hs)
  | wls hs _ =>
    cases e
    rcases hs with (hs | ⟨o, hs⟩) | ⟨o, its, n, hk, hc, _⟩
    · exact .base (.lst hs)
    · exact .base (.frz hs)
    · exact .kList hk hc
  | dic hs _ _ => cases e; exact .base (.dK hs)
  | obj _ _ _ => cases e
  | xd _ _ _ => cases e
def gIsi (n : String) (o : O) : Option O := (tyN (fz o)).map fun t => .sh (.bl (isTy t n))
theorem ok_isi {n : String} (hn : n = "int" ∨ n = "bool" ∨ n = "str" ∨ n = "tuple" ∨ n = "list" ∨ n = "dict") : Op1 Γ (fun x H Q => rIsi Γ.K [x, .ty n] H Q) (gIsi n) := by
  intro c R H x ox w Q h m e k
  simp only [gIsi, Option.map_eq_some_iff] at e
  obtain ⟨t, et, rfl⟩ := e
  exact ⟨x, .ty n, .type t, .type n, _, rfl, .ty n, ty_of (h.rep m) et, kit_ty (kit_all t n (tyN_ok et) hn), k _ _ (h.pure fun _ => .bl _)⟩
def gIsi2 (n1 n2 : String) (o : O) : Option O := (tyN (fz o)).map fun t => .sh (.bl (isTy t n1 || isTy t n2))
theorem ok_isi2 {n1 n2 : String} (h1 : n1 = "int" ∨ n1 = "bool" ∨ n1 = "str" ∨ n1 = "tuple" ∨ n1 = "list" ∨ n1 = "dict") (h2 : n2 = "int" ∨ n2 = "bool" ∨ n2 = "str" ∨ n2 = "tuple" ∨ n2 = "list" ∨ n2 = "dict") :
    Op1 Γ (fun x H Q => ([V.ty n1, V.ty n2] : List V).length ≤ sizeLine ∧ ∀ p, H p = none → rIsiT Γ.K [x, .ref p] (upd H p (.tup [.ty n1, .ty n2])) Q) (gIsi2 n1 n2) := by
  intro c R H x ox w Q h m e k
  simp only [gIsi2, Option.map_eq_some_iff] at e
  obtain ⟨t, et, rfl⟩ := e
  refine ⟨by show 2 ≤ sizeLine; decide, fun p hp => ?_⟩
  have h' : RS Γ c R (upd H p (.tup [.ty n1, .ty n2])) := (h.new hp noT_tup).letgo
  refine ⟨x, p, [.ty n1, .ty n2], .type t, [.type n1, .type n2], _, rfl, upd_same, .cons (.ty n1) (.cons (.ty n2) .nil), ty_of (h'.rep m) et, ?_, k _ _ (h'.pure fun _ => .bl _)⟩
  have k1 := kit_ty (K := Γ.K) (kit_all t n1 (tyN_ok et) h1)
  have k2 := kit_ty (K := Γ.K) (kit_all t n2 (tyN_ok et) h2)
  refine kitAny_cons k1 (fun z => kitAny_cons k2 (fun z2 => ?_) fun z2 => by rw [z2, Bool.or_true]) fun z => by rw [z, Bool.true_or]
  rw [z, z2]
  rfl
end
end Den
end
section
/-! Den, part H: expressions as they stand in a text, with what they do. -/
namespace Den
open PySem L2 PySem.Spec PyProof.Rows
/-! ### names, constants -/
def aVar (i : Nat) : aE := fun ρ => match ρ[i]? with
  | some (some (.sh d)) => .ok (.sh d) ρ
  | some (some o) => .ok (.sh (fz o)) (ρ.set i (some (.sh (fz o))))
  | _ => .stuck
/-- a name's own thing is moved out of it -/
def aMove (i : Nat) : aE := fun ρ => match ρ[i]? with
  | some (some (.sh d)) => .ok (.sh d) ρ
  | some (some o) => .ok o (ρ.set i none)
  | _ => .stuck
def aC (d : D) : aE := fun ρ => .ok (.sh d) ρ
def aFz (g : aE) : aE := fun ρ => (g ρ).bind fun o ρ' => .ok (.sh (fz o)) ρ'
def aB (g : aE) : aT := fun ρ => (g ρ).bind fun o ρ' => match o with
  | .sh (.bl b) => .ok b ρ'
  | _ => .stuck
def truD : D → Option Bool
  | .non => some false
  | .bl b => some b
  | .int i => some (i != 0)
  | .str y => if y.length ≤ 16000000 then some ((y.length : Int) != 0) else none
  | .lst ds => some (!ds.isEmpty)
  | .tup ds => some (!ds.isEmpty)
  | .dic kvs => some (!kvs.isEmpty)
  | _ => none
def aTru (od : Od) : aT := fun ρ => (evA [od] ρ).bind fun rs ρ' => match rsv ρ' rs with
  | some [o] => match truD (fz o) with
    | some b => .ok b ρ'
    | none => .stuck
  | _ => .stuck
def aAnd (p q : aT) : aT := fun ρ => (p ρ).bind fun b ρ' => if b = true then q ρ' else .ok false ρ'
def aOr (p q : aT) : aT := fun ρ => (p ρ).bind fun b ρ' => if b = true then .ok true ρ' else q ρ'
def aNot (p : aT) : aT := fun ρ => (p ρ).bind fun b ρ' => .ok (!b) ρ'
def aIfE (p : aT) (g h : aE) : aE := fun ρ => (p ρ).bind fun b ρ' => if b = true then g ρ' else h ρ'
/-- a test's answer as a value -/
def aTV (p : aT) : aE := fun ρ => (p ρ).bind fun b ρ' => .ok (.sh (.bl b)) ρ'
/-- and, or as values, the first one True or False -/
def aAndV (p : aT) (g : aE) : aE := fun ρ => (p ρ).bind fun b ρ' => if b = true then g ρ' else .ok (.sh (.bl false)) ρ'
def aOrV (p : aT) (g : aE) : aE := fun ρ => (p ρ).bind fun b ρ' => if b = true then .ok (.sh (.bl true)) ρ' else g ρ'
section
variable {Γ : Gb} {P : Nat → Bool} {W : WX} {te ta tb : TE} {tt tu : TT} {g h : aE} {p q : aT} {i : Nat} {od : Od}
theorem SR.dupSlot {f : Fr} {σ : L2.St} {ρ : Store} {T : List (V × O)} {H : Hp} {d : D} (s : SR Γ P f σ ρ T H) (e : ρ[i]? = some (some (.sh d))) : ∃ v, σ[i]? = some (some v) ∧ SR Γ P f σ ρ ((v, .sh d) :: T) H := by
  obtain ⟨v, hv, _⟩ := s.take e
  refine ⟨v, hv, s.ok, s.fix, ?_⟩
  exact (s.rs.dup (v := v) (d := d) (List.mem_append_left _ (slots_mem s.ok e hv))).perm List.perm_middle.symm
theorem SR.dup0 {f : Fr} {σ : L2.St} {ρ : Store} {T : List (V × O)} {H : Hp} {v : V} {d : D} (s : SR Γ P f σ ρ ((v, .sh d) :: T) H) : SR Γ P f σ ρ ((v, .sh d) :: (v, .sh d) :: T) H :=
  s.mapT (T' := (v, .sh d) :: (v, .sh d) :: T) fun R q => q.dup (by simp)
theorem sx_var : Sx Γ P W (tVar i) (aVar i) := fun f σ ρ T H Q s k => by
  unfold aVar at k
  split at k
  · rename_i d e
    obtain ⟨v, hv, s'⟩ := s.dupSlot e
    exact ⟨v, hv, k v H s'⟩
  · rename_i o _ e
    obtain ⟨v, hv, s'⟩ := s.take e
    refine ⟨v, hv, k v H ?_⟩
    have z := (s'.fz.dup0).back hv
    rw [List.set_set] at z
    exact z
  · exact k.elim
theorem sx_move : Sx Γ P W (tVar i) (aMove i) := fun f σ ρ T H Q s k => by
  unfold aMove at k
  split at k
  · rename_i d e
    obtain ⟨v, hv, s'⟩ := s.dupSlot e
    exact ⟨v, hv, k v H s'⟩
  · rename_i o _ e
    obtain ⟨v, hv, s'⟩ := s.take e
    exact ⟨v, hv, k v H s'⟩
  · exact k.elim
theorem sx_c {v : V} {d : D} (r : ∀ S, Rep Γ S v d) : Sx Γ P W (tC v) (aC d) := fun f σ ρ T H Q s k => k v H (s.pure r)
theorem sx_fz (h1 : Sx Γ P W te g) : Sx Γ P W te (aFz g) := fun f σ ρ T H Q s k =>
  h1 f σ ρ T H Q s ((Good.bind k).imp fun o ρ' k v H' s' => k v H' s'.fz)
theorem sxt_b (h1 : Sx Γ P W te g) : Sxt Γ P W (tTest te) (aB g) := fun f σ ρ T H Q s k => by
  refine h1 f σ ρ T H _ s ((Good.bind k).imp fun o ρ' k v H' s' => ?_)
  split at k
  · rename_i b
    have : v = .bl b := s'.rs.bl (by simp)
    exact ⟨b, this, k H' s'.drop⟩
  · exact k.elim
theorem tru_of {S H : Hp} (sb : Sub S H) {v : V} {d : D} {b : Bool} (r : Rep Γ H v d) (e : truD d = some b) : TruV Γ.K v H b := by
  cases r with
  | non => cases e; rfl
  | bl b => cases e; rfl
  | int i => cases e; rfl
  | str x =>
    simp only [truD] at e
    split at e
    · cases e
      rename_i hl
      exact ⟨le_line hl, rfl⟩
    · cases e
  | tup hs hl =>
    cases e
    refine .inr (.inl ⟨_, hs, ?_⟩)
    cases hl <;> rfl
  | lst hs hl =>
    cases e
    refine .inl ⟨_, .of hs, ?_⟩
    cases hl <;> rfl
  | wls hs hl => cases e
  | dic hs e1 hl =>
    cases e
    refine .inr (.inr ⟨_, hs, ?_⟩)
    rename_i kvs dkvs
    cases kvs <;> cases dkvs <;> first | rfl | (simp at e1)
  | obj _ _ _ => cases e
  | xd _ _ _ => cases e
theorem sxt_tru (ha : Sa Γ P W (tCons ta tNil) [od]) : Sxt Γ P W (fun σ H Q => ta σ H fun x H' => ∃ k, TruV Γ.K x H' k ∧ Q k H') (aTru od) := fun f σ ρ T H Q s k => by
  refine ha f σ ρ T H (fun vs H' => match vs with
    | [x] => ∃ k, TruV Γ.K x H' k ∧ Q k H'
    | _ => True) s ((Good.bind k).imp fun rs ρ1 k vs T' H1 m s1 => ?_)
  match vs, rs, m with
  | [x], [q], m =>
    split at k
    · rename_i o eo
      split at k
      · rename_i b eb
        obtain ⟨ps, p1, p2, mem⟩ := rsv_ok m s1 eo
        match ps, p1, p2 with
        | [(x', o')], p1, p2 =>
          obtain rfl : x' = x := by simpa using p1
          obtain rfl : o' = o := by simpa using p2
          obtain ⟨S, sb, _⟩ := s1.rs.readS
          exact ⟨b, tru_of sb (s1.rs.rep (mem _ (by simp))) eb, k H1 s1.dropL⟩
      · exact k.elim
    · exact k.elim
  | [], _, _ => trivial
  | _ :: _ :: _, _, _ => trivial
theorem sxt_and (h1 : Sxt Γ P W tt p) (h2 : Sxt Γ P W tu q) : Sxt Γ P W (tAnd tt tu) (aAnd p q) := fun f σ ρ T H Q s k => by
  refine h1 f σ ρ T H _ s ((Good.bind k).imp fun b ρ' k H' s' => ?_)
  cases b with
  | true => exact iteT (h2 f σ ρ' T H' Q s' k)
  | false => exact iteF (k H' s')
theorem sxt_or (h1 : Sxt Γ P W tt p) (h2 : Sxt Γ P W tu q) : Sxt Γ P W (tOr tt tu) (aOr p q) := fun f σ ρ T H Q s k => by
  refine h1 f σ ρ T H _ s ((Good.bind k).imp fun b ρ' k H' s' => ?_)
  cases b with
  | true => exact iteT (k H' s')
  | false => exact iteF (h2 f σ ρ' T H' Q s' k)
theorem sxt_not (h1 : Sxt Γ P W tt p) : Sxt Γ P W (tNot tt) (aNot p) := fun f σ ρ T H Q s k =>
  h1 f σ ρ T H _ s ((Good.bind k).imp fun b ρ' k H' s' => k H' s')
theorem sx_if (h1 : Sxt Γ P W tt p) (h2 : Sx Γ P W ta g) (h3 : Sx Γ P W tb h) : Sx Γ P W (tIf tt ta tb) (aIfE p g h) := fun f σ ρ T H Q s k => by
  refine h1 f σ ρ T H _ s ((Good.bind k).imp fun b ρ' k H' s' => ?_)
  cases b with
  | true => exact iteT (h2 f σ ρ' T H' Q s' k)
  | false => exact iteF (h3 f σ ρ' T H' Q s' k)
theorem sx_andV (h1 : Sx Γ P W ta g) (h2 : Sx Γ P W tb h) : Sx Γ P W (tAndV ta tb) (aAndV (aB g) h) := fun f σ ρ T H Q s k => by
  refine h1 f σ ρ T H _ s ((Good.bind (Good.bind k)).imp fun o ρ' k v H' s' => ?_)
  split at k
  · rename_i b
    have : v = .bl b := s'.rs.bl (by simp)
    refine ⟨b, this, ?_⟩
    cases b with
    | true => exact iteT (h2 f σ ρ' T H' Q s'.drop k)
    | false => exact iteF (k _ H' (s'.drop.pure fun _ => .bl _))
  · exact k.elim
theorem sx_orV (h1 : Sx Γ P W ta g) (h2 : Sx Γ P W tb h) : Sx Γ P W (tOrV ta tb) (aOrV (aB g) h) := fun f σ ρ T H Q s k => by
  refine h1 f σ ρ T H _ s ((Good.bind (Good.bind k)).imp fun o ρ' k v H' s' => ?_)
  split at k
  · rename_i b
    have : v = .bl b := s'.rs.bl (by simp)
    refine ⟨b, this, ?_⟩
    cases b with
    | true => exact iteT (k _ H' (s'.drop.pure fun _ => .bl _))
    | false => exact iteF (h2 f σ ρ' T H' Q s'.drop k)
  · exact k.elim
theorem sx_notV (h1 : Sx Γ P W ta g) : Sx Γ P W (tNotV ta) (aTV (aNot (aB g))) := fun f σ ρ T H Q s k => by
  refine h1 f σ ρ T H _ s ((Good.bind (Good.bind (Good.bind k))).imp fun o ρ' k v H' s' => ?_)
  split at k
  · rename_i b
    have : v = .bl b := s'.rs.bl (by simp)
    exact ⟨b, this, k _ H' (s'.drop.pure fun _ => .bl _)⟩
  · exact k.elim
end
/-! ### displays -/
def gTup (os : List O) : Option O := match shs os with
  | some ds => if ds.length ≤ 16000000 then some (.sh (.tup ds)) else none
  | none => none
def gLst (os : List O) : Option O := if os.length ≤ 16000000 then some (.lst os) else none
section
variable {Γ : Gb} {P : Nat → Bool} {W : WX}
theorem RS.hadAll {c : Ent} {R : List (V × O)} {H : Hp} (h : RS Γ c R H) {ps : List (V × O)} (mem : ∀ p ∈ ps, p ∈ R) {ds : List D} (e : shs (ps.map Prod.snd) = some ds) : Had Γ c R H (ps.map Prod.fst) ds := by
  obtain ⟨S, sb, rd, ad⟩ := h.readS
  refine ⟨S, sb, ?_, ad⟩
  have z := shs_some e
  clear e
  induction ps generalizing ds with
  | nil =>
    cases ds with
    | nil => exact .nil
    | cons _ _ => cases z
  | cons p ps ih =>
    obtain ⟨v, o⟩ := p
    cases ds with
    | nil => cases z
    | cons d ds =>
      simp only [List.map_cons, List.cons.injEq] at z
      obtain ⟨rfl, z⟩ := z
      obtain ⟨F, x⟩ := rd _ (mem (v, .sh d) (by simp))
      exact .cons (by cases x with | sh r => exact r) (ih (fun p hp => mem p (by simp [hp])) z)
theorem ok_tupD : OpOk Γ (fun xs H Q => xs.length ≤ sizeLine ∧ ∀ p, H p = none → Q (.ref p) (upd H p (.tup xs))) gTup := by
  intro c R H ps o Q h mem e k
  unfold gTup at e
  split at e
  · rename_i ds es
    split at e
    · cases e
      rename_i hl
      have had := h.hadAll mem es
      exact ⟨le_line (by rw [had.len]; exact hl), fun p hp => k _ _ (had.newT hp)⟩
    · cases e
  · cases e
def gLstS (os : List O) : Option O := match shs os with
  | some ds => if ds.length ≤ 16000000 then some (.lst (ds.map O.sh)) else none
  | none => none
theorem ok_lstD : OpOk Γ (fun xs H Q => xs.length ≤ sizeLine ∧ ∀ p, H p = none → Q (.ref p) (upd H p (.lst xs))) gLstS := by
  intro c R H ps o Q h mem e k
  unfold gLstS at e
  split at e
  · rename_i ds es
    split at e
    · cases e
      rename_i hl
      have had := h.hadAll mem es
      exact ⟨le_line (by rw [had.len]; exact hl), fun p hp => k _ _ (had.newL hp)⟩
    · cases e
  · cases e
end

/-! ### as they stand in a text -/
structure AE (X : Cx) (Γ : Gb) (P : Nat → Bool) (W : WX) (e : Expr) (te : TE) (g : aE) : Prop where
  pe : PE X e te
  sx : Sx Γ P W te g
structure AT (X : Cx) (Γ : Gb) (P : Nat → Bool) (W : WX) (e : Expr) (tt : TT) (g : aT) : Prop where
  pt : PT X e tt
  sx : Sxt Γ P W tt g
structure AO (X : Cx) (Γ : Gb) (P : Nat → Bool) (W : WX) (e : Expr) (te : TE) (od : Od) : Prop where
  pe : PE X e te
  sa : ∀ {ta : TA} {ods : List Od}, Sa Γ P W ta ods → Sa Γ P W (tCons te ta) (od :: ods)
structure AA (X : Cx) (Γ : Gb) (P : Nat → Bool) (W : WX) (es : List Expr) (ta : TA) (ods : List Od) : Prop where
  pa : PA X es ta
  sa : Sa Γ P W ta ods
section
variable {X : Cx} {Γ : Gb} {P : Nat → Bool} {W : WX} {te ta tb : TE} {tas : TA} {tt tu : TT} {g h : aE} {p q : aT} {od oa ob : Od} {ods : List Od} {e a b : Expr} {es : List Expr} {pos : Pos} {k : Nat}
theorem ae_var (i : Nat) {x : Str} (hN : X.N[i]? = some x := by rfl) (hv : Vis X.env.scope x := by first | exact Or.inl rfl | exact Or.inr (Or.inl rfl) | exact Or.inr (Or.inr rfl)) (hd : (x == ("__debug__" : Str)) = false := by decide)
    (hcd : (x == ("__classdict__" : Str)) = false := by decide) : AE X Γ P W (.Name x pos) (tVar i) (aVar i) := ⟨pe_var hN hv hd hcd, sx_var⟩
theorem ae_move (i : Nat) {x : Str} (hN : X.N[i]? = some x := by rfl) (hv : Vis X.env.scope x := by first | exact Or.inl rfl | exact Or.inr (Or.inl rfl) | exact Or.inr (Or.inr rfl)) (hd : (x == ("__debug__" : Str)) = false := by decide)
    (hcd : (x == ("__classdict__" : Str)) = false := by decide) : AE X Γ P W (.Name x pos) (tVar i) (aMove i) := ⟨pe_var hN hv hd hcd, sx_move⟩
theorem ao_pl (i : Nat) {x : Str} (hN : X.N[i]? = some x := by rfl) (hv : Vis X.env.scope x := by first | exact Or.inl rfl | exact Or.inr (Or.inl rfl) | exact Or.inr (Or.inr rfl)) (hd : (x == ("__debug__" : Str)) = false := by decide)
    (hcd : (x == ("__classdict__" : Str)) = false := by decide) : AO X Γ P W (.Name x pos) (tVar i) (.pl i) := ⟨pe_var hN hv hd hcd, sa_pl⟩
theorem ao_ex (h : AE X Γ P W e te g) : AO X Γ P W e te (.ex g) := ⟨h.pe, sa_ex h.sx⟩
theorem ao_fz (h : AE X Γ P W e te g) : AO X Γ P W e te (.ex (aFz g)) := ⟨h.pe, sa_ex (sx_fz h.sx)⟩
theorem ae_fz (h : AE X Γ P W e te g) : AE X Γ P W e te (aFz g) := ⟨h.pe, sx_fz h.sx⟩
theorem aa_nil : AA X Γ P W [] tNil [] := ⟨pa_nil, sa_nil⟩
theorem aa_cons (h1 : AO X Γ P W e te od) (h2 : AA X Γ P W es tas ods) (hs : starEach (e :: es) X.env = (false, eval e X.env) :: starEach es X.env := by rfl) : AA X Γ P W (e :: es) (tCons te tas) (od :: ods) :=
  ⟨pa_cons h1.pe h2.pa hs, h1.sa h2.sa⟩
theorem ae_int {i : Int} {j : Nat} : AE X Γ P W (.Constant (.int i) j pos) (tC (.int i)) (aC (.int i)) := ⟨pe_int, sx_c fun _ => .int _⟩
theorem ae_bl {b : Bool} {j : Nat} : AE X Γ P W (.Constant (.bool b) j pos) (tC (.bl b)) (aC (.bl b)) := ⟨pe_bl, sx_c fun _ => .bl _⟩
theorem ae_str {x : Str} {j : Nat} : AE X Γ P W (.Constant (.str x) j pos) (tC (.str x)) (aC (.str x)) := ⟨pe_str, sx_c fun _ => .str _⟩
theorem ae_non {j : Nat} : AE X Γ P W (.Constant .none j pos) (tC .non) (aC .non) := ⟨pe_non, sx_c fun _ => .non⟩
theorem ae_glob {x : Str} {v : V} {u : Value} {d : D} (hm : X.mg x = some u) (r : RelV v u) (rp : ∀ S, Rep Γ S v d) (hg : Gl X x := by rfl) (hd : (x == ("__debug__" : Str)) = false := by decide) : AE X Γ P W (.Name x pos) (tC v) (aC d) :=
  ⟨pe_glob hg hm r hd, sx_c rp⟩
theorem ae_bin {op : Operator} {r : R2} {f : O → O → Option O} (ok : Op2 Γ r f) (ho : OpR X (binaryOp op) r) (ha : AO X Γ P W a ta oa) (hb : AO X Γ P W b tb ob) : AE X Γ P W (.BinOp a op b pos) (tOp r ta tb) (aOp [oa, ob] (l2 f)) :=
  ⟨pe_op ho ha.pe hb.pe, sx_op2 (ha.sa (hb.sa sa_nil)) ok⟩
theorem sx_un {r : V → Hp → VK → Prop} {f : O → Option O} (ha : Sa Γ P W (tCons ta tNil) [oa]) (ok : Op1 Γ r f) : Sx Γ P W (tUn r ta) (aOp [oa] (l1 f)) := show Sx Γ P W (fun σ H Q => ta σ H fun x H1 => r x H1 Q) _ from sx_op1 ha ok
theorem sx_isN (ha : Sa Γ P W (tCons ta tNil) [oa]) : Sx Γ P W (tIsN ta) (aOp [oa] (l1 gIsN)) := show Sx Γ P W (fun σ H Q => ta σ H fun x H1 => (fun x H (Q : VK) => Q (.bl (decide (x = .non))) H) x H1 Q) _ from sx_op1 ha ok_isN
theorem sx_notN (ha : Sa Γ P W (tCons ta tNil) [oa]) : Sx Γ P W (tNotN ta) (aOp [oa] (l1 gNotN)) := show Sx Γ P W (fun σ H Q => ta σ H fun x H1 => (fun x H (Q : VK) => Q (.bl (!decide (x = .non))) H) x H1 Q) _ from sx_op1 ha ok_notN
theorem ae_un {op : UnaryOp} {r : V → Hp → VK → Prop} {f : O → Option O} (ok : Op1 Γ r f) (ho : UnR X (unaryOp op) r) (ha : AO X Γ P W a ta oa) : AE X Γ P W (.UnaryOp op a pos) (tUn r ta) (aOp [oa] (l1 f)) :=
  ⟨pe_un ho ha.pe, sx_un (ha.sa sa_nil) ok⟩
theorem ae_cmp {op : CmpOp} {r : R2} {f : O → O → Option O} (ok : Op2 Γ r f) (ho : OpR X (compareOp op) r) (ha : AO X Γ P W a ta oa) (hb : AO X Γ P W b tb ob) (hm : behindInMarks op b = false := by first | exact nomark _ | rfl) :
    AE X Γ P W (.Compare a [op] [b] pos) (tOp r ta tb) (aOp [oa, ob] (l2 f)) := ⟨pe_cmpR ho ha.pe hb.pe hm, sx_op2 (ha.sa (hb.sa sa_nil)) ok⟩
theorem at_cmp {op : CmpOp} {r : R2} {f : O → O → Option O} (ok : Op2 Γ r f) (ho : OpR X (compareOp op) r) (ha : AO X Γ P W a ta oa) (hb : AO X Γ P W b tb ob) (hm : behindInMarks op b = false := by first | exact nomark _ | rfl) :
    AT X Γ P W (.Compare a [op] [b] pos) (tTest (tOp r ta tb)) (aB (aOp [oa, ob] (l2 f))) := ⟨pt_cmpR ho ha.pe hb.pe hm, sxt_b (sx_op2 (ha.sa (hb.sa sa_nil)) ok)⟩
theorem ae_isN {j : Nat} {pos' : Pos} (ha : AO X Γ P W a ta oa) : AE X Γ P W (.Compare a [.Is] [.Constant .none j pos'] pos) (tIsN ta) (aOp [oa] (l1 gIsN)) := ⟨pe_cmp (pc_isN ha.pe), sx_isN (ha.sa sa_nil)⟩
theorem ae_notN {j : Nat} {pos' : Pos} (ha : AO X Γ P W a ta oa) : AE X Γ P W (.Compare a [.IsNot] [.Constant .none j pos'] pos) (tNotN ta) (aOp [oa] (l1 gNotN)) := ⟨pe_cmp (pc_notN ha.pe), sx_notN (ha.sa sa_nil)⟩
theorem at_isN {j : Nat} {pos' : Pos} (ha : AO X Γ P W a ta oa) : AT X Γ P W (.Compare a [.Is] [.Constant .none j pos'] pos) (tB (tIsN ta)) (aB (aOp [oa] (l1 gIsN))) := ⟨pt_cmp (pc_isN ha.pe), sxt_b (sx_isN (ha.sa sa_nil))⟩
theorem at_notN {j : Nat} {pos' : Pos} (ha : AO X Γ P W a ta oa) : AT X Γ P W (.Compare a [.IsNot] [.Constant .none j pos'] pos) (tB (tNotN ta)) (aB (aOp [oa] (l1 gNotN))) := ⟨pt_cmp (pc_notN ha.pe), sxt_b (sx_notN (ha.sa sa_nil))⟩
theorem sx_tOpC {r : R2} {v : V} {f : O → Option O} (ok : Op1 Γ (fun x H Q => r x v H Q) f) (ha : Sa Γ P W (tCons ta tNil) [oa]) : Sx Γ P W (tOp r ta (tC v)) (aOp [oa] (l1 f)) :=
  show Sx Γ P W (fun σ H Q => ta σ H fun x H1 => (fun x H Q => r x v H Q) x H1 Q) _ from sx_op1 ha ok
theorem ae_isB {c : Bool} {j : Nat} {pos' : Pos} (ha : AO X Γ P W a ta oa) : AE X Γ P W (.Compare a [.Is] [.Constant (.bool c) j pos'] pos) (tOp rIsBG ta (tC (.bl c))) (aOp [oa] (l1 (gIsB c))) := ⟨pe_cmpR op_isBG ha.pe pe_bl (nomark _), sx_tOpC ok_isB (ha.sa sa_nil)⟩
theorem ae_notB {c : Bool} {j : Nat} {pos' : Pos} (ha : AO X Γ P W a ta oa) : AE X Γ P W (.Compare a [.IsNot] [.Constant (.bool c) j pos'] pos) (tOp rNotBG ta (tC (.bl c))) (aOp [oa] (l1 (gNotB c))) := ⟨pe_cmpR op_notBG ha.pe pe_bl (nomark _), sx_tOpC ok_notB (ha.sa sa_nil)⟩
theorem at_isB {c : Bool} {j : Nat} {pos' : Pos} (ha : AO X Γ P W a ta oa) : AT X Γ P W (.Compare a [.Is] [.Constant (.bool c) j pos'] pos) (tTest (tOp rIsBG ta (tC (.bl c)))) (aB (aOp [oa] (l1 (gIsB c)))) := ⟨pt_cmpR op_isBG ha.pe pe_bl (nomark _), sxt_b (sx_tOpC ok_isB (ha.sa sa_nil))⟩
theorem at_notB {c : Bool} {j : Nat} {pos' : Pos} (ha : AO X Γ P W a ta oa) : AT X Γ P W (.Compare a [.IsNot] [.Constant (.bool c) j pos'] pos) (tTest (tOp rNotBG ta (tC (.bl c)))) (aB (aOp [oa] (l1 (gNotB c)))) := ⟨pt_cmpR op_notBG ha.pe pe_bl (nomark _), sxt_b (sx_tOpC ok_notB (ha.sa sa_nil))⟩
theorem ae_ix (hr : Room k X.A) (hK : X.K = Γ.K) (ha : AO X Γ P W a ta oa) (hb : AO X Γ P W b tb ob) (hs : PlainIx b := by exact fun _ _ => rfl) : AE X Γ P W (.Subscript a b pos) (tOp (rIxG Γ.K) ta tb) (aOp [oa, ob] (l2 gIx)) :=
  ⟨pe_ix (hK ▸ or_ix (by have := hr.un; omega)) ha.pe hb.pe hs, sx_op2 (ha.sa (hb.sa sa_nil)) ok_ix⟩
/-- a part of a slice -/
structure AP (X : Cx) (Γ : Gb) (P : Nat → Bool) (W : WX) (e : Option Expr) (to : TO) (p : Option aE) : Prop where
  po : PO X e to
  sx : Sxo Γ P W to (aP p)
theorem ap_none : AP X Γ P W none tNoPart none := ⟨po_none, sxo_none⟩
theorem ap_some (h : AE X Γ P W e te g) : AP X Γ P W (some e) (tPart te) (some g) := ⟨po_some h.pe, sxo_some h.sx⟩
theorem ae_sl {lo hi : Option Expr} {tl th : TO} {pl ph : Option aE} {p2 : Pos} (hK : X.K = Γ.K) (ha : AO X Γ P W a ta oa) (hl : AP X Γ P W lo tl pl) (hh : AP X Γ P W hi th ph) : AE X Γ P W (.Subscript a (.Slice lo hi none p2) pos) (tSl (rSlG Γ.K) ta tl th) (aSl oa pl ph gSl) :=
  ⟨pe_slice (hK ▸ or_sl) ha.pe hl.po hh.po, sx_sl (ha.sa sa_nil) hl.sx hh.sx ok_sl⟩
theorem ae_tup {x1 : Nat} (ha : AA X Γ P W es tas ods) : AE X Γ P W (.Tuple es x1 pos) (tTup tas) (aOp ods gTup) := ⟨pe_tup ha.pa, sx_op ha.sa ok_tupD⟩
theorem ae_lst (ha : AA X Γ P W es tas ods) : AE X Γ P W (.List es pos) (tLst tas) (aOp ods gLstS) := ⟨pe_lst ha.pa, sx_op ha.sa ok_lstD⟩
theorem ae_ifE {c : Expr} (hc : AT X Γ P W c tt p) (ha : AE X Γ P W a ta g) (hb : AE X Γ P W b tb h) : AE X Γ P W (.IfExp c a b pos) (tIf tt ta tb) (aIfE p g h) := ⟨pe_ifExp hc.pt ha.pe hb.pe, sx_if hc.sx ha.sx hb.sx⟩
theorem ae_and2 {rest : List Expr} (ha : AE X Γ P W a ta g) (hb : AE X Γ P W (.BoolOp .And (b :: rest) pos) tb h) : AE X Γ P W (.BoolOp .And (a :: b :: rest) pos) (tAndV ta tb) (aAndV (aB g) h) := ⟨pe_and ha.pe hb.pe, sx_andV ha.sx hb.sx⟩
theorem ae_or2 {rest : List Expr} (ha : AE X Γ P W a ta g) (hb : AE X Γ P W (.BoolOp .Or (b :: rest) pos) tb h) : AE X Γ P W (.BoolOp .Or (a :: b :: rest) pos) (tOrV ta tb) (aOrV (aB g) h) := ⟨pe_or ha.pe hb.pe, sx_orV ha.sx hb.sx⟩
theorem ae_one {op : BoolOp} (ha : AE X Γ P W a ta g) : AE X Γ P W (.BoolOp op [a] pos) ta g := ⟨pe_one ha.pe, ha.sx⟩
theorem ae_not (ha : AE X Γ P W a ta g) : AE X Γ P W (.UnaryOp .Not a pos) (tNotV ta) (aTV (aNot (aB g))) := ⟨pe_not ha.pe, sx_notV ha.sx⟩
theorem at_val (ha : AE X Γ P W e te g) (he : ∀ whole, isTrue e X.env whole = (do let v ← whole; standAt e.pos; holding [v] (truthy v)) := by intro _; rfl) : AT X Γ P W e (tB te) (aB g) := ⟨pt_val ha.pe he, sxt_b ha.sx⟩
theorem at_tru (hK : X.K = Γ.K) (ha : AO X Γ P W e te od) (he : ∀ whole, isTrue e X.env whole = (do let v ← whole; standAt e.pos; holding [v] (truthy v)) := by intro _; rfl) : AT X Γ P W e (fun σ H Q => te σ H fun x H' => ∃ k, TruV Γ.K x H' k ∧ Q k H') (aTru od) :=
  ⟨hK ▸ pt_truth ha.pe he, sxt_tru (ha.sa sa_nil)⟩
theorem at_not (ha : AT X Γ P W e tt p) : AT X Γ P W (.UnaryOp .Not e pos) (tNot tt) (aNot p) := ⟨pt_not ha.pt, sxt_not ha.sx⟩
/-- a chain of and, or as a test -/
structure AW (X : Cx) (Γ : Gb) (P : Nat → Bool) (W : WX) (e : Expr) (tt : TT) (g : aT) : Prop where
  pw : PW X e tt
  sx : Sxt Γ P W tt g
theorem aw_and1 (ha : AT X Γ P W a tt p) : AW X Γ P W (.BoolOp .And [a] pos) tt p := ⟨pw_and1 ha.pt, ha.sx⟩
theorem aw_or1 (ha : AT X Γ P W a tt p) : AW X Γ P W (.BoolOp .Or [a] pos) tt p := ⟨pw_or1 ha.pt, ha.sx⟩
theorem aw_and {rest : List Expr} (ha : AT X Γ P W a tt p) (hb : AW X Γ P W (.BoolOp .And (b :: rest) pos) tu q) : AW X Γ P W (.BoolOp .And (a :: b :: rest) pos) (tAnd tt tu) (aAnd p q) := ⟨pw_and ha.pt hb.pw, sxt_and ha.sx hb.sx⟩
theorem aw_or {rest : List Expr} (ha : AT X Γ P W a tt p) (hb : AW X Γ P W (.BoolOp .Or (b :: rest) pos) tu q) : AW X Γ P W (.BoolOp .Or (a :: b :: rest) pos) (tOr tt tu) (aOr p q) := ⟨pw_or ha.pt hb.pw, sxt_or ha.sx hb.sx⟩
theorem at_w (h : AW X Γ P W e tt p) : AT X Γ P W e tt p := ⟨h.pw.pt, h.sx⟩
/-! calls of built-ins -/
theorem ae_b1 {id : String} {x : Str} {r : List V → Hp → VK → Prop} {f : O → Option O} {pn : Pos} (ok : Op1 Γ (C1 r) f) (hr : CallR X (.builtin id) r) (hm : X.mg x = none) (hv : bootBuiltins x = some (.builtin id)) (ha : AO X Γ P W a ta oa) (hg : Gl X x := by rfl)
    (hn : x ≠ "__name__" := by decide) (hdb : (x == ("__debug__" : Str)) = false := by decide) (he : starEach (a :: []) X.env = (false, eval a X.env) :: starEach [] X.env := by rfl) (hpl : (backTo pos (starEach [] X.env)).any (·.1) = false := by rfl) :
    AE X Γ P W (.Call (.Name x pn) [a] [] pos) (tCB r (tCons ta tNil)) (aOp [oa] (l1 f)) := ⟨pe_callB hr hg hm hv (pa_cons ha.pe pa_nil he) hn hdb he hpl, sx_call1 (ha.sa sa_nil) ok⟩
theorem ae_t1 {id : String} {x : Str} {r : List V → Hp → VK → Prop} {f : O → Option O} {pn : Pos} (ok : Op1 Γ (C1 r) f) (hr : CallR X (.type id) r) (hm : X.mg x = none) (hv : bootBuiltins x = some (.type id)) (ha : AO X Γ P W a ta oa) (hg : Gl X x := by rfl)
    (hn : x ≠ "__name__" := by decide) (hdb : (x == ("__debug__" : Str)) = false := by decide) (he : starEach (a :: []) X.env = (false, eval a X.env) :: starEach [] X.env := by rfl) (hpl : (backTo pos (starEach [] X.env)).any (·.1) = false := by rfl) :
    AE X Γ P W (.Call (.Name x pn) [a] [] pos) (tCB r (tCons ta tNil)) (aOp [oa] (l1 f)) := ⟨pe_callTy hr hg hm hv (pa_cons ha.pe pa_nil he) hn hdb he hpl, sx_call1 (ha.sa sa_nil) ok⟩
theorem ae_b2 {id : String} {x : Str} {r : List V → Hp → VK → Prop} {f : O → O → Option O} {pn : Pos} (ok : Op2 Γ (fun x y H Q => r [x, y] H Q) f) (hr : CallR X (.builtin id) r) (hm : X.mg x = none) (hv : bootBuiltins x = some (.builtin id)) (ha : AO X Γ P W a ta oa) (hb : AO X Γ P W b tb ob) (hg : Gl X x := by rfl)
    (hn : x ≠ "__name__" := by decide) (hdb : (x == ("__debug__" : Str)) = false := by decide) (he : starEach (a :: [b]) X.env = (false, eval a X.env) :: starEach [b] X.env := by rfl) (he2 : starEach (b :: []) X.env = (false, eval b X.env) :: starEach [] X.env := by rfl) (hpl : (backTo pos (starEach [b] X.env)).any (·.1) = false := by rfl) :
    AE X Γ P W (.Call (.Name x pn) [a, b] [] pos) (tCB r (tCons ta (tCons tb tNil))) (aOp [oa, ob] (l2 f)) := ⟨pe_callB hr hg hm hv (pa_cons ha.pe (pa_cons hb.pe pa_nil he2) he) hn hdb he hpl, sx_call2 (ha.sa (hb.sa sa_nil)) ok⟩
end
end Den
end
section
/-! Den, part I: what a for walks. -/
namespace Den
open PySem L2 PySem.Spec PyProof.Rows RZ
/-- an iterator that hands out the items ds, while the things Rj are held -/
structure IterOk (Γ : Gb) (J : It) (ds : List D) (Rj : List (V × O)) : Prop where
  go : ∀ c R i H, RS Γ c (Rj ++ R) H → i < ds.length → J.go i H
  stop : ∀ c R H, RS Γ c (Rj ++ R) H → J.stop ds.length H
  yld : ∀ c R i d x H H', RS Γ c (Rj ++ R) H → ds[i]? = some d → J.yld i H x H' → RS Γ c ((x, .sh d) :: (Rj ++ R)) H'
abbrev aI := Store → Res (List D)
def Sxi (Γ : Gb) (P : Nat → Bool) (W : WX) (wi : TI) (src : aI) : Prop := ∀ f σ ρ T H (R : It → Hp → Prop), SR Γ P f σ ρ T H →
  Good Γ P W f σ T (fun ds ρ' => ∀ J Rj H', IterOk Γ J ds Rj → SR Γ P f σ ρ' (Rj ++ T) H' → R J H') (src ρ) → wi σ H R
structure AI (X : Cx) (Γ : Gb) (P : Nat → Bool) (W : WX) (tg e : Expr) (wi : TI) (src : aI) : Prop where
  pi : PI X tg e wi
  sx : Sxi Γ P W wi src
/-- the items of a list, a tuple, a text -/
def itemsD : O → Option (List D)
  | .sh (.lst ds) => some ds
  | .sh (.wls ds) => some ds
  | .sh (.tup ds) => some ds
  | .sh (.str z) => some (z.cps.toList.map fun c => .str ⟨#[c]⟩)
  | _ => none
def aItems (g : aE) : aI := fun ρ => (g ρ).bind fun o ρ' => match itemsD o with
  | some ds => .ok ds ρ'
  | none => .stuck
def iAny (K : PySem.W.Frag) (tl : TE) : TI := fun σ H R => tl σ H fun x H1 => (∃ a, x = .ref a ∧ (∃ xs, SqL K H1 a xs) ∧ R (Itl K a) H1) ∨ (∃ a, x = .ref a ∧ (∃ xs, SqT K H1 a xs) ∧ R (Itt K a) H1) ∨ (∃ z, x = .str z ∧ R (Its z) H1)
theorem pi_any {X : Cx} {tg l : Expr} {tl : TE} (hl : PE X l tl) : PI X tg l (iAny X.K tl) := by
  refine ⟨fun pins s σ H R I h => ?_⟩
  refine thn (hl.run pins s σ H _ I h) fun v s1 ⟨x, H1, I1, r1, q1⟩ => ?_
  rcases q1 with ⟨a, e, ⟨xs, hq⟩, q⟩ | ⟨a, e, ⟨xs, hq⟩, q⟩ | ⟨x, e, q⟩
  · subst e
    cases r1
    obtain ⟨its, rv, p, hz⟩ := I1.list hq
    refine wpAny_pyIter_list p.isList ?_
    refine ⟨s1.heap.objs.size, [s1.heap.objs.size], _, _, H1, rfl, I1.kept (t' := s1.toks) fun b o e => Heap.get?_push_of_some _ e, turn_list a _, ⟨_, Heap.get?_push_size _ rfl, rfl, rfl⟩, fun b hb => ?_, q⟩
    have e : b = s1.heap.objs.size := by simpa using hb
    subst e
    exact I1.fpOk (Nat.le_refl _) (I1.hok.fresh (Nat.le_refl _))
  · subst e
    cases r1
    obtain ⟨its, rv, p, hz⟩ := I1.tuple hq
    refine wpAny_pyIter_tuple (show s1.heap.IsTuple a its.toArray from p) ?_
    refine ⟨s1.heap.objs.size, [s1.heap.objs.size], _, _, H1, rfl, I1.kept (t' := s1.toks) fun b o e => Heap.get?_push_of_some _ e, turn_tuple a _, ⟨_, Heap.get?_push_size _ rfl, rfl, rfl⟩, fun b hb => ?_, q⟩
    have e : b = s1.heap.objs.size := by simpa using hb
    subst e
    exact I1.fpOk (Nat.le_refl _) (I1.hok.fresh (Nat.le_refl _))
  · subst e
    obtain ⟨t, rfl⟩ := r1
    cases ha : x.cps.all (· < 128)
    · exact wpAny_pyIter_wide ha (pi_one (tk := s1.toks) I1 _ (turn_str _ x t "str_iterator" (.inr rfl)) ⟨_, Heap.get?_push_size _ rfl, rfl, rfl⟩ q)
    · exact wpAny_pyIter_ascii ha (pi_one (tk := s1.toks) I1 _ (turn_str _ x t "str_ascii_iterator" (.inl rfl)) ⟨_, Heap.get?_push_size _ rfl, rfl, rfl⟩ q)
section
variable {Γ : Gb} {P : Nat → Bool} {W : WX}
theorem RepL.at {S : Hp} {xs : List V} {ds : List D} {i : Nat} {d : D} {x : V} (r : RepL Γ S xs ds) (e : ds[i]? = some d) (h : xs[i]? = some x) : Rep Γ S x d := by
  obtain ⟨v, a, b⟩ := r.get e
  rw [h] at a
  cases a
  exact b
theorem lt_of_get {α : Type} {xs : List α} {i : Nat} {x : α} (h : xs[i]? = some x) : i < xs.length := (List.getElem?_eq_some_iff.mp h).1
theorem get_of_lt {α : Type} {xs : List α} {i : Nat} (h : i < xs.length) : ∃ x, xs[i]? = some x := ⟨_, List.getElem?_eq_getElem h⟩
/-- a list that is held, by its items -/
theorem iter_L {a : Addr} {d0 : D} {ds : List D} (hd : d0 = .lst ds ∨ d0 = .wls ds) : IterOk Γ (Itl Γ.K a) ds [(.ref a, .sh d0)] := by
  have key : ∀ c R H, RS Γ c ([(V.ref a, O.sh d0)] ++ R) H → ∃ xs, SqL Γ.K H a xs ∧ Had Γ c ((V.ref a, O.sh d0) :: R) H xs ds := by
    intro c R H h
    rcases hd with rfl | rfl
    · obtain ⟨a', xs, e, p, q⟩ := RS.lst (v := .ref a) (o := .sh (.lst ds)) h (by simp) rfl
      cases e
      exact ⟨xs, .of p, q⟩
    · obtain ⟨a', xs, e, p, q⟩ := RS.wls (v := .ref a) (ds := ds) h (by simp)
      cases e
      exact ⟨xs, p, q⟩
  refine ⟨fun c R i H h hi => ?_, fun c R H h => ?_, fun c R i d x H H' h e y => ?_⟩
  · obtain ⟨xs, p, q⟩ := key c R H h
    obtain ⟨x, hx⟩ := get_of_lt (xs := xs) (i := i) (by rw [q.len]; exact hi)
    exact ⟨xs, x, p, hx⟩
  · obtain ⟨xs, p, q⟩ := key c R H h
    exact ⟨xs, p, by rw [q.len]; exact Nat.le_refl _⟩
  · obtain ⟨xs, p, q⟩ := key c R H h
    obtain ⟨rfl, y⟩ := y
    obtain ⟨w, hw, z⟩ := q.get e
    have := y xs p
    rw [hw] at this
    cases this
    exact z
theorem iter_T {a : Addr} {ds : List D} : IterOk Γ (Itt Γ.K a) ds [(.ref a, .sh (.tup ds))] := by
  have key : ∀ c R H, RS Γ c ([(V.ref a, O.sh (.tup ds))] ++ R) H → ∃ xs, SqT Γ.K H a xs ∧ Had Γ c ((V.ref a, O.sh (.tup ds)) :: R) H xs ds := by
    intro c R H h
    obtain ⟨a', xs, e, p, q⟩ := RS.tup (v := .ref a) (o := .sh (.tup ds)) h (by simp) rfl
    cases e
    exact ⟨xs, p, q⟩
  refine ⟨fun c R i H h hi => ?_, fun c R H h => ?_, fun c R i d x H H' h e y => ?_⟩
  · obtain ⟨xs, p, q⟩ := key c R H h
    obtain ⟨x, hx⟩ := get_of_lt (xs := xs) (i := i) (by rw [q.len]; exact hi)
    exact ⟨xs, x, p, hx⟩
  · obtain ⟨xs, p, q⟩ := key c R H h
    exact ⟨xs, p, by rw [q.len]; exact Nat.le_refl _⟩
  · obtain ⟨xs, p, q⟩ := key c R H h
    obtain ⟨rfl, y⟩ := y
    obtain ⟨w, hw, z⟩ := q.get e
    have := y xs p
    rw [hw] at this
    cases this
    exact z
theorem iter_S {z : Str} : IterOk Γ (Its z) (z.cps.toList.map fun c => .str ⟨#[c]⟩) [] := by
  refine ⟨fun c R i H h hi => ?_, fun c R H h => ?_, fun c R i d x H H' h e y => ?_⟩
  · show i < z.cps.size
    simpa using hi
  · show z.cps.size ≤ _
    simp
  · obtain ⟨rfl, c', hc, rfl⟩ := y
    rw [List.getElem?_map, Array.getElem?_toList, hc] at e
    cases e
    exact h.pure fun _ => .str _
theorem sxi_any {te : TE} {g : aE} (h1 : Sx Γ P W te g) : Sxi Γ P W (iAny Γ.K te) (aItems g) := fun f σ ρ T H R s k => by
  refine h1 f σ ρ T H _ s ((Good.bind k).imp fun o ρ' k v H' s' => ?_)
  split at k
  · rename_i ds eds
    unfold itemsD at eds
    split at eds
    · cases eds
      obtain ⟨a, xs, rfl, p, q⟩ := RS.lst (v := v) (o := .sh (.lst ds)) s'.rs (by simp) rfl
      exact .inl ⟨a, rfl, ⟨xs, .of p⟩, k _ [(.ref a, .sh (.lst ds))] H' (iter_L (.inl rfl)) s'⟩
    · cases eds
      obtain ⟨a, xs, rfl, p, q⟩ := RS.wls (v := v) (ds := ds) s'.rs (by simp)
      exact .inl ⟨a, rfl, ⟨xs, p⟩, k _ [(.ref a, .sh (.wls ds))] H' (iter_L (.inr rfl)) s'⟩
    · cases eds
      obtain ⟨a, xs, rfl, p, q⟩ := RS.tup (v := v) (o := .sh (.tup ds)) s'.rs (by simp) rfl
      exact .inr (.inl ⟨a, rfl, ⟨xs, p⟩, k _ [(.ref a, .sh (.tup ds))] H' iter_T s'⟩)
    · cases eds
      rename_i z
      obtain rfl : v = .str z := s'.rs.str (by simp)
      exact .inr (.inr ⟨z, rfl, k _ [] H' iter_S s'.drop⟩)
    · cases eds
  · exact k.elim
/-! ranges -/
def rngD (lo : Int) (n : Nat) : List D := (List.range n).map fun i : Nat => .int (lo + i)
def aRng1 (g : aE) : aI := fun ρ => (g ρ).bind fun o ρ' => match o with
  | .sh (.int j) => if -1000000000 ≤ j ∧ j ≤ 1000000000 then .ok (rngD 0 j.toNat) ρ' else .stuck
  | _ => .stuck
def aRng2 (od oe : Od) : aI := fun ρ => (evA [od, oe] ρ).bind fun rs ρ' => match rsv ρ' rs with
  | some [.sh (.int i), .sh (.int j)] => if (-1000000000 ≤ i ∧ i ≤ 1000000000) ∧ -1000000000 ≤ j ∧ j ≤ 1000000000 then .ok (rngD i (j - i).toNat) ρ' else .stuck
  | _ => .stuck
/-- downward by ones -/
def dwnD (hi : Int) (n : Nat) : List D := (List.range n).map fun i : Nat => .int (hi + (i : Int) * (-1))
def aRngD (od oe : Od) : aI := fun ρ => (evA [od, oe] ρ).bind fun rs ρ' => match rsv ρ' rs with
  | some [.sh (.int i), .sh (.int j)] => if (-1000000000 ≤ i ∧ i ≤ 1000000000) ∧ -1000000000 ≤ j ∧ j ≤ 1000000000 then .ok (dwnD i (i - j).toNat) ρ' else .stuck
  | _ => .stuck
theorem iter_R {lo : Int} {n : Nat} : IterOk Γ (Itr lo n) (rngD lo n) [] := by
  refine ⟨fun c R i H h hi => ?_, fun c R H h => ?_, fun c R i d x H H' h e y => ?_⟩
  · show i < n
    simpa [rngD] using hi
  · show n ≤ _
    simp [rngD]
  · obtain ⟨rfl, rfl⟩ := y
    unfold rngD at e
    rw [List.getElem?_map] at e
    obtain ⟨j, hj, rfl⟩ := Option.map_eq_some_iff.mp e
    obtain ⟨hl, hj⟩ := List.getElem?_eq_some_iff.mp hj
    rw [List.getElem_range] at hj
    subst hj
    exact h.pure fun _ => .int _
theorem iter_C {hi : Int} {n : Nat} : IterOk Γ (Itc hi (-1) n) (dwnD hi n) [] := by
  refine ⟨fun c R i H h hlt => ?_, fun c R H h => ?_, fun c R i d x H H' h e y => ?_⟩
  · show i < n
    simpa [dwnD] using hlt
  · show n ≤ _
    simp [dwnD]
  · obtain ⟨rfl, rfl⟩ := y
    unfold dwnD at e
    rw [List.getElem?_map] at e
    obtain ⟨j, hj, rfl⟩ := Option.map_eq_some_iff.mp e
    obtain ⟨hl, hj⟩ := List.getElem?_eq_some_iff.mp hj
    rw [List.getElem_range] at hj
    subst hj
    exact h.pure fun _ => .int _
theorem sxi_rng1 {te : TE} {g : aE} (h1 : Sx Γ P W te g) : Sxi Γ P W (iRng1 (tCons te tNil)) (aRng1 g) := fun f σ ρ T H R s k => by
  refine h1 f σ ρ T H _ s ((Good.bind k).imp fun o ρ' k v H' s' => ?_)
  split at k
  · rename_i j
    split at k
    · rename_i hj
      obtain rfl : v = .int j := s'.rs.int (by simp)
      exact ⟨j, rfl, by omega, by omega, k _ [] H' iter_R s'.drop⟩
    · exact k.elim
  · exact k.elim
theorem two_ints {f : Fr} {σ : L2.St} {ρ : Store} {T T' : List (V × O)} {H : Hp} {vs : List V} {rs : List Rv} {i j : Int} (m : Mt σ T' vs rs) (s : SR Γ P f σ ρ (T' ++ T) H) (e : rsv ρ rs = some [.sh (.int i), .sh (.int j)]) : vs = [.int i, .int j] := by
  obtain ⟨ps, p1, p2, mem⟩ := rsv_ok m s e
  match ps, p2 with
  | [(x, o), (y, u)], p2 =>
    simp only [List.map_cons, List.map_nil, List.cons.injEq, and_true] at p2
    obtain ⟨rfl, rfl⟩ := p2
    have e1 := s.rs.int (v := x) (i := i) (mem _ (by simp))
    have e2 := s.rs.int (v := y) (i := j) (mem _ (by simp))
    rw [← p1, e1, e2]
    rfl
theorem sxi_rng2 {ta tb : TE} {od oe : Od} (ha : Sa Γ P W (tCons ta (tCons tb tNil)) [od, oe]) : Sxi Γ P W (iRng2 (tCons ta (tCons tb tNil))) (aRng2 od oe) := fun f σ ρ T H R s k => by
  refine ha f σ ρ T H _ s ((Good.bind k).imp fun rs ρ' k vs T' H' m s' => ?_)
  split at k
  · rename_i i j e
    split at k
    · rename_i hj
      rw [two_ints m s' e]
      exact ⟨i, j, rfl, ⟨by omega, by omega, by omega, by omega⟩, k _ [] H' iter_R s'.dropL⟩
    · exact k.elim
  · exact k.elim
/-- range(a, b, -1) -/
theorem sxi_rngD {ta tb : TE} {od oe : Od} (ha : Sa Γ P W (tCons ta (tCons tb tNil)) [od, oe]) : Sxi Γ P W (iRng3 (tCons ta (tCons tb (tCons (tUn (rU fun i => .int (-i)) (tC (.int 1))) tNil)))) (aRngD od oe) := fun f σ ρ T H R s k => by
  refine ha f σ ρ T H (fun vs H' => match vs with
    | [x, y] => ∃ z : Int, V.int 1 = V.int z ∧ ∃ (i j c : Int) (n : Nat), [x, y, V.int (-z)] = [V.int i, .int j, .int c] ∧ RgC i j c n ∧ R (Itc i c n) H'
    | _ => True) s ((Good.bind k).imp fun rs ρ' k vs T' H' m s' => ?_)
  split at k
  · rename_i i j e
    split at k
    · rename_i hj
      rw [two_ints m s' e]
      exact ⟨1, rfl, i, j, -1, _, rfl, RgC.neg (by omega) (by omega) (by omega) (by omega), k _ [] H' iter_C s'.dropL⟩
    · exact k.elim
  · exact k.elim
/-! two lists, two tuples, side by side -/
def zipD (xs ys : List D) : List D := (xs.zip ys).map fun p => .tup [p.1, p.2]
def aZip (g1 g2 : aE) : aI := fun ρ => (g1 ρ).bind fun o1 ρ1 => (g2 ρ1).bind fun o2 ρ2 => match o1, o2 with
  | .sh (.lst xs), .sh (.lst ys) => .ok (zipD xs ys) ρ2
  | .sh (.tup xs), .sh (.tup ys) => .ok (zipD xs ys) ρ2
  | _, _ => .stuck
theorem zipD_get {xs ys : List D} {i : Nat} {d : D} (e : (zipD xs ys)[i]? = some d) : ∃ a b, xs[i]? = some a ∧ ys[i]? = some b ∧ d = .tup [a, b] := by
  unfold zipD at e
  rw [List.getElem?_map] at e
  obtain ⟨⟨a, b⟩, hj, rfl⟩ := Option.map_eq_some_iff.mp e
  rw [List.getElem?_zip_eq_some] at hj
  exact ⟨a, b, hj.1, hj.2, rfl⟩
theorem RS.pair {c : Ent} {R : List (V × O)} {H : Hp} {x y : V} {a b : D} (h : RS Γ c ((x, .sh a) :: (y, .sh b) :: R) H) {T : Addr} (hT : H T = none) : RS Γ c ((.ref T, .sh (.tup [a, b])) :: R) (upd H T (.tup [x, y])) := by
  have q := (RS.newT (rs := [(x, .sh a), (y, .sh b)]) (R := R) h hT).freeze
  simpa [fz, fzL] using q
theorem iter_ZL {a b : Addr} {xs ys : List D} : IterOk Γ (Itz Γ.K a b) (zipD xs ys) [(.ref b, .sh (.lst ys)), (.ref a, .sh (.lst xs))] := by
  have key : ∀ c R H, RS Γ c ([(V.ref b, O.sh (.lst ys)), (V.ref a, O.sh (.lst xs))] ++ R) H → (∃ us, SqL Γ.K H a us ∧ Had Γ c ([(V.ref b, O.sh (.lst ys)), (V.ref a, O.sh (.lst xs))] ++ R) H us xs) ∧ ∃ us, SqL Γ.K H b us ∧ Had Γ c ([(V.ref b, O.sh (.lst ys)), (V.ref a, O.sh (.lst xs))] ++ R) H us ys := by
    intro c R H h
    obtain ⟨a', us, e, p, q⟩ := RS.lst (v := .ref a) (o := .sh (.lst xs)) h (by simp) rfl
    obtain ⟨b', vs, e', p', q'⟩ := RS.lst (v := .ref b) (o := .sh (.lst ys)) h (by simp) rfl
    cases e
    cases e'
    exact ⟨⟨us, .of p, q⟩, vs, .of p', q'⟩
  refine ⟨fun c R i H h hi => ?_, fun c R H h => ?_, fun c R i d x H H' h e y => ?_⟩
  · obtain ⟨⟨us, p, q⟩, vs, p', q'⟩ := key c R H h
    have hl : i < min xs.length ys.length := by simpa [zipD] using hi
    obtain ⟨x, hx⟩ := get_of_lt (xs := us) (i := i) (by rw [q.len]; omega)
    obtain ⟨y, hy⟩ := get_of_lt (xs := vs) (i := i) (by rw [q'.len]; omega)
    exact ⟨us, vs, x, y, p, p', hx, hy⟩
  · obtain ⟨⟨us, p, q⟩, vs, p', q'⟩ := key c R H h
    refine ⟨us, vs, p, p', ?_⟩
    rw [q.len, q'.len]
    simp only [zipD, List.length_map, List.length_zip]
    omega
  · obtain ⟨⟨us, p, q⟩, vs, p', q'⟩ := key c R H h
    obtain ⟨T, x1, y1, rfl, hT, rfl, h1, h2⟩ := y
    obtain ⟨da, db, ea, eb, rfl⟩ := zipD_get e
    obtain ⟨S, sb, r, ad, _⟩ := q.ex
    obtain ⟨S', sb', r', ad', _⟩ := q'.ex
    have z1 := ad _ _ (r.at ea (h1 us p))
    have z2 : RS Γ c ((y1, .sh db) :: (x1, .sh da) :: ([(V.ref b, O.sh (.lst ys)), (V.ref a, O.sh (.lst xs))] ++ R)) H := by
      obtain ⟨b2, vs2, e2, p2, q2⟩ := RS.lst (v := .ref b) (o := .sh (.lst ys)) z1 (by simp) rfl
      cases e2
      obtain ⟨w, hw, z⟩ := q2.get eb
      have := h2 vs2 (.of p2)
      rw [hw] at this
      cases this
      exact z
    exact RS.pair (z2.perm (List.Perm.swap _ _ _)) hT
theorem iter_ZT {a b : Addr} {xs ys : List D} : IterOk Γ (ItzT Γ.K a b) (zipD xs ys) [(.ref b, .sh (.tup ys)), (.ref a, .sh (.tup xs))] := by
  have key : ∀ c R H, RS Γ c ([(V.ref b, O.sh (.tup ys)), (V.ref a, O.sh (.tup xs))] ++ R) H → (∃ us, SqT Γ.K H a us ∧ Had Γ c ([(V.ref b, O.sh (.tup ys)), (V.ref a, O.sh (.tup xs))] ++ R) H us xs) ∧ ∃ us, SqT Γ.K H b us ∧ Had Γ c ([(V.ref b, O.sh (.tup ys)), (V.ref a, O.sh (.tup xs))] ++ R) H us ys := by
    intro c R H h
    obtain ⟨a', us, e, p, q⟩ := RS.tup (v := .ref a) (o := .sh (.tup xs)) h (by simp) rfl
    obtain ⟨b', vs, e', p', q'⟩ := RS.tup (v := .ref b) (o := .sh (.tup ys)) h (by simp) rfl
    cases e
    cases e'
    exact ⟨⟨us, p, q⟩, vs, p', q'⟩
  refine ⟨fun c R i H h hi => ?_, fun c R H h => ?_, fun c R i d x H H' h e y => ?_⟩
  · obtain ⟨⟨us, p, q⟩, vs, p', q'⟩ := key c R H h
    have hl : i < min xs.length ys.length := by simpa [zipD] using hi
    obtain ⟨x, hx⟩ := get_of_lt (xs := us) (i := i) (by rw [q.len]; omega)
    obtain ⟨y, hy⟩ := get_of_lt (xs := vs) (i := i) (by rw [q'.len]; omega)
    exact ⟨us, vs, x, y, p, p', hx, hy⟩
  · obtain ⟨⟨us, p, q⟩, vs, p', q'⟩ := key c R H h
    refine ⟨us, vs, p, p', ?_⟩
    rw [q.len, q'.len]
    simp only [zipD, List.length_map, List.length_zip]
    omega
  · obtain ⟨⟨us, p, q⟩, vs, p', q'⟩ := key c R H h
    obtain ⟨T, x1, y1, rfl, hT, rfl, h1, h2⟩ := y
    obtain ⟨da, db, ea, eb, rfl⟩ := zipD_get e
    obtain ⟨S, sb, r, ad, _⟩ := q.ex
    have z1 := ad _ _ (r.at ea (h1 us p))
    have z2 : RS Γ c ((y1, .sh db) :: (x1, .sh da) :: ([(V.ref b, O.sh (.tup ys)), (V.ref a, O.sh (.tup xs))] ++ R)) H := by
      obtain ⟨b2, vs2, e2, p2, q2⟩ := RS.tup (v := .ref b) (o := .sh (.tup ys)) z1 (by simp) rfl
      cases e2
      obtain ⟨w, hw, z⟩ := q2.get eb
      have := h2 vs2 p2
      rw [hw] at this
      cases this
      exact z
    exact RS.pair (z2.perm (List.Perm.swap _ _ _)) hT
theorem sxi_zip {ta tb : TE} {g1 g2 : aE} (h1 : Sx Γ P W ta g1) (h2 : Sx Γ P W tb g2) : Sxi Γ P W (iZipA Γ.K (tCons ta (tCons tb tNil))) (aZip g1 g2) := fun f σ ρ T H R s k => by
  refine h1 f σ ρ T H _ s ((Good.bind k).imp fun o1 ρ1 k v1 H1 s1 => ?_)
  refine h2 f σ ρ1 ((v1, o1) :: T) H1 _ s1 ((Good.bind k).more (T' := [(v1, o1)]) |>.imp fun o2 ρ2 k v2 H2 s2 => ?_)
  show ∃ a b xs ys, [v1, v2] = [V.ref a, .ref b] ∧ _
  split at k
  · rename_i xs ys _
    obtain ⟨a, us, rfl, p, q⟩ := RS.lst (v := v1) (o := .sh (.lst xs)) s2.rs (by simp) rfl
    obtain ⟨b, vs, rfl, p', q'⟩ := RS.lst (v := v2) (o := .sh (.lst ys)) s2.rs (by simp) rfl
    exact ⟨a, b, us, vs, rfl, .inl ⟨.of p, .of p', k _ _ H2 iter_ZL s2⟩⟩
  · rename_i xs ys _
    obtain ⟨a, us, rfl, p, q⟩ := RS.tup (v := v1) (o := .sh (.tup xs)) s2.rs (by simp) rfl
    obtain ⟨b, vs, rfl, p', q'⟩ := RS.tup (v := v2) (o := .sh (.tup ys)) s2.rs (by simp) rfl
    exact ⟨a, b, us, vs, rfl, .inr ⟨p, p', k _ _ H2 iter_ZT s2⟩⟩
  · exact k.elim
/-! a list with its places -/
def enumD (xs : List D) : List D := xs.mapIdx fun i d => .tup [.int (i : Nat), d]
def aEnum (g : aE) : aI := fun ρ => (g ρ).bind fun o ρ' => match o with
  | .sh (.lst xs) => .ok (enumD xs) ρ'
  | _ => .stuck
theorem iter_E {a : Addr} {xs : List D} : IterOk Γ (Ite Γ.K a) (enumD xs) [(.ref a, .sh (.lst xs))] := by
  have key : ∀ c R H, RS Γ c ([(V.ref a, O.sh (.lst xs))] ++ R) H → ∃ us, SqL Γ.K H a us ∧ Had Γ c ([(V.ref a, O.sh (.lst xs))] ++ R) H us xs := by
    intro c R H h
    obtain ⟨a', us, e, p, q⟩ := RS.lst (v := .ref a) (o := .sh (.lst xs)) h (by simp) rfl
    cases e
    exact ⟨us, .of p, q⟩
  refine ⟨fun c R i H h hi => ?_, fun c R H h => ?_, fun c R i d x H H' h e y => ?_⟩
  · obtain ⟨us, p, q⟩ := key c R H h
    have hl : i < xs.length := by simpa [enumD] using hi
    obtain ⟨x, hx⟩ := get_of_lt (xs := us) (i := i) (by rw [q.len]; omega)
    exact ⟨us, x, p, hx⟩
  · obtain ⟨us, p, q⟩ := key c R H h
    refine ⟨us, p, ?_⟩
    rw [q.len]
    simp [enumD]
  · obtain ⟨us, p, q⟩ := key c R H h
    obtain ⟨T, x1, rfl, hT, rfl, h1⟩ := y
    unfold enumD at e
    rw [List.getElem?_mapIdx] at e
    obtain ⟨da, ea, rfl⟩ := Option.map_eq_some_iff.mp e
    obtain ⟨S, sb, r, ad, _⟩ := q.ex
    have z1 := ad _ _ (r.at ea (h1 us p))
    exact RS.pair (z1.pure (v := .int (i : Nat)) (d := .int (i : Nat)) fun _ => .int _) hT
theorem sxi_enum {ta : TE} {g : aE} (h1 : Sx Γ P W ta g) : Sxi Γ P W (iEnum Γ.K (tCons ta tNil)) (aEnum g) := fun f σ ρ T H R s k => by
  refine h1 f σ ρ T H _ s ((Good.bind k).imp fun o1 ρ1 k v1 H1 s1 => ?_)
  show ∃ a xs, [v1] = [V.ref a] ∧ _
  split at k
  · rename_i xs
    obtain ⟨a, us, rfl, p, q⟩ := RS.lst (v := v1) (o := .sh (.lst xs)) s1.rs (by simp) rfl
    exact ⟨a, us, rfl, .of p, k _ _ H1 iter_E s1⟩
  · exact k.elim
end
/-! ### as they stand in a text -/
section
variable {X : Cx} {Γ : Gb} {P : Nat → Bool} {W : WX} {te ta tb : TE} {g g1 g2 : aE} {od oa ob : Od} {tg e a b : Expr} {p pos : Pos}
theorem ai_any (hK : X.K = Γ.K) (h : AE X Γ P W e te g) : AI X Γ P W tg e (iAny Γ.K te) (aItems g) := ⟨hK ▸ pi_any h.pe, sxi_any h.sx⟩
theorem ai_rng1 (hm : X.mg "range" = none) (h : AE X Γ P W a ta g) (hg : Gl X "range" := by rfl) (hs1 : starEach (a :: []) X.env = (false, eval a X.env) :: starEach [] X.env := by rfl) (hs : starEach [a] X.env = [(false, eval a X.env)] := by rfl) :
    AI X Γ P W tg (.Call (.Name "range" p) [a] [] pos) (iRng1 (tCons ta tNil)) (aRng1 g) := ⟨pi_range1 hg hm (pa_cons h.pe pa_nil hs1) hs, sxi_rng1 h.sx⟩
theorem ai_rng2 (hm : X.mg "range" = none) (ha : AO X Γ P W a ta oa) (hb : AO X Γ P W b tb ob) (hg : Gl X "range" := by rfl) (hs1 : starEach (a :: [b]) X.env = (false, eval a X.env) :: starEach [b] X.env := by rfl) (hs2 : starEach (b :: []) X.env = (false, eval b X.env) :: starEach [] X.env := by rfl)
    (hs : starEach [a, b] X.env = [(false, eval a X.env), (false, eval b X.env)] := by rfl) (hs3 : starEach [b] X.env = [(false, eval b X.env)] := by rfl) :
    AI X Γ P W tg (.Call (.Name "range" p) [a, b] [] pos) (iRng2 (tCons ta (tCons tb tNil))) (aRng2 oa ob) := ⟨pi_range2 hg hm (pa_cons ha.pe (pa_cons hb.pe pa_nil hs2) hs1) hs hs3, sxi_rng2 (ha.sa (hb.sa sa_nil))⟩
theorem ai_rngD {j : Nat} {q1 q2 : Pos} (hm : X.mg "range" = none) (ha : AO X Γ P W a ta oa) (hb : AO X Γ P W b tb ob) (hg : Gl X "range" := by rfl)
    (hs1 : starEach (a :: [b, .UnaryOp .USub (.Constant (.int 1) j q1) q2]) X.env = (false, eval a X.env) :: starEach [b, .UnaryOp .USub (.Constant (.int 1) j q1) q2] X.env := by rfl)
    (hs2 : starEach (b :: [.UnaryOp .USub (.Constant (.int 1) j q1) q2]) X.env = (false, eval b X.env) :: starEach [.UnaryOp .USub (.Constant (.int 1) j q1) q2] X.env := by rfl)
    (hpl : (backTo pos (starEach [b, .UnaryOp .USub (.Constant (.int 1) j q1) q2] X.env)).any (·.1) = false := by rfl) :
    AI X Γ P W tg (.Call (.Name "range" p) [a, b, .UnaryOp .USub (.Constant (.int 1) j q1) q2] [] pos) (iRng3 (tCons ta (tCons tb (tCons (tUn (rU fun i => .int (-i)) (tC (.int 1))) tNil)))) (aRngD oa ob) :=
  ⟨pi_range3 hg hm (pa_cons ha.pe (pa_cons hb.pe (pa_cons (pe_un un_neg pe_int) pa_nil rfl) hs2) hs1) hs1 hpl, sxi_rngD (ha.sa (hb.sa sa_nil))⟩
theorem ai_zip {elts : List Expr} {kk : Nat} {tpos : Pos} (hK : X.K = Γ.K) (hm : X.mg "zip" = none) (ha : AE X Γ P W a ta g1) (hb : AE X Γ P W b tb g2) (hg : Gl X "zip" := by rfl)
    (hs1 : starEach (a :: [b]) X.env = (false, eval a X.env) :: starEach [b] X.env := by rfl) (hs2 : starEach (b :: []) X.env = (false, eval b X.env) :: starEach [] X.env := by rfl) (hpl : (backTo pos (starEach [b] X.env)).any (·.1) = false := by rfl) :
    AI X Γ P W (.Tuple elts kk tpos) (.Call (.Name "zip" p) [a, b] [] pos) (iZipA Γ.K (tCons ta (tCons tb tNil))) (aZip g1 g2) := ⟨hK ▸ pi_zipA hg hm (pa_cons ha.pe (pa_cons hb.pe pa_nil hs2) hs1) hs1 hpl, sxi_zip ha.sx hb.sx⟩
theorem ai_enum {elts : List Expr} {kk : Nat} {tpos : Pos} (hK : X.K = Γ.K) (hm : X.mg "enumerate" = none) (ha : AE X Γ P W a ta g) (hg : Gl X "enumerate" := by rfl) (hs1 : starEach (a :: []) X.env = (false, eval a X.env) :: starEach [] X.env := by rfl)
    (hs : starEach [a] X.env = [(false, eval a X.env)] := by rfl) : AI X Γ P W (.Tuple elts kk tpos) (.Call (.Name "enumerate" p) [a] [] pos) (iEnum Γ.K (tCons ta tNil)) (aEnum g) := ⟨hK ▸ pi_enum hg hm (pa_cons ha.pe pa_nil hs1) hs, sxi_enum ha.sx⟩
end
end Den
end
section
/-! Den, part J: calls of defs, comprehensions. -/
namespace Den
open PySem L2 PySem.Spec PyProof.Rows
/-! ### a def's promise -/
inductive FRes where
  | ret (o : O) (os : List O) | exc (x : Xn) (os : List O) | stuck
def XC (Γ : Gb) (e : Ent) (R : List (V × O)) (x : Xn) (cls : Value) (d : Option Addr) (H : Hp) : Prop :=
  cls = x.cls.val Γ ∧ match x.fs with
    | none => d = none ∧ RS Γ e R H
    | some fs => ∃ dd, d = some dd ∧ RS Γ e ((.ref dd, .sh (.xd fs)) :: R) H
abbrev aF := List O → FRes
/-- what a def is worth: from the arguments' things, den's outcome -/
def spD (Γ : Gb) (n : Nat) (den : aF) : Sp := fun vs H Q E => vs.length = n ∧ ∃ (e : Ent) (os : List O), os.length = n ∧ RS Γ e (vs.zip os) H ∧ match den os with
  | .ret o os' => os'.length = n ∧ ∀ v H', RS Γ e ((v, o) :: vs.zip os') H' → Q v H'
  | .exc x os' => os'.length = n ∧ ∀ cls d H', XC Γ e (vs.zip os') x cls d H' → E cls d H'
  | .stuck => False
/-- the arguments' things are taken: owned ones out of their names -/
def tak (ρ : Store) : List Rv → Option (List O × Store)
  | [] => some ([], ρ)
  | .o o :: r => (tak ρ r).map fun p => (o :: p.1, p.2)
  | .p i :: r => match ρ[i]? with
    | some (some (.sh d)) => (tak ρ r).map fun p => (.sh d :: p.1, p.2)
    | some (some o) => (tak (ρ.set i none) r).map fun p => (o :: p.1, p.2)
    | _ => none
/-- and given back -/
def giv (ρ : Store) : List Rv → List O → Store
  | .p i :: r, o :: os => match ρ[i]? with
    | some none => giv (ρ.set i (some o)) r os
    | _ => giv ρ r os
  | .o _ :: r, _ :: os => giv ρ r os
  | _, _ => ρ
def aCall (n : Nat) (ods : List Od) (dds : List D) (den : aF) : aE := fun ρ => (evA ods ρ).bind fun rs ρ1 => match tak ρ1 rs with
  | some (os, ρ2) => if os.length + dds.length = n then match den (os ++ dds.map O.sh) with
      | .ret o os' => if os'.length = n then .ok o (giv ρ2 rs os') else .stuck
      | .exc x os' => if os'.length = n then .exc x (giv ρ2 rs os') else .stuck
      | .stuck => .stuck
    else .stuck
  | none => .stuck
section
variable {Γ : Gb} {P : Nat → Bool} {W : WX} {f : Fr} {σ : L2.St} {H : Hp}
theorem tak_ok {T' : List (V × O)} {vs : List V} {rs : List Rv} (m : Mt σ T' vs rs) : ∀ {ρ ρ2 : Store} {T : List (V × O)} {os : List O}, SR Γ P f σ ρ (T' ++ T) H → tak ρ rs = some (os, ρ2) → SR Γ P f σ ρ2 (vs.zip os ++ T) H ∧ os.length = vs.length := by
  induction m with
  | nil =>
    intro ρ ρ2 T os s e
    cases e
    exact ⟨s, rfl⟩
  | @ex v o T1 vs rs m ih =>
    intro ρ ρ2 T os s e
    simp only [tak, Option.map_eq_some_iff] at e
    obtain ⟨⟨os', ρ'⟩, e, q⟩ := e
    cases q
    rw [List.append_assoc] at s
    obtain ⟨a, b⟩ := ih s e
    exact ⟨a.permT List.perm_middle, by simp [b]⟩
  | @pl v i T1 vs rs hv m ih =>
    intro ρ ρ2 T os s e
    unfold tak at e
    split at e
    · rename_i d ed
      simp only [Option.map_eq_some_iff] at e
      obtain ⟨⟨os', ρ'⟩, e, q⟩ := e
      cases q
      obtain ⟨w, hw, s'⟩ := s.dupSlot ed
      rw [hv] at hw
      cases hw
      obtain ⟨a, b⟩ := ih (T := (v, .sh d) :: T) (s'.permT List.perm_middle.symm) e
      exact ⟨a.permT List.perm_middle, by simp [b]⟩
    · rename_i o _ eo
      simp only [Option.map_eq_some_iff] at e
      obtain ⟨⟨os', ρ'⟩, e, q⟩ := e
      cases q
      obtain ⟨w, hw, s'⟩ := s.take eo
      rw [hv] at hw
      cases hw
      obtain ⟨a, b⟩ := ih (T := (v, o) :: T) (s'.permT List.perm_middle.symm) e
      exact ⟨a.permT List.perm_middle, by simp [b]⟩
    · cases e
theorem giv_ok {T' : List (V × O)} {vs : List V} {rs : List Rv} (m : Mt σ T' vs rs) : ∀ {ρ : Store} {T : List (V × O)} {os : List O}, SR Γ P f σ ρ (vs.zip os ++ T) H → os.length = vs.length → SR Γ P f σ (giv ρ rs os) T H := by
  induction m with
  | nil =>
    intro ρ T os s e
    exact s
  | @ex v o T1 vs rs m ih =>
    intro ρ T os s e
    cases os with
    | nil => cases e
    | cons o' os => exact ih (SR.drop (v := v) (o := o') s) (by simpa using e)
  | @pl v i T1 vs rs hv m ih =>
    intro ρ T os s e
    cases os with
    | nil => cases e
    | cons o' os =>
      unfold giv
      split
      · exact ih (SR.back (v := v) (o := o') s hv) (by simpa using e)
      · exact ih (SR.drop (v := v) (o := o') s) (by simpa using e)
theorem zip_app {α β : Type} : ∀ {as : List α} {bs : List β} {cs : List α} {ds : List β}, as.length = bs.length → (as ++ cs).zip (bs ++ ds) = as.zip bs ++ cs.zip ds
  | [], [], _, _, _ => rfl
  | a :: as, b :: bs, _, _, e => by
    rw [List.cons_append, List.cons_append, List.zip_cons_cons, List.zip_cons_cons, zip_app (by simpa using e), List.cons_append]
theorem zip_take {α β : Type} : ∀ {as : List α} {cs : List α} {bs : List β}, bs.length = as.length + cs.length → ∃ X, ((as ++ cs).zip bs).Perm (as.zip bs ++ X)
  | [], cs, bs, _ => ⟨cs.zip bs, by simp⟩
  | a :: as, cs, b :: bs, e => by
    obtain ⟨X, q⟩ := zip_take (as := as) (cs := cs) (bs := bs) (by simp at e ⊢; omega)
    exact ⟨X, q.cons _⟩
  | _ :: _, _, [], e => by simp at e; omega
theorem giv_more : ∀ {rs : List Rv} {os : List O} {ρ : Store}, giv ρ rs os = giv ρ rs (os.take rs.length)
  | [], os, ρ => by cases os <;> rfl
  | .o _ :: r, [], ρ => rfl
  | .p _ :: r, [], ρ => rfl
  | .o _ :: r, o :: os, ρ => by
    show giv ρ r os = giv ρ r (os.take r.length)
    exact giv_more
  | .p i :: r, o :: os, ρ => by
    show (match ρ[i]? with
      | some none => giv (ρ.set i (some o)) r os
      | _ => giv ρ r os) = (match ρ[i]? with
      | some none => giv (ρ.set i (some o)) r (os.take r.length)
      | _ => giv ρ r (os.take r.length))
    rw [giv_more (ρ := ρ.set i (some o)), giv_more (ρ := ρ)]
theorem Mt.len {T' : List (V × O)} {vs : List V} {rs : List Rv} (m : Mt σ T' vs rs) : vs.length = rs.length := by
  induction m with
  | nil => rfl
  | ex _ ih => simp [ih]
  | pl _ _ ih => simp [ih]
theorem perm5 {α : Type} (X Z Y S T : List α) : ((X ++ (Z ++ Y)) ++ (S ++ T)).Perm (Y ++ (S ++ (Z ++ (X ++ T)))) := by
  classical
  refine List.perm_iff_count.mpr fun a => ?_
  simp only [List.count_append]
  omega
/-- f(..), what is raised wished for at the caller's slots -/
theorem sx_call {ta : TA} {ods : List Od} {n : Nat} {dvs : List V} {dds : List D} {den : aF} (ha : Sa Γ P W ta ods) (hd : ∀ S, RepL Γ S dvs dds) : Sx Γ P W (tCallSD (spD Γ n den) dvs (WE W) ta) (aCall n ods dds den) := fun f σ ρ T H Q s k => by
  refine ha f σ ρ T H _ s ((Good.bind k).imp fun rs ρ1 k vs T' H1 m s1 => ?_)
  split at k
  · rename_i os ρ2 et
    split at k
    · rename_i hn
      obtain ⟨s2, hl⟩ := tak_ok m s1 et
      have dl : dvs.length = dds.length := (hd (fun _ => none)).len
      -- the arguments and the defaults, apart from what the caller holds
      have r0 : RS Γ f.c (((vs ++ dvs).zip (os ++ dds.map O.sh)) ++ (slotsR σ ρ2 ++ T)) H1 := by
        have q : RS Γ f.c (dvs.zip (dds.map O.sh) ++ (vs.zip os ++ (slotsR σ ρ2 ++ T))) H1 := by
          obtain ⟨S, sb, rd, _, ad⟩ := s2.rs.readS
          refine (ad dvs dds (hd S)).perm (List.Perm.append_left _ ?_)
          rw [← List.append_assoc, ← List.append_assoc]
          exact List.perm_append_comm.append_right T
        rw [zip_app hl.symm]
        refine q.perm ?_
        rw [← List.append_assoc]
        exact List.perm_append_comm.append_right _
      obtain ⟨e, eH, r1, back⟩ := r0.enter
      have again : ∀ (X : List (V × O)) (os' : List O) H', os'.length = n → RS Γ e (X ++ (vs ++ dvs).zip os') H' → SR Γ P f σ (giv ρ2 rs os') (X ++ T) H' := by
        intro X os' H' ho r
        have b := back _ H' r
        obtain ⟨Y, hy⟩ := zip_take (as := vs) (cs := dvs) (bs := os') (by omega)
        have p1 : (X ++ (vs ++ dvs).zip os' ++ (slotsR σ ρ2 ++ T)).Perm (Y ++ (slotsR σ ρ2 ++ (vs.zip os' ++ (X ++ T)))) := by
          exact ((hy.append_left X).append_right _).trans (perm5 _ _ _ _ _)
        have s3 : SR Γ P f σ ρ2 (vs.zip os' ++ (X ++ T)) H' := ⟨s2.ok, s2.fix, (b.perm p1).dropL⟩
        have e2 : vs.zip os' = vs.zip (os'.take rs.length) := by
          rw [← m.len]
          have hmin : min vs.length os'.length = vs.length := by omega
          have z := List.zip_eq_zip_take_min (l₁ := vs) (l₂ := os')
          rw [hmin, List.take_length] at z
          exact z
        rw [giv_more]
        rw [e2] at s3
        exact giv_ok m s3 (by rw [List.length_take, ← m.len]; omega)
      show spD Γ n den (vs ++ dvs) H1 Q (WE W σ)
      refine ⟨by rw [List.length_append]; omega, e, os ++ dds.map O.sh, by rw [List.length_append, List.length_map]; omega, r1, ?_⟩
      split at k
      · rename_i o os' ed
        split at k
        · rename_i ho
          exact ⟨ho, fun v H' r => k v H' (again [(v, o)] os' H' ho r)⟩
        · exact k.elim
      · rename_i x os' ed
        split at k
        · rename_i ho
          refine ⟨ho, fun cls d H' r => k cls d H' ?_⟩
          obtain ⟨ec, r⟩ := r
          refine ⟨ec, ?_⟩
          obtain ⟨xc, xfs⟩ := x
          cases xfs with
          | none => exact ⟨r.1, again [] os' H' ho r.2⟩
          | some fs =>
            obtain ⟨dd, e1, r⟩ := r
            exact ⟨dd, e1, again [(.ref dd, .sh (.xd fs))] os' H' ho r⟩
        · exact k.elim
      · exact k.elim
    · exact k.elim
  · exact k.elim
end
end Den
end
section
/-! Den, part K: targets, comprehensions. -/
namespace Den
open PySem L2 PySem.Spec PyProof.Rows
theorem wipe_get {σ : L2.St} {j : Nat} : ∀ {vs : List Nat}, (wipe σ vs)[j]? = if j ∈ vs then (σ[j]?).map (fun _ => none) else σ[j]?
  | [] => by simp [wipe]
  | v :: vs => by
    unfold wipe
    by_cases hv : v = j
    · subst hv
      rw [List.getElem?_set_self', wipe_get (vs := vs)]
      by_cases hm : v ∈ vs
      · rw [if_pos hm, if_pos (by simp)]
        cases σ[v]? <;> rfl
      · rw [if_neg hm, if_pos (by simp)]
        cases σ[v]? <;> rfl
    · rw [List.getElem?_set_ne hv, wipe_get (vs := vs)]
      by_cases hm : j ∈ vs
      · rw [if_pos hm, if_pos (by simp [hm])]
      · rw [if_neg hm, if_neg (by simp [hm, Ne.symm hv])]
theorem wipe_set {σ : L2.St} {i : Nat} {x : Option V} {vs : List Nat} (h : i ∈ vs) : wipe (σ.set i x) vs = wipe σ vs := by
  apply List.ext_getElem?
  intro j
  rw [wipe_get, wipe_get]
  by_cases hj : j ∈ vs
  · rw [if_pos hj, if_pos hj]
    by_cases e : i = j
    · subst e
      rw [List.getElem?_set_self']
      cases σ[i]? <;> rfl
    · rw [List.getElem?_set_ne e]
  · rw [if_neg hj, if_neg hj, List.getElem?_set_ne (fun e => hj (by rw [← e]; exact h))]
theorem wipe_wipe {σ : L2.St} {vs : List Nat} : wipe (wipe σ vs) vs = wipe σ vs := by
  apply List.ext_getElem?
  intro j
  rw [wipe_get, wipe_get]
  by_cases hj : j ∈ vs
  · rw [if_pos hj, if_pos hj]
    cases σ[j]? <;> rfl
  · rw [if_neg hj, if_neg hj]
theorem permJ {α : Type} (S A X R T : List α) : (S ++ (A ++ (X ++ (R ++ T)))).Perm (R ++ (S ++ (A ++ (X ++ T)))) := by
  classical
  refine List.perm_iff_count.mpr fun a => ?_
  simp only [List.count_append]
  omega
theorem permY {α : Type} (x d : α) (S X R T : List α) : (x :: (R ++ (S ++ ([d] ++ (X ++ T))))).Perm (S ++ (x :: d :: (X ++ (R ++ T)))) := by
  classical
  refine List.perm_iff_count.mpr fun a => ?_
  simp only [List.count_append, List.count_cons, List.count_nil]
  omega
def wipeS (ρ : Store) : List Nat → Store
  | [] => ρ
  | v :: vs => (wipeS ρ vs).set v none
def restS (ρ0 : Store) : List Nat → Store → Store
  | [], ρ => ρ
  | v :: vs, ρ => restS ρ0 vs (ρ.set v ((wipeS ρ0 vs)[v]?).join)
theorem wipeS_get {ρ : Store} {j : Nat} : ∀ {vs : List Nat}, j ∈ vs → ∀ o, (wipeS ρ vs)[j]? ≠ some (some o)
  | [], h, _ => by cases h
  | v :: vs, h, o => by
    unfold wipeS
    by_cases hv : v = j
    · subst hv
      rw [List.getElem?_set_self']
      cases (wipeS ρ vs)[v]? <;> simp
    · rw [List.getElem?_set_ne hv]
      exact wipeS_get (by simpa [Ne.symm hv] using h) o
theorem slots_resig {σ : L2.St} {ρ : Store} (h : SlotsOk σ ρ) : ∀ {σ' : L2.St}, σ'.length = σ.length → (∀ (i : Nat) (o : O), ρ[i]? = some (some o) → σ'[i]? = σ[i]?) → SlotsOk σ' ρ ∧ slotsR σ' ρ = slotsR σ ρ := by
  induction h with
  | nil =>
    intro σ' e _
    obtain rfl : σ' = [] := List.eq_nil_of_length_eq_zero (by simpa using e)
    exact ⟨.nil, rfl⟩
  | @skip x σ ρ h ih =>
    intro σ' e k
    cases σ' with
    | nil => simp at e
    | cons y σ' =>
      obtain ⟨a, b⟩ := ih (σ' := σ') (by simpa using e) fun i o q => by
        have := k (i + 1) o (by simpa using q)
        simpa using this
      exact ⟨.skip a, by rw [slotsR_skip, slotsR_skip, b]⟩
  | @keep v o σ ρ h ih =>
    intro σ' e k
    cases σ' with
    | nil => simp at e
    | cons y σ' =>
      obtain ⟨a, b⟩ := ih (σ' := σ') (by simpa using e) fun i o q => by
        have := k (i + 1) o (by simpa using q)
        simpa using this
      have y0 := k 0 o rfl
      obtain rfl : y = some v := by simpa using y0
      exact ⟨.keep a, by show (v, o) :: slotsR σ' ρ = (v, o) :: slotsR σ ρ; rw [b]⟩
def offP (P : Nat → Bool) (vs : List Nat) : Nat → Bool := fun j => P j && !vs.contains j
section
variable {Γ : Gb} {P : Nat → Bool} {W : WX} {f : Fr} {σ : L2.St} {ρ : Store} {T : List (V × O)} {H : Hp}
theorem SR.out1 (s : SR Γ P f σ ρ T H) (i : Nat) : ∃ X, SR Γ P f σ (ρ.set i none) (X ++ T) H ∧ ∀ ρ' T' H', SR Γ P f σ ρ' (X ++ T') H' → SR Γ P f σ (ρ'.set i (ρ[i]?).join) T' H' := by
  cases e : ρ[i]? with
  | none => exact ⟨[], s.clear, fun ρ' T' H' q => q.clear⟩
  | some o =>
    cases o with
    | none => exact ⟨[], s.clear, fun ρ' T' H' q => q.clear⟩
    | some o =>
      obtain ⟨v, hv, s'⟩ := s.take e
      exact ⟨[(v, o)], s', fun ρ' T' H' q => SR.back (v := v) (o := o) q hv⟩
theorem SR.outs (s : SR Γ P f σ ρ T H) : ∀ vs : List Nat, ∃ X, SR Γ P f σ (wipeS ρ vs) (X ++ T) H ∧ ∀ ρ' T' H', SR Γ P f σ ρ' (X ++ T') H' → SR Γ P f σ (restS ρ vs ρ') T' H'
  | [] => ⟨[], s, fun ρ' T' H' q => q⟩
  | v :: vs => by
    obtain ⟨X, a, b⟩ := SR.outs s vs
    obtain ⟨Y, a', b'⟩ := a.out1 v
    refine ⟨Y ++ X, by rw [List.append_assoc]; exact a', fun ρ' T' H' q => ?_⟩
    rw [List.append_assoc] at q
    exact b _ _ _ (b' _ _ _ q)
theorem SR.resig {P' : Nat → Bool} {σ' : L2.St} (s : SR Γ P f σ ρ T H) (hl : σ'.length = σ.length) (k : ∀ (i : Nat) (o : O), ρ[i]? = some (some o) → σ'[i]? = σ[i]?) (hp : ∀ j, P' j = true → σ'[j]? = f.s0[j]?) : SR Γ P' f σ' ρ T H := by
  obtain ⟨a, b⟩ := slots_resig s.ok hl k
  exact ⟨a, hp, by rw [b]; exact s.rs⟩
theorem SR.clears (s : SR Γ P f σ ρ T H) : ∀ vs : List Nat, SR Γ P f σ (wipeS ρ vs) T H
  | [] => s
  | v :: vs => (SR.clears s vs).clear
theorem offP_of {vs : List Nat} {j : Nat} (h : offP P vs j = true) : P j = true ∧ j ∉ vs := by
  unfold offP at h
  rw [Bool.and_eq_true] at h
  exact ⟨h.1, by simpa using h.2⟩
theorem SR.block {vs : List Nat} (s : SR Γ P f σ ρ T H) (hw : ∀ i ∈ vs, ∀ o, ρ[i]? ≠ some (some o)) : SR Γ (offP P vs) f (wipe σ vs) ρ T H := by
  refine s.resig (wipe_length σ vs) (fun i o e => ?_) fun j hj => ?_
  · rw [wipe_get, if_neg fun m => hw i m o e]
  · obtain ⟨a, b⟩ := offP_of hj
    rw [wipe_get, if_neg b]
    exact s.fix j a
theorem SR.again {vs : List Nat} {σ0 : L2.St} (s : SR Γ (offP P vs) f σ ρ T H) (hw : wipe σ vs = wipe σ0 vs) : SR Γ (offP P vs) f (wipe σ0 vs) (wipeS ρ vs) T H := by
  have s' := s.clears vs
  rw [← hw]
  refine s'.resig (wipe_length σ vs) (fun i o e => ?_) fun j hj => ?_
  · rw [wipe_get, if_neg fun m => wipeS_get m o e]
  · obtain ⟨a, b⟩ := offP_of hj
    rw [wipe_get, if_neg b]
    exact s.fix j hj
theorem SR.unblock {vs : List Nat} {σ0 : L2.St} (s : SR Γ (offP P vs) f (wipe σ0 vs) ρ T H) (hw : ∀ i ∈ vs, ∀ o, ρ[i]? ≠ some (some o)) (hp : ∀ j, P j = true → σ0[j]? = f.s0[j]?) : SR Γ P f σ0 ρ T H := by
  refine s.resig (wipe_length σ0 vs).symm (fun i o e => ?_) hp
  rw [wipe_get, if_neg fun m => hw i m o e]
end
/-! ### targets -/
abbrev aG := D → Store → Option Store
def aN (i : Nat) : aG := fun d ρ => if i < ρ.length then some (ρ.set i (some (.sh d))) else none
/-- one after another -/
def aGs : List aG → List D → Store → Option Store
  | [], [], ρ => some ρ
  | g :: gs, d :: ds, ρ => (g d ρ).bind fun ρ' => aGs gs ds ρ'
  | _, _, _ => none
def aTupG (gs : List aG) : aG := fun d ρ => match d with
  | .tup ds => aGs gs ds ρ
  | _ => none
/-- what a target stores leaves all but the slots vs -/
def Sg (Γ : Gb) (P : Nat → Bool) (vs : List Nat) (g : TG) (a : aG) : Prop := ∀ f σ ρ T H v d ρ' Q, SR Γ P f σ ρ ((v, .sh d) :: T) H → a d ρ = some ρ' → (∀ σ' H', wipe σ' vs = wipe σ vs → SR Γ P f σ' ρ' T H' → Q σ' H') → g v σ H Q
def Sgs (Γ : Gb) (P : Nat → Bool) (vs : List Nat) (g : TGs) (as : List aG) : Prop := ∀ f σ ρ T H us ds ρ' Q, SR Γ P f σ ρ (us.zip (ds.map O.sh) ++ T) H → us.length = ds.length → aGs as ds ρ = some ρ' → (∀ σ' H', wipe σ' vs = wipe σ vs → SR Γ P f σ' ρ' T H' → Q σ' H') → g us σ H Q
section
variable {Γ : Gb} {P : Nat → Bool} {vs : List Nat}
theorem sg_name {i : Nat} (hp : P i = false) (hi : i ∈ vs) : Sg Γ P vs (gName i) (aN i) := fun f σ ρ T H v d ρ' Q s e k => by
  unfold aN at e
  split at e
  · rename_i hl
    cases e
    exact k _ _ (wipe_set hi) (s.set (by rw [s.lenS]; exact hl) hp)
  · cases e
theorem sgs_nil : Sgs Γ P vs gNil [] := fun f σ ρ T H us ds ρ' Q s hl e k => by
  cases ds with
  | nil =>
    cases us with
    | nil =>
      cases e
      exact ⟨rfl, k _ _ rfl s⟩
    | cons _ _ => simp at hl
  | cons _ _ => cases e
theorem sgs_cons {g : TG} {gs : TGs} {a : aG} {as : List aG} (h1 : Sg Γ P vs g a) (h2 : Sgs Γ P vs gs as) : Sgs Γ P vs (gCons g gs) (a :: as) := fun f σ ρ T H us ds ρ' Q s hl e k => by
  cases ds with
  | nil => cases e
  | cons d ds =>
    cases us with
    | nil => simp at hl
    | cons u us =>
      simp only [aGs, Option.bind_eq_some_iff] at e
      obtain ⟨ρ1, e1, e2⟩ := e
      exact ⟨u, us, rfl, h1 f σ ρ _ H u d ρ1 _ s e1 fun σ1 H1 w1 s1 => h2 f σ1 ρ1 T H1 us ds ρ' Q s1 (by simpa using hl) e2 fun σ2 H2 w2 s2 => k σ2 H2 (w2.trans w1) s2⟩
theorem aGs_len : ∀ {as : List aG} {ds : List D} {ρ ρ' : Store}, aGs as ds ρ = some ρ' → ds.length = as.length
  | [], [], _, _, _ => rfl
  | a :: as, d :: ds, ρ, ρ', e => by
    simp only [aGs, Option.bind_eq_some_iff] at e
    obtain ⟨ρ1, e1, e2⟩ := e
    simp [aGs_len e2]
  | [], _ :: _, _, _, e => by cases e
  | _ :: _, [], _, _, e => by cases e
theorem sg_tup {n : Nat} {gs : TGs} {as : List aG} (h : Sgs Γ P vs gs as) (hn : as.length = n) : Sg Γ P vs (L2.gTup Γ.K n gs) (aTupG as) := fun f σ ρ T H v d ρ' Q s e k => by
  unfold aTupG at e
  split at e
  · rename_i ds
    obtain ⟨a, xs, rfl, p, q⟩ := RS.tup (v := v) (o := .sh (.tup ds)) s.rs (by simp) rfl
    refine ⟨a, xs, rfl, p, by rw [q.len, aGs_len e, hn], h f σ ρ T H xs ds ρ' Q ?_ q.len e k⟩
    obtain ⟨S, sb, r, _, ad⟩ := q.ex
    have z := ad xs ds r
    refine ⟨s.ok, s.fix, ?_⟩
    have pm : (xs.zip (ds.map O.sh) ++ (slotsR σ ρ ++ (V.ref a, O.sh (.tup ds)) :: T)).Perm ((V.ref a, O.sh (.tup ds)) :: (slotsR σ ρ ++ (xs.zip (ds.map O.sh) ++ T))) := by
      refine (List.perm_append_comm_assoc _ _ _).trans ?_
      refine (List.Perm.append_left _ List.perm_middle).trans ?_
      exact List.perm_middle
    exact (z.perm pm).drop
  · cases e
end
/-! ### list comprehensions -/
def lcL (vs : List Nat) (tg : aG) (tt : aT) (ge : aE) : List D → Store → Res (List D)
  | [], ρ => .ok [] ρ
  | d :: ds, ρ => match tg d ρ with
    | some ρ1 => (tt ρ1).bind fun b ρ2 => if b = true then (ge ρ2).bind fun o ρ3 => (lcL vs tg tt ge ds (wipeS ρ3 vs)).bind fun r ρ4 => .ok (fz o :: r) ρ4 else lcL vs tg tt ge ds (wipeS ρ2 vs)
    | none => .stuck
def aYes : aT := fun ρ => .ok true ρ
def aLc (src : aI) (vs : List Nat) (tg : aG) (tt : aT) (ge : aE) : aE := fun ρ => (src ρ).bind fun ds ρ1 => if ds.length ≤ 16000000 then match lcL vs tg tt ge ds (wipeS ρ1 vs) with
    | .ok r ρ2 => .ok (.lst (r.map O.sh)) (restS ρ1 vs ρ2)
    | _ => .stuck
  else .stuck
abbrev W0 : WX := fun _ _ _ _ => False
theorem res_bind_ok {α β : Type} {r : Res α} {g : α → Store → Res β} {b : β} {ρ : Store} (h : r.bind g = .ok b ρ) : ∃ a ρ1, r = .ok a ρ1 ∧ g a ρ1 = .ok b ρ := by
  cases r with
  | ok a ρ1 => exact ⟨a, ρ1, rfl, h⟩
  | exc x ρ1 => cases h
  | stuck => cases h
section
variable {Γ : Gb} {P : Nat → Bool} {W : WX} {vs : List Nat}
theorem sxt_yes : Sxt Γ P W tYes aYes := fun f σ ρ T H Q s k => k H s
/-- a value is put behind a list's items -/
theorem SR.push {f : Fr} {σ : L2.St} {ρ : Store} {T : List (V × O)} {H : Hp} {y : V} {o : O} {D1 : Addr} {acc : List D} (s : SR Γ P f σ ρ ((y, o) :: (.ref D1, .lst (acc.map O.sh)) :: T) H) :
    ∃ vs, H D1 = some (.lst vs) ∧ vs.length = acc.length ∧ SR Γ P f σ ρ ((.ref D1, .lst ((acc ++ [Den.fz o]).map O.sh)) :: T) (upd H D1 (.lst (vs ++ [y]))) := by
  have s1 := s.fz.permT (List.Perm.swap _ _ _)
  have r1 : RS Γ f.c ((.ref D1, .lst (acc.map O.sh)) :: ((y, .sh (Den.fz o)) :: T ++ slotsR σ ρ)) H := s1.rs.perm List.perm_append_comm
  obtain ⟨a, rs, e, e2, ha, op⟩ := r1.openL
  cases e
  refine ⟨rs.map Prod.fst, ha, by rw [List.length_map, ← List.length_map (f := Prod.snd) (as := rs), ← e2, List.length_map], s.ok, s.fix, ?_⟩
  have op2 : RSL Γ f.c ((rs ++ [(y, .sh (Den.fz o))]) ++ (T ++ slotsR σ ρ)) [D1] H := op.perm (by
    rw [List.append_assoc]
    exact List.Perm.refl _)
  have cl := (op2.put (u := .lst (rs.map Prod.fst ++ [y])) noT_lst).closeL (by rw [upd_same, List.map_append]; rfl)
  rw [List.map_append, ← e2] at cl
  have z : RS Γ f.c ((.ref D1, .lst ((acc ++ [Den.fz o]).map O.sh)) :: (T ++ slotsR σ ρ)) (upd H D1 (.lst (rs.map Prod.fst ++ [y]))) := by
    rw [List.map_append]
    exact cl
  exact z.perm (List.perm_append_comm (l₁ := (V.ref D1, O.lst ((acc ++ [Den.fz o]).map O.sh)) :: T))
theorem sx_lc {wi : TI} {g : TG} {tt : TT} {te : TE} {src : aI} {tg : aG} {at_ : aT} {ge : aE} (hi : Sxi Γ P W wi src) (hg : Sg Γ (offP P vs) vs g tg) (ht : Sxt Γ (offP P vs) W0 tt at_) (he : Sx Γ (offP P vs) W0 te ge) :
    Sx Γ P W (tLc wi g tt te vs) (aLc src vs tg at_ ge) := fun f σ ρ T H Q s k => by
  refine hi f σ ρ T H _ s ((Good.bind k).imp fun ds ρ1 k J Rj H1 it s1 D1 hD => ?_)
  split at k
  · rename_i hlen
    split at k
    · rename_i r ρ2 er
      obtain ⟨X, sx, rest⟩ := s1.outs vs
      have b0 := sx.block (vs := vs) fun i m o => wipeS_get m o
      -- the list that is made
      have b1 : SR Γ (offP P vs) f (wipe σ vs) (wipeS ρ1 vs) ((.ref D1, .lst (([] : List D).map O.sh)) :: (X ++ (Rj ++ T))) (upd H1 D1 (.lst [])) :=
        b0.mapT fun R q => RS.newL (rs := []) q hD
      refine ⟨fun i m H' => m = ds.length - i ∧ i ≤ ds.length ∧ ∃ ρ' acc r', acc.length ≤ i ∧ lcL vs tg at_ ge (ds.drop i) ρ' = .ok r' ρ2 ∧ acc ++ r' = r ∧ (∀ i ∈ vs, ∀ o, ρ'[i]? ≠ some (some o)) ∧
        SR Γ (offP P vs) f (wipe σ vs) ρ' ((.ref D1, .lst (acc.map O.sh)) :: (X ++ (Rj ++ T))) H', ⟨ds.length, by simp, Nat.zero_le _, wipeS ρ1 vs, [], r, Nat.le_refl _, by rw [List.drop_zero]; exact er, rfl, fun i m o => wipeS_get m o, b1⟩, ?_⟩
      rintro i m H' ⟨rfl, hle, ρ', acc, r', hacc, el, er', hw, s'⟩
      have toJ : ∀ {ρ'' : Store} {σ'' : L2.St} {H'' : Hp} {T1 : List (V × O)}, SR Γ (offP P vs) f σ'' ρ'' (T1 ++ (X ++ (Rj ++ T))) H'' → RS Γ f.c (Rj ++ (slotsR σ'' ρ'' ++ (T1 ++ (X ++ T)))) H'' := fun q => q.rs.perm (permJ _ _ _ _ _)
      by_cases hi' : i < ds.length
      · obtain ⟨d, hd⟩ := get_of_lt hi'
        have hdrop : ds.drop i = d :: ds.drop (i + 1) := by
          rw [List.drop_eq_getElem_cons hi']
          rw [List.getElem?_eq_getElem hi'] at hd
          cases hd
          rfl
        rw [hdrop] at el
        unfold lcL at el
        split at el
        · rename_i ρa ea
          obtain ⟨b, ρb, eb, el⟩ := res_bind_ok el
          refine .inr ⟨it.go f.c _ i H' (toJ (T1 := [(V.ref D1, O.lst (acc.map O.sh))]) s') hi', fun H'' => ∃ ρ'' acc' r'', acc'.length ≤ i + 1 ∧ lcL vs tg at_ ge (ds.drop (i + 1)) ρ'' = .ok r'' ρ2 ∧ acc' ++ r'' = r ∧ (∀ i ∈ vs, ∀ o, ρ''[i]? ≠ some (some o)) ∧
            SR Γ (offP P vs) f (wipe σ vs) ρ'' ((.ref D1, .lst (acc'.map O.sh)) :: (X ++ (Rj ++ T))) H'', fun H'' ⟨ρ'', acc', r'', q1, q2, q3, q4, q5⟩ => ⟨ds.length - (i + 1), by omega, rfl, hi', ρ'', acc', r'', q1, q2, q3, q4, q5⟩, fun x H'' y => ?_⟩
          have sy : SR Γ (offP P vs) f (wipe σ vs) ρ' ((x, .sh d) :: (.ref D1, .lst (acc.map O.sh)) :: (X ++ (Rj ++ T))) H'' :=
            ⟨s'.ok, s'.fix, (it.yld f.c _ i d x H' H'' (toJ (T1 := [(V.ref D1, O.lst (acc.map O.sh))]) s') hd y).perm (permY _ _ _ _ _ _)⟩
          refine hg f _ ρ' _ H'' x d ρa _ sy ea fun σ2 H2 w2 s2 => ⟨w2.trans wipe_wipe, ht f σ2 ρa _ H2 _ s2 ?_⟩
          rw [eb]
          intro H3 s3
          cases b with
          | true =>
            refine iteT ?_
            rw [if_pos rfl] at el
            obtain ⟨o, ρc, ec, el⟩ := res_bind_ok el
            obtain ⟨r'', ρd, ed, el⟩ := res_bind_ok el
            cases el
            refine he f σ2 ρb _ H3 _ s3 ?_
            rw [ec]
            intro y H4 s4
            obtain ⟨us, hus, hul, s5⟩ := s4.push
            refine ⟨us, hus, lt_line (by omega), wipeS ρc vs, acc ++ [fz o], r'', by rw [List.length_append]; exact Nat.add_le_add_right hacc 1, ed, by rw [← er']; simp, fun i m o => wipeS_get m o, s5.again (w2.trans wipe_wipe)⟩
          | false =>
            refine iteF ?_
            rw [if_neg (by simp)] at el
            exact ⟨wipeS ρb vs, acc, r', by omega, el, er', fun i m o => wipeS_get m o, s3.again (w2.trans wipe_wipe)⟩
        · cases el
      · have hil : i = ds.length := by omega
        subst hil
        rw [List.drop_length] at el
        cases el
        rw [List.append_nil] at er'
        subst er'
        refine .inl ⟨it.stop f.c _ H' (toJ (T1 := [(V.ref D1, O.lst (acc.map O.sh))]) s'), k _ _ ?_⟩
        have u := (s'.unblock hw s.fix).permT (T' := X ++ ((V.ref D1, O.lst (acc.map O.sh)) :: (Rj ++ T))) List.perm_middle.symm
        have v := (rest _ _ _ u).permT (T' := Rj ++ ((V.ref D1, O.lst (acc.map O.sh)) :: T)) List.perm_middle.symm
        exact v.dropL
    · exact k.elim
  · exact k.elim
end
end Den
end
section
/-! Den, part L: statements. -/
namespace Den
open PySem L2 PySem.Spec PyProof.Rows
inductive Out where
  | nx (ρ : Store) | brk (ρ : Store) | ct (ρ : Store) | ret (o : O) (ρ : Store) | exc (x : Xn) (ρ : Store) | stuck
abbrev aS := Store → Out
def Res.out {α : Type} : Res α → (α → Store → Out) → Out
  | .ok a ρ, k => k a ρ
  | .exc x ρ, _ => .exc x ρ
  | .stuck, _ => .stuck
def GoodS (Γ : Gb) (P : Nat → Bool) (W : WX) (f : Fr) (T : List (V × O)) (D : Ends) : Out → Prop
  | .nx ρ => ∀ σ H, SR Γ P f σ ρ T H → D.nx σ H
  | .brk ρ => ∀ σ H, SR Γ P f σ ρ T H → D.bk σ H
  | .ct ρ => ∀ σ H, SR Γ P f σ ρ T H → D.ct σ H
  | .ret o ρ => ∀ σ v H, SR Γ P f σ ρ ((v, o) :: T) H → D.rt v H
  | .exc x ρ => ∀ σ cls d H, XR Γ P f σ ρ T x cls d H → W cls d σ H
  | .stuck => False
def Ss (Γ : Gb) (P : Nat → Bool) (W : WX) (ts : TS) (g : aS) : Prop := ∀ f σ ρ T H D, SR Γ P f σ ρ T H → GoodS Γ P W f T D (g ρ) → ts D σ H
section
variable {α : Type} {Γ : Gb} {P : Nat → Bool} {W : WX} {f : Fr} {σ : L2.St} {T : List (V × O)} {D : Ends}
theorem GoodS.bind {k : α → Store → Out} {r : Res α} (h : GoodS Γ P W f T D (r.out k)) : Good Γ P W f σ T (fun a ρ => GoodS Γ P W f T D (k a ρ)) r := by
  cases r with
  | ok a ρ => exact h
  | exc x ρ => exact fun cls d H q => h σ cls d H q
  | stuck => exact h
end
/-! ### their dens -/
def sNext : aS := fun ρ => .nx ρ
def sBrk : aS := fun ρ => .brk ρ
def sCt : aS := fun ρ => .ct ρ
def sSeq (g h : aS) : aS := fun ρ => match g ρ with
  | .nx ρ' => h ρ'
  | o => o
def sDrop (g : aE) : aS := fun ρ => (g ρ).out fun _ ρ' => .nx ρ'
def sRet (g : aE) : aS := fun ρ => (g ρ).out fun o ρ' => .ret o ρ'
def sRetN : aS := fun ρ => .ret (.sh .non) ρ
def sIf (p : aT) (g h : aS) : aS := fun ρ => (p ρ).out fun b ρ' => if b = true then g ρ' else h ρ'
def sSet (i : Nat) (g : aE) : aS := fun ρ => (g ρ).out fun o ρ' => if i < ρ'.length then .nx (ρ'.set i (some o)) else .stuck
def sAsg (g : aE) (tg : aG) : aS := fun ρ => (g ρ).out fun o ρ' => match tg (fz o) ρ' with
  | some ρ2 => .nx ρ2
  | none => .stuck
def sPar (i j : Nat) (g h : aE) : aS := fun ρ => (g ρ).out fun o ρ1 => (h ρ1).out fun u ρ2 => if i < ρ2.length ∧ j < ρ2.length then .nx ((ρ2.set i (some o)).set j (some u)) else .stuck
def sPar3 (i j l : Nat) (g h k : aE) : aS := fun ρ => (g ρ).out fun o ρ1 => (h ρ1).out fun u ρ2 => (k ρ2).out fun w ρ3 => if i < ρ3.length ∧ j < ρ3.length ∧ l < ρ3.length then .nx (((ρ3.set i (some o)).set j (some u)).set l (some w)) else .stuck
def sAug (i : Nat) (g : aE) (f : O → O → Option O) : aS := fun ρ => match ρ[i]? with
  | some (some _) => (g ρ).out fun o ρ1 => match ρ1[i]? with
    | some (some x) => match f x o with
      | some w => .nx (ρ1.set i (some w))
      | none => .stuck
    | _ => .stuck
  | _ => .stuck
def forD (tg : aG) (body : aS) : List D → Store → Out
  | [], ρ => .nx ρ
  | d :: ds, ρ => match tg d ρ with
    | some ρ1 => match body ρ1 with
      | .nx ρ2 => forD tg body ds ρ2
      | .ct ρ2 => forD tg body ds ρ2
      | .brk ρ2 => .nx ρ2
      | o => o
    | none => .stuck
def sFor (src : aI) (tg : aG) (body : aS) : aS := fun ρ => (src ρ).out fun ds ρ1 => forD tg body ds ρ1
def wl (p : aT) (b : aS) : Nat → Store → Out
  | 0, _ => .stuck
  | n + 1, ρ => (p ρ).out fun c ρ1 => if c = true then match b ρ1 with
      | .nx ρ2 => wl p b n ρ2
      | .ct ρ2 => wl p b n ρ2
      | .brk ρ2 => .nx ρ2
      | o => o
    else .nx ρ1
open Classical in
noncomputable def sWhile (p : aT) (b : aS) : aS := fun ρ => if h : ∃ n, wl p b n ρ ≠ .stuck then wl p b h.choose ρ else .stuck
theorem wl_more {p : aT} {b : aS} : ∀ {n : Nat} {ρ : Store}, wl p b n ρ ≠ .stuck → wl p b (n + 1) ρ = wl p b n ρ
  | 0, ρ, h => (h rfl).elim
  | n + 1, ρ, h => by
    rw [wl] at h ⊢
    rw [wl]
    cases e : p ρ with
    | ok c ρ1 =>
      rw [e] at h
      simp only [Res.out] at h ⊢
      cases c with
      | false => rfl
      | true =>
        rw [if_pos rfl] at h ⊢
        rw [if_pos rfl]
        cases e2 : b ρ1 with
        | nx ρ2 =>
          rw [e2] at h
          exact wl_more h
        | ct ρ2 =>
          rw [e2] at h
          exact wl_more h
        | brk ρ2 => rfl
        | ret o ρ2 => rfl
        | exc x ρ2 => rfl
        | stuck => rfl
    | exc x ρ1 => rfl
    | stuck => rfl
theorem wl_add {p : aT} {b : aS} {n : Nat} {ρ : Store} (h : wl p b n ρ ≠ .stuck) : ∀ k, wl p b (n + k) ρ = wl p b n ρ
  | 0 => rfl
  | k + 1 => by
    have ih := wl_add h k
    have := wl_more (p := p) (b := b) (n := n + k) (ρ := ρ) (by rw [ih]; exact h)
    rw [← ih, ← this]
    rfl
theorem sWhile_of {p : aT} {b : aS} {n : Nat} {ρ : Store} (h : wl p b n ρ ≠ .stuck) : sWhile p b ρ = wl p b n ρ := by
  have hx : ∃ n, wl p b n ρ ≠ .stuck := ⟨n, h⟩
  unfold sWhile
  rw [dif_pos hx]
  have h2 := hx.choose_spec
  rcases Nat.le_total n hx.choose with l | l
  · obtain ⟨k, e⟩ := Nat.exists_eq_add_of_le l
    rw [e, wl_add h k]
  · obtain ⟨k, e⟩ := Nat.exists_eq_add_of_le l
    rw [e, wl_add h2 k]
theorem sWhile_ex {p : aT} {b : aS} {ρ : Store} (h : sWhile p b ρ ≠ .stuck) : ∃ n, wl p b n ρ ≠ .stuck ∧ sWhile p b ρ = wl p b n ρ := by
  by_cases hx : ∃ n, wl p b n ρ ≠ .stuck
  · obtain ⟨n, hn⟩ := hx
    exact ⟨n, hn, sWhile_of hn⟩
  · exact (h (by unfold sWhile; rw [dif_neg hx])).elim
/-- one turn of it -/
theorem sWhile_eq (p : aT) (b : aS) (ρ : Store) : sWhile p b ρ = (p ρ).out fun c ρ1 => if c = true then match b ρ1 with
      | .nx ρ2 => sWhile p b ρ2
      | .ct ρ2 => sWhile p b ρ2
      | .brk ρ2 => .nx ρ2
      | o => o
    else .nx ρ1 := by
  have key : ∀ ρ1 ρ2 : Store, (∀ n, wl p b (n + 1) ρ = wl p b n ρ2) → sWhile p b ρ = sWhile p b ρ2 := fun ρ1 ρ2 h => by
    by_cases hx : ∃ n, wl p b n ρ2 ≠ .stuck
    · obtain ⟨n, hn⟩ := hx
      rw [sWhile_of hn, sWhile_of (n := n + 1) (by rw [h]; exact hn), h]
    · have h2 : ¬ ∃ n, wl p b n ρ ≠ .stuck := fun ⟨n, hn⟩ => by
        cases n with
        | zero => exact hn rfl
        | succ n => exact hx ⟨n, by rw [← h]; exact hn⟩
      unfold sWhile
      rw [dif_neg hx, dif_neg h2]
  have now : ∀ o : Out, (∀ n, wl p b (n + 1) ρ = o) → sWhile p b ρ = o := fun o h => by
    by_cases e : o = .stuck
    · have h2 : ¬ ∃ n, wl p b n ρ ≠ .stuck := fun ⟨n, hn⟩ => by
        cases n with
        | zero => exact hn rfl
        | succ n => exact hn (by rw [h, e])
      unfold sWhile
      rw [dif_neg h2, e]
    · rw [sWhile_of (n := 1) (by rw [h]; exact e), h]
  cases e : p ρ with
  | ok c ρ1 =>
    cases c with
    | false => exact now _ fun n => by rw [wl, e]; rfl
    | true =>
      cases e2 : b ρ1 with
      | nx ρ2 => exact (key ρ1 ρ2 fun n => by simp [wl, e, e2, Res.out]).trans (by simp [e2, Res.out])
      | ct ρ2 => exact (key ρ1 ρ2 fun n => by simp [wl, e, e2, Res.out]).trans (by simp [e2, Res.out])
      | brk ρ2 => exact now _ fun n => by simp [wl, e, e2, Res.out]
      | ret o ρ2 => exact now _ fun n => by simp [wl, e, e2, Res.out]
      | exc x ρ2 => exact now _ fun n => by simp [wl, e, e2, Res.out]
      | stuck => exact now _ fun n => by simp [wl, e, e2, Res.out]
  | exc x ρ1 => exact now _ fun n => by rw [wl, e]; rfl
  | stuck => exact now _ fun n => by rw [wl, e]; rfl
/-! ### they are sound -/
section
variable {Γ : Gb} {P : Nat → Bool} {W : WX} {t u : TS} {g h : aS} {te ta tb tc : TE} {ge gf gk : aE} {tt : TT} {p : aT}
theorem ss_next : Ss Γ P W tNext sNext := fun f σ ρ T H D s k => k σ H s
theorem ss_brk : Ss Γ P W tBreak sBrk := fun f σ ρ T H D s k => k σ H s
theorem ss_ct : Ss Γ P W tCont sCt := fun f σ ρ T H D s k => k σ H s
theorem ss_seq (h1 : Ss Γ P W t g) (h2 : Ss Γ P W u h) : Ss Γ P W (tSeq t u) (sSeq g h) := fun f σ ρ T H D s k => by
  refine h1 f σ ρ T H { D with nx := u D } s ?_
  unfold sSeq at k
  cases e : g ρ with
  | nx ρ' =>
    rw [e] at k
    exact fun σ' H' s' => h2 f σ' ρ' T H' D s' k
  | brk ρ' => rw [e] at k; exact k
  | ct ρ' => rw [e] at k; exact k
  | ret o ρ' => rw [e] at k; exact k
  | exc x ρ' => rw [e] at k; exact k
  | stuck => rw [e] at k; exact k
theorem ss_drop (h1 : Sx Γ P W te ge) : Ss Γ P W (tDrop te) (sDrop ge) := fun f σ ρ T H D s k =>
  h1 f σ ρ T H _ s ((GoodS.bind k).imp fun o ρ' k v H' s' => k σ H' s'.drop)
theorem ss_ret (h1 : Sx Γ P W te ge) : Ss Γ P W (tRet te) (sRet ge) := fun f σ ρ T H D s k =>
  h1 f σ ρ T H _ s ((GoodS.bind k).imp fun o ρ' k v H' s' => k σ v H' s')
theorem ss_retN : Ss Γ P W tRetN sRetN := fun f σ ρ T H D s k => k σ _ H (s.pure fun _ => .non)
theorem ss_if (h1 : Sxt Γ P W tt p) (h2 : Ss Γ P W t g) (h3 : Ss Γ P W u h) : Ss Γ P W (tIfS tt t u) (sIf p g h) := fun f σ ρ T H D s k => by
  refine h1 f σ ρ T H _ s ((GoodS.bind k).imp fun b ρ' k H' s' => ?_)
  cases b with
  | true => exact iteT (h2 f σ ρ' T H' D s' k)
  | false => exact iteF (h3 f σ ρ' T H' D s' k)
theorem ss_set {i : Nat} (hp : P i = false) (h1 : Sx Γ P W te ge) : Ss Γ P W (tAsg te (gName i)) (sSet i ge) := fun f σ ρ T H D s k => by
  refine h1 f σ ρ T H _ s ((GoodS.bind k).imp fun o ρ' k v H' s' => ?_)
  split at k
  · rename_i hi
    exact k _ _ (s'.set (by rw [s'.lenS]; exact hi) hp)
  · exact k.elim
theorem ss_asg {tg : TG} {a : aG} {vs : List Nat} (h1 : Sx Γ P W te ge) (hg : Sg Γ P vs tg a) : Ss Γ P W (tAsg te tg) (sAsg ge a) := fun f σ ρ T H D s k => by
  refine h1 f σ ρ T H _ s ((GoodS.bind k).imp fun o ρ' k v H' s' => ?_)
  split at k
  · rename_i ρ2 e
    exact hg f σ ρ' T H' v _ ρ2 _ s'.fz e fun σ2 H2 _ s2 => k σ2 H2 s2
  · exact k.elim
theorem ss_par {i j : Nat} (hi : P i = false) (hj : P j = false) (h1 : Sx Γ P W ta ge) (h2 : Sx Γ P W tb gf) : Ss Γ P W (tPar i j (tCons ta (tCons tb tNil))) (sPar i j ge gf) := fun f σ ρ T H D s k => by
  refine h1 f σ ρ T H _ s ((GoodS.bind k).imp fun o ρ1 k v H1 s1 => ?_)
  have k2 := (GoodS.bind (σ := σ) k).more (T' := [(v, o)])
  refine h2 f σ ρ1 _ H1 _ s1 (k2.imp fun u ρ2 k w H2 s2 => ?_)
  split at k
  · rename_i hl
    refine ⟨v, w, rfl, k _ _ ?_⟩
    have s3 := (s2.permT (List.Perm.swap _ _ _)).set (i := i) (by rw [s2.lenS]; exact hl.1) hi
    exact s3.set (i := j) (by rw [s3.lenS, List.length_set]; exact hl.2) hj
  · exact k.elim
theorem ss_aug {i : Nat} {ti : TIp} {r : O → O → Option O} (hi : P i = false) (h1 : Sx Γ P W te ge) (ok : Op2 Γ ti r) : Ss Γ P W (tAug i te ti) (sAug i ge r) := fun f σ ρ T H D s k => by
  unfold sAug at k
  split at k
  · rename_i o0 e0
    obtain ⟨x, hx, _⟩ := s.take e0
    refine ⟨x, hx, h1 f σ ρ T H _ s ((GoodS.bind k).imp fun o ρ1 k v H1 s1 => ?_)⟩
    split at k
    · rename_i ox e1
      split at k
      · rename_i w ew
        have hl : i < ρ1.length := (List.getElem?_eq_some_iff.mp e1).1
        refine ok f.c _ H1 x ox v o w _ s1.rs (List.mem_append_left _ (slots_mem s1.ok e1 hx)) (by simp) ew fun z H2 q => k _ _ ?_
        have s2 : SR Γ P f σ ρ1 ((z, w) :: (v, o) :: T) H2 := ⟨s1.ok, s1.fix, q.perm List.perm_middle.symm⟩
        exact (s2.permT (List.Perm.swap _ _ _)).drop.set (by rw [s2.lenS]; exact hl) hi
      · exact k.elim
    · exact k.elim
  · exact k.elim
theorem GoodS.nxL {f : Fr} {T T' : List (V × O)} {D : Ends} {x : Xn} {ρ : Store} (k : GoodS Γ P W f T D (.exc x ρ)) : GoodS Γ P W f (T' ++ T) D (.exc x ρ) := fun σ cls d H q => k σ cls d H q.dropL
theorem ss_for {wi : TI} {src : aI} {tg : TG} {a : aG} {vs : List Nat} (hi : Sxi Γ P W wi src) (hg : Sg Γ P vs tg a) (hb : Ss Γ P W t g) : Ss Γ P W (tFor wi tg t) (sFor src a g) := fun f σ ρ T H D s k => by
  refine hi f σ ρ T H _ s ((GoodS.bind k).imp fun ds ρ1 k J Rj H1 it s1 => ?_)
  refine ⟨fun i m σ H => m = ds.length - i ∧ i ≤ ds.length ∧ ∃ ρ', SR Γ P f σ ρ' (Rj ++ T) H ∧ GoodS Γ P W f T D (forD a g (ds.drop i) ρ'), ⟨ds.length, by simp, Nat.zero_le _, ρ1, s1, by rw [List.drop_zero]; exact k⟩, ?_⟩
  rintro i m σ' H' ⟨rfl, hle, ρ', s', k'⟩
  have toJ : ∀ {ρ'' : Store} {σ'' : L2.St} {H'' : Hp}, SR Γ P f σ'' ρ'' (Rj ++ T) H'' → RS Γ f.c (Rj ++ (slotsR σ'' ρ'' ++ T)) H'' := fun q => q.rs.perm (List.perm_append_comm_assoc _ _ _)
  by_cases hi' : i < ds.length
  · obtain ⟨d, hd⟩ := get_of_lt hi'
    have hdrop : ds.drop i = d :: ds.drop (i + 1) := by
      rw [List.drop_eq_getElem_cons hi']
      rw [List.getElem?_eq_getElem hi'] at hd
      cases hd
      rfl
    rw [hdrop] at k'
    unfold forD at k'
    split at k'
    · rename_i ρa ea
      refine .inr ⟨it.go f.c _ i H' (toJ s') hi', fun σ'' H'' => ∃ ρ'', SR Γ P f σ'' ρ'' (Rj ++ T) H'' ∧ GoodS Γ P W f T D (forD a g (ds.drop (i + 1)) ρ''), fun σ'' H'' ⟨ρ'', q1, q2⟩ => ⟨ds.length - (i + 1), by omega, rfl, hi', ρ'', q1, q2⟩, fun x H'' y => ?_⟩
      have sy : SR Γ P f σ' ρ' ((x, .sh d) :: (Rj ++ T)) H'' := ⟨s'.ok, s'.fix, (it.yld f.c _ i d x H' H'' (toJ s') hd y).perm (((List.perm_append_comm_assoc _ _ _).cons _).trans List.perm_middle.symm)⟩
      refine hg f σ' ρ' _ H'' x d ρa _ sy ea fun σ2 H2 _ s2 => hb f σ2 ρa _ H2 _ s2 ?_
      cases e : g ρa with
      | nx ρb =>
        rw [e] at k'
        exact fun σ3 H3 s3 => ⟨ρb, s3, k'⟩
      | ct ρb =>
        rw [e] at k'
        exact fun σ3 H3 s3 => ⟨ρb, s3, k'⟩
      | brk ρb =>
        rw [e] at k'
        exact fun σ3 H3 s3 => k' σ3 H3 s3.dropL
      | ret o ρb =>
        rw [e] at k'
        exact fun σ3 v H3 s3 => k' σ3 v H3 (s3.permT (T' := Rj ++ (v, o) :: T) List.perm_middle.symm).dropL
      | exc x ρb =>
        rw [e] at k'
        exact fun σ3 cls dd H3 q => k' σ3 cls dd H3 q.dropL
      | stuck => rw [e] at k'; exact k'.elim
    · exact k'.elim
  · have hil : i = ds.length := by omega
    subst hil
    rw [List.drop_length] at k'
    exact .inl ⟨it.stop f.c _ H' (toJ s'), k' σ' H' s'.dropL⟩
theorem ss_while (h1 : Sxt Γ P W tt p) (h2 : Ss Γ P W t g) : Ss Γ P W (tWhile tt t) (sWhile p g) := fun f σ ρ T H D s k => by
  have hns : sWhile p g ρ ≠ .stuck := fun e => by rw [e] at k; exact k
  obtain ⟨n, hn, en⟩ := sWhile_ex hns
  rw [en] at k
  refine ⟨fun m σ H => ∃ ρ, SR Γ P f σ ρ T H ∧ GoodS Γ P W f T D (wl p g m ρ), ⟨n, ρ, s, k⟩, ?_⟩
  rintro m σ' H' ⟨ρ', s', k'⟩
  cases m with
  | zero => exact k'.elim
  | succ m =>
    rw [wl] at k'
    refine h1 f σ' ρ' T H' _ s' ((GoodS.bind k').imp fun c ρ1 k1 H1 s1 => ?_)
    cases c with
    | false => exact iteF (k1 σ' H1 s1)
    | true =>
      rw [if_pos rfl] at k1
      refine iteT ⟨fun σ'' H'' => ∃ ρ, SR Γ P f σ'' ρ T H'' ∧ GoodS Γ P W f T D (wl p g m ρ), fun σ'' H'' q => ⟨m, Nat.lt_succ_self _, q⟩, h2 f σ' ρ1 T H1 _ s1 ?_⟩
      cases e : g ρ1 with
      | nx ρb =>
        rw [e] at k1
        exact fun σ3 H3 s3 => ⟨ρb, s3, k1⟩
      | ct ρb =>
        rw [e] at k1
        exact fun σ3 H3 s3 => ⟨ρb, s3, k1⟩
      | brk ρb => rw [e] at k1; exact k1
      | ret o ρb => rw [e] at k1; exact k1
      | exc x ρb => rw [e] at k1; exact k1
      | stuck => rw [e] at k1; exact k1
end
end Den
end
section
/-! Den, part M: comprehensions of two clauses; statements as they stand in a text; the rule for a def. -/
namespace Den
open PySem L2 PySem.Spec PyProof.Rows
def lc2L (vs vs1 : List Nat) (tg : aG) (tt : aT) (src1 : aI) (tg1 : aG) (tt1 : aT) (ge : aE) : List D → Store → Res (List D)
  | [], ρ => .ok [] ρ
  | d :: ds, ρ => match tg d ρ with
    | some ρ1 => (tt ρ1).bind fun b ρ2 => if b = true then (src1 ρ2).bind fun ds1 ρ3 => (lcL vs1 tg1 tt1 ge ds1 (wipeS ρ3 vs1)).bind fun r ρ4 => (lc2L vs vs1 tg tt src1 tg1 tt1 ge ds (wipeS ρ4 vs)).bind fun r' ρ5 => .ok (r ++ r') ρ5
      else lc2L vs vs1 tg tt src1 tg1 tt1 ge ds (wipeS ρ2 vs)
    | none => .stuck
def aLc2 (src : aI) (vs vs1 : List Nat) (tg : aG) (tt : aT) (src1 : aI) (tg1 : aG) (tt1 : aT) (ge : aE) : aE := fun ρ => (src ρ).bind fun ds ρ1 => match lc2L vs vs1 tg tt src1 tg1 tt1 ge ds (wipeS ρ1 vs) with
    | .ok r ρ2 => if r.length ≤ 16000000 then .ok (.lst (r.map O.sh)) (restS ρ1 vs ρ2) else .stuck
    | _ => .stuck
theorem wipe_sub {σ : L2.St} {vs vs1 : List Nat} (h : ∀ i ∈ vs1, i ∈ vs) : wipe (wipe σ vs1) vs = wipe σ vs := by
  apply List.ext_getElem?
  intro j
  rw [wipe_get, wipe_get, wipe_get]
  by_cases hj : j ∈ vs
  · rw [if_pos hj, if_pos hj]
    by_cases hk : j ∈ vs1
    · rw [if_pos hk]
      cases σ[j]? <;> rfl
    · rw [if_neg hk]
  · rw [if_neg hj, if_neg hj, if_neg fun k => hj (h j k)]
section
variable {Γ : Gb} {P : Nat → Bool} {W : WX} {vs vs1 : List Nat}
theorem SR.again0 {P : Nat → Bool} {f : Fr} {σ σ0 : L2.St} {ρ : Store} {T : List (V × O)} {H : Hp} {ws : List Nat} (s : SR Γ P f σ ρ T H) (hp : ∀ j, P j = true → j ∉ ws) (hw : wipe σ ws = wipe σ0 ws) : SR Γ P f (wipe σ0 ws) (wipeS ρ ws) T H := by
  have s' := s.clears ws
  rw [← hw]
  refine s'.resig (wipe_length σ ws) (fun i o e => ?_) fun j hj => ?_
  · rw [wipe_get, if_neg fun m => wipeS_get m o e]
  · rw [wipe_get, if_neg (hp j hj)]
    exact s.fix j hj
theorem permK {α : Type} (S A X R T : List α) : (S ++ (A ++ (R ++ (X ++ T)))).Perm (R ++ (S ++ (A ++ (X ++ T)))) := by
  classical
  refine List.perm_iff_count.mpr fun a => ?_
  simp only [List.count_append]
  omega
theorem permI {α : Type} (x d : α) (S R T : List α) : (x :: (R ++ (S ++ ([d] ++ T)))).Perm (S ++ (x :: (R ++ (d :: T)))) := by
  classical
  refine List.perm_iff_count.mpr fun a => ?_
  simp only [List.count_append, List.count_cons, List.count_nil]
  omega
theorem sx_lc2 {wi wi1 : TI} {g g1 : TG} {tt tt1 : TT} {te : TE} {src src1 : aI} {tg tg1 : aG} {at_ at1 : aT} {ge : aE} (hv : ∀ i ∈ vs1, i ∈ vs) (hi : Sxi Γ P W wi src) (hg : Sg Γ (offP P vs) vs g tg) (ht : Sxt Γ (offP P vs) W0 tt at_)
    (hi1 : Sxi Γ (offP P vs) W0 wi1 src1) (hg1 : Sg Γ (offP P vs) vs1 g1 tg1) (ht1 : Sxt Γ (offP P vs) W0 tt1 at1) (he : Sx Γ (offP P vs) W0 te ge) :
    Sx Γ P W (tLc2 wi g tt wi1 g1 tt1 te vs vs1) (aLc2 src vs vs1 tg at_ src1 tg1 at1 ge) := fun f σ ρ T H Q s k => by
  have off : ∀ j, offP P vs j = true → j ∉ vs := fun j h => (offP_of h).2
  have off1 : ∀ j, offP P vs j = true → j ∉ vs1 := fun j h m => (offP_of h).2 (hv j m)
  refine hi f σ ρ T H _ s ((Good.bind k).imp fun ds ρ1 k J Rj H1 it s1 D1 hD => ?_)
  split at k
  · rename_i r ρ2 er
    split at k
    · rename_i hlen
      obtain ⟨X, sx, rest⟩ := s1.outs vs
      have b0 := sx.block (vs := vs) fun i m o => wipeS_get m o
      have b1 : SR Γ (offP P vs) f (wipe σ vs) (wipeS ρ1 vs) ((.ref D1, .lst (([] : List D).map O.sh)) :: (X ++ (Rj ++ T))) (upd H1 D1 (.lst [])) :=
        b0.mapT fun R q => RS.newL (rs := []) q hD
      refine ⟨fun i m H' => m = ds.length - i ∧ i ≤ ds.length ∧ ∃ ρ' acc r', lc2L vs vs1 tg at_ src1 tg1 at1 ge (ds.drop i) ρ' = .ok r' ρ2 ∧ acc ++ r' = r ∧ (∀ i ∈ vs, ∀ o, ρ'[i]? ≠ some (some o)) ∧
        SR Γ (offP P vs) f (wipe σ vs) ρ' ((.ref D1, .lst (acc.map O.sh)) :: (X ++ (Rj ++ T))) H', ⟨ds.length, by simp, Nat.zero_le _, wipeS ρ1 vs, [], r, by rw [List.drop_zero]; exact er, rfl, fun i m o => wipeS_get m o, b1⟩, ?_⟩
      rintro i m H' ⟨rfl, hle, ρ', acc, r', el, er', hw, s'⟩
      have toJ : ∀ {ρ'' : Store} {σ'' : L2.St} {H'' : Hp} {T1 : List (V × O)}, SR Γ (offP P vs) f σ'' ρ'' (T1 ++ (X ++ (Rj ++ T))) H'' → RS Γ f.c (Rj ++ (slotsR σ'' ρ'' ++ (T1 ++ (X ++ T)))) H'' := fun q => q.rs.perm (permJ _ _ _ _ _)
      by_cases hi' : i < ds.length
      · obtain ⟨d, hd⟩ := get_of_lt hi'
        have hdrop : ds.drop i = d :: ds.drop (i + 1) := by
          rw [List.drop_eq_getElem_cons hi']
          rw [List.getElem?_eq_getElem hi'] at hd
          cases hd
          rfl
        rw [hdrop] at el
        unfold lc2L at el
        split at el
        · rename_i ρa ea
          obtain ⟨b, ρb, eb, el⟩ := res_bind_ok el
          refine .inr ⟨it.go f.c _ i H' (toJ (T1 := [(V.ref D1, O.lst (acc.map O.sh))]) s') hi', fun H'' => ∃ ρ'' acc' r'', lc2L vs vs1 tg at_ src1 tg1 at1 ge (ds.drop (i + 1)) ρ'' = .ok r'' ρ2 ∧ acc' ++ r'' = r ∧ (∀ i ∈ vs, ∀ o, ρ''[i]? ≠ some (some o)) ∧
            SR Γ (offP P vs) f (wipe σ vs) ρ'' ((.ref D1, .lst (acc'.map O.sh)) :: (X ++ (Rj ++ T))) H'', fun H'' ⟨ρ'', acc', r'', q2, q3, q4, q5⟩ => ⟨ds.length - (i + 1), by omega, rfl, hi', ρ'', acc', r'', q2, q3, q4, q5⟩, fun x H'' y => ?_⟩
          have sy : SR Γ (offP P vs) f (wipe σ vs) ρ' ((x, .sh d) :: (.ref D1, .lst (acc.map O.sh)) :: (X ++ (Rj ++ T))) H'' :=
            ⟨s'.ok, s'.fix, (it.yld f.c _ i d x H' H'' (toJ (T1 := [(V.ref D1, O.lst (acc.map O.sh))]) s') hd y).perm (permY _ _ _ _ _ _)⟩
          refine hg f _ ρ' _ H'' x d ρa _ sy ea fun σ2 H2 w2 s2 => ⟨w2.trans wipe_wipe, ht f σ2 ρa _ H2 _ s2 ?_⟩
          rw [eb]
          intro H3 s3
          cases b with
          | true =>
            refine iteT ?_
            rw [if_pos rfl] at el
            obtain ⟨ds1, ρc, ec, el⟩ := res_bind_ok el
            obtain ⟨r1, ρd, ed, el⟩ := res_bind_ok el
            obtain ⟨r2, ρe, ee, el⟩ := res_bind_ok el
            cases el
            refine hi1 f σ2 ρb _ H3 _ s3 ?_
            rw [ec]
            intro J1 Rj1 H4 it1 s4
            -- the inner block
            have c0 : SR Γ (offP P vs) f (wipe σ2 vs1) (wipeS ρc vs1) (Rj1 ++ ((.ref D1, .lst (acc.map O.sh)) :: (X ++ (Rj ++ T)))) H4 := s4.again0 off1 rfl
            refine ⟨fun j m H' => m = ds1.length - j ∧ j ≤ ds1.length ∧ ∃ ρ' acc' r', lcL vs1 tg1 at1 ge (ds1.drop j) ρ' = .ok r' ρd ∧ acc' ++ (r' ++ r2) = r ∧
              SR Γ (offP P vs) f (wipe σ2 vs1) ρ' (Rj1 ++ ((.ref D1, .lst (acc'.map O.sh)) :: (X ++ (Rj ++ T)))) H', ⟨ds1.length, by simp, Nat.zero_le _, wipeS ρc vs1, acc, r1, by rw [List.drop_zero]; exact ed, er', c0⟩, ?_⟩
            rintro j m H5 ⟨rfl, hle1, ρj, acc1, rj, elj, erj, s5⟩
            have toJ1 : ∀ {ρ'' : Store} {σ'' : L2.St} {H'' : Hp} {T1 : List (V × O)}, SR Γ (offP P vs) f σ'' ρ'' (Rj1 ++ T1) H'' → RS Γ f.c (Rj1 ++ (slotsR σ'' ρ'' ++ T1)) H'' := fun q => q.rs.perm (List.perm_append_comm_assoc _ _ _)
            by_cases hj' : j < ds1.length
            · obtain ⟨d1, hd1⟩ := get_of_lt hj'
              have hdrop1 : ds1.drop j = d1 :: ds1.drop (j + 1) := by
                rw [List.drop_eq_getElem_cons hj']
                rw [List.getElem?_eq_getElem hj'] at hd1
                cases hd1
                rfl
              rw [hdrop1] at elj
              unfold lcL at elj
              split at elj
              · rename_i ρja eja
                obtain ⟨b, ρjb, ejb, elj⟩ := res_bind_ok elj
                refine .inr ⟨it1.go f.c _ j H5 (toJ1 s5) hj', fun H'' => ∃ ρ'' acc' r'', lcL vs1 tg1 at1 ge (ds1.drop (j + 1)) ρ'' = .ok r'' ρd ∧ acc' ++ (r'' ++ r2) = r ∧
                  SR Γ (offP P vs) f (wipe σ2 vs1) ρ'' (Rj1 ++ ((.ref D1, .lst (acc'.map O.sh)) :: (X ++ (Rj ++ T)))) H'', fun H'' ⟨ρ'', acc', r'', q2, q3, q5⟩ => ⟨ds1.length - (j + 1), by omega, rfl, hj', ρ'', acc', r'', q2, q3, q5⟩, fun x1 H6 y1 => ?_⟩
                have sy1 : SR Γ (offP P vs) f (wipe σ2 vs1) ρj ((x1, .sh d1) :: (Rj1 ++ ((.ref D1, .lst (acc1.map O.sh)) :: (X ++ (Rj ++ T))))) H6 :=
                  ⟨s5.ok, s5.fix, (it1.yld f.c _ j d1 x1 H5 H6 (toJ1 s5) hd1 y1).perm (permI _ _ _ _ _)⟩
                refine hg1 f _ ρj _ H6 x1 d1 ρja _ sy1 eja fun σ7 H7 w7 s7 => ⟨w7.trans wipe_wipe, ht1 f σ7 ρja _ H7 _ s7 ?_⟩
                rw [ejb]
                intro H8 s8
                cases b with
                | true =>
                  refine iteT ?_
                  rw [if_pos rfl] at elj
                  obtain ⟨o, ρjc, ejc, elj⟩ := res_bind_ok elj
                  obtain ⟨r'', ρjd, ejd, elj⟩ := res_bind_ok elj
                  cases elj
                  refine he f σ7 ρjb _ H8 _ s8 ?_
                  rw [ejc]
                  intro y H9 s9
                  obtain ⟨us, hus, hul, s10⟩ := SR.push (T := Rj1 ++ (X ++ (Rj ++ T))) (s9.permT (T' := (y, o) :: (.ref D1, .lst (acc1.map O.sh)) :: (Rj1 ++ (X ++ (Rj ++ T)))) (List.perm_middle.cons _))
                  refine ⟨us, hus, lt_line ?_, wipeS ρjc vs1, acc1 ++ [fz o], r'', ejd, by rw [← erj]; simp, ?_⟩
                  · rw [hul]
                    have := congrArg List.length erj
                    simp only [List.length_append, List.length_cons] at this
                    omega
                  · exact (s10.again0 off1 (w7.trans wipe_wipe)).permT List.perm_middle.symm
                | false =>
                  refine iteF ?_
                  rw [if_neg (by simp)] at elj
                  exact ⟨wipeS ρjb vs1, acc1, rj, elj, erj, s8.again0 off1 (w7.trans wipe_wipe)⟩
              · cases elj
            · have hjl : j = ds1.length := by omega
              subst hjl
              rw [List.drop_length] at elj
              cases elj
              refine .inl ⟨it1.stop f.c _ H5 (toJ1 s5), wipeS ρd vs, acc1, r2, ee, by rw [← erj]; rfl, fun i m o => wipeS_get m o, ?_⟩
              have q := s5.again0 (σ0 := σ) off ((wipe_sub hv).trans (w2.trans wipe_wipe))
              exact q.dropL
          | false =>
            refine iteF ?_
            rw [if_neg (by simp)] at el
            exact ⟨wipeS ρb vs, acc, r', el, er', fun i m o => wipeS_get m o, s3.again (w2.trans wipe_wipe)⟩
        · cases el
      · have hil : i = ds.length := by omega
        subst hil
        rw [List.drop_length] at el
        cases el
        rw [List.append_nil] at er'
        subst er'
        refine .inl ⟨it.stop f.c _ H' (toJ (T1 := [(V.ref D1, O.lst (acc.map O.sh))]) s'), k _ _ ?_⟩
        have u := (s'.unblock hw s.fix).permT (T' := X ++ ((V.ref D1, O.lst (acc.map O.sh)) :: (Rj ++ T))) List.perm_middle.symm
        have v := (rest _ _ _ u).permT (T' := Rj ++ ((V.ref D1, O.lst (acc.map O.sh)) :: T)) List.perm_middle.symm
        exact v.dropL
    · exact k.elim
  · exact k.elim
end
end Den
end
section
/-! Den, part N: statements as they stand in a text, calls, comprehensions; the rule for a def. -/
namespace Den
open PySem L2 PySem.Spec PyProof.Rows
structure AG (X : Cx) (Γ : Gb) (P : Nat → Bool) (vs : List Nat) (target : Expr) (t : TG) (a : aG) : Prop where
  pg : PG X target t
  sg : Sg Γ P vs t a
structure AGs (X : Cx) (Γ : Gb) (P : Nat → Bool) (vs : List Nat) (ts : List Expr) (t : TGs) (as : List aG) : Prop where
  pgs : PGs X ts t
  sgs : Sgs Γ P vs t as
structure AS (X : Cx) (Γ : Gb) (P : Nat → Bool) (W : WX) (st : Stmt) (t : TS) (g : aS) : Prop where
  ps : PS X st t
  sx : Ss Γ P W t g
structure AL (X : Cx) (Γ : Gb) (P : Nat → Bool) (W : WX) (sts : List Stmt) (t : TS) (g : aS) : Prop where
  pss : PSs X sts t
  sx : Ss Γ P W t g
/-- (a, b, ..) = a tuple or a list of that length -/
def aUnp (as : List aG) : aG := fun d ρ => match d with
  | .tup ds => aGs as ds ρ
  | .lst ds => aGs as ds ρ
  | _ => none
def gUnpT (K : PySem.W.Frag) (n : Nat) (t : TGs) : TG := fun v σ H Q => L2.gTup K n t v σ H Q ∨ gUnl K n t v σ H Q
section
variable {X : Cx} {Γ : Gb} {P : Nat → Bool} {W : WX} {vs : List Nat} {t u : TS} {g h : aS} {te ta tb : TE} {ge gf : aE} {tt : TT} {p : aT} {tg : TG} {tgs : TGs} {a : aG} {as : List aG} {e : Expr} {es : List Expr} {st : Stmt} {rest sa sb : List Stmt} {pos : Pos}
theorem ag_name (i : Nat) {x : Str} (hN : X.N.Nodup) (hi : X.N[i]? = some x := by rfl) (hx : Loc X.env.scope x := by first | exact .inl rfl | exact .inr rfl) (hp : P i = false := by rfl) (hv : i ∈ vs := by decide)
    (hf : X.fn x = true ∨ X.env.scope.names.lookup x = some .local := by first | exact .inl rfl | exact .inr rfl) : AG X Γ P vs (.Name x pos) (gName i) (aN i) := ⟨pg_name hN hi hx hf, sg_name hp hv⟩
theorem ags_nil : AGs X Γ P vs [] gNil [] := ⟨pgs_nil, sgs_nil⟩
theorem ags_cons (h1 : AG X Γ P vs e tg a) (h2 : AGs X Γ P vs es tgs as) (hs : (assignEach (e :: es) X.env).map (·.2) = assign e X.env :: (assignEach es X.env).map (·.2) := by rfl) : AGs X Γ P vs (e :: es) (gCons tg tgs) (a :: as) :=
  ⟨pgs_cons h1.pg h2.pgs hs, sgs_cons h1.sg h2.sgs⟩
theorem ag_tup {k n : Nat} (hK : X.K = Γ.K) (h : AGs X Γ P vs es tgs as) (hc : X.calm = true := by rfl) (hn : (assignEach es X.env).length = n := by rfl) (hn2 : as.length = n := by rfl) (hst : (assignEach es X.env).findIdx? (·.1) = none := by rfl) :
    AG X Γ P vs (.Tuple es k pos) (L2.gTup Γ.K n tgs) (aTupG as) := ⟨hK ▸ pg_tup hc h.pgs hn hst, sg_tup h.sgs hn2⟩
theorem PG.or {target : Expr} {t1 t2 : TG} (h1 : PG X target t1) (h2 : PG X target t2) : PG X target fun v σ H Q => t1 v σ H Q ∨ t2 v σ H Q :=
  ⟨fun pins s σ H v u Q I r h => h.elim (fun q => h1.run pins s σ H v u Q I r q) fun q => h2.run pins s σ H v u Q I r q⟩
theorem sg_unp {n : Nat} {gs : TGs} (h : Sgs Γ P vs gs as) (hn : as.length = n) : Sg Γ P vs (gUnpT Γ.K n gs) (aUnp as) := fun f σ ρ T H v d ρ' Q s e k => by
  unfold aUnp at e
  split at e
  · exact .inl (sg_tup h hn f σ ρ T H v _ ρ' Q s e k)
  · rename_i ds
    refine .inr ?_
    obtain ⟨a, xs, rfl, p, q⟩ := RS.lst (v := v) (o := .sh (.lst ds)) s.rs (by simp) rfl
    refine ⟨a, xs, rfl, .of p, by rw [q.len, aGs_len e, hn], h f σ ρ T H xs ds ρ' Q ?_ q.len e k⟩
    obtain ⟨S, sb, r, _, ad⟩ := q.ex
    have z := ad xs ds r
    refine ⟨s.ok, s.fix, ?_⟩
    have pm : (xs.zip (ds.map O.sh) ++ (slotsR σ ρ ++ (V.ref a, O.sh (.lst ds)) :: T)).Perm ((V.ref a, O.sh (.lst ds)) :: (slotsR σ ρ ++ (xs.zip (ds.map O.sh) ++ T))) := by
      refine (List.perm_append_comm_assoc _ _ _).trans ?_
      refine (List.Perm.append_left _ List.perm_middle).trans ?_
      exact List.perm_middle
    exact (z.perm pm).drop
  · cases e
theorem ag_unp {k n : Nat} (hK : X.K = Γ.K) (h : AGs X Γ P vs es tgs as) (hc : X.calm = true := by rfl) (hn : (assignEach es X.env).length = n := by rfl) (hn2 : as.length = n := by rfl) (hst : (assignEach es X.env).findIdx? (·.1) = none := by rfl) :
    AG X Γ P vs (.Tuple es k pos) (gUnpT Γ.K n tgs) (aUnp as) := ⟨hK ▸ PG.or (pg_tup hc h.pgs hn hst) (pg_unl hc h.pgs hn hst), sg_unp h.sgs hn2⟩
/-! statements -/
theorem al_nil : AL X Γ P W [] tNext sNext := ⟨pss_nil, ss_next⟩
theorem al_one (h1 : AS X Γ P W st t g) : AL X Γ P W [st] t g := ⟨pss_one h1.ps, h1.sx⟩
theorem al_cons (h1 : AS X Γ P W st t g) (h2 : AL X Γ P W rest u h) : AL X Γ P W (st :: rest) (tSeq t u) (sSeq g h) := ⟨pss_cons h1.ps h2.pss, ss_seq h1.sx h2.sx⟩
theorem as_pass : AS X Γ P W (.Pass pos) tNext sNext := ⟨ps_pass, ss_next⟩
theorem as_brk : AS X Γ P W (.Break pos) tBreak sBrk := ⟨ps_break, ss_brk⟩
theorem as_ct : AS X Γ P W (.Continue pos) tCont sCt := ⟨ps_continue, ss_ct⟩
theorem as_doc {x j pos pos'} : AS X Γ P W (.Expr (.Constant (.str x) j pos) pos') tNext sNext := ⟨ps_doc, ss_next⟩
theorem as_expr (he : AE X Γ P W e te ge) (hs : swapsWith e none pos.line X.env = pure false := by rfl) : AS X Γ P W (.Expr e pos) (tDrop te) (sDrop ge) := ⟨ps_expr he.pe hs, ss_drop he.sx⟩
theorem as_ret (he : AE X Γ P W e te ge) : AS X Γ P W (.Return (some e) pos) (tRet te) (sRet ge) := ⟨ps_ret he.pe, ss_ret he.sx⟩
theorem as_retN : AS X Γ P W (.Return none pos) tRetN sRetN := ⟨ps_retN, ss_retN⟩
theorem as_if {c : Expr} (hc : AT X Γ P W c tt p) (ha : AL X Γ P W sa t g) (hb : AL X Γ P W sb u h) : AS X Γ P W (.If c sa sb pos) (tIfS tt t u) (sIf p g h) := ⟨ps_if hc.pt ha.pss hb.pss, ss_if hc.sx ha.sx hb.sx⟩
theorem as_set (i : Nat) {x : Str} {pos' : Pos} (hN : X.N.Nodup) (he : AE X Γ P W e te ge) (hi : X.N[i]? = some x := by rfl) (hx : Loc X.env.scope x := by first | exact .inl rfl | exact .inr rfl) (hp : P i = false := by rfl)
    (hs : swapsWith e (some (.Name x pos')) pos.line X.env = pure false := by rfl) (hf : X.fn x = true ∨ X.env.scope.names.lookup x = some .local := by first | exact .inl rfl | exact .inr rfl) :
    AS X Γ P W (.Assign [.Name x pos'] e pos) (tAsg te (gName i)) (sSet i ge) := ⟨ps_set hN hi hx he.pe hs hf, ss_set hp he.sx⟩
theorem as_asg {tge : Expr} (he : AE X Γ P W e te ge) (hg : AG X Γ P vs tge tg a) (hs : swapsWithSole [tge] e pos.line X.env = pure false := by rfl) (hw : swappedStores [tge] e X.env = pure none := by rfl)
    (h1 : (assignEach [tge] X.env).map (·.2) = [assign tge X.env] := by rfl) : AS X Γ P W (.Assign [tge] e pos) (tAsg te tg) (sAsg ge a) := ⟨ps_asg he.pe hg.pg hs hw h1, ss_asg he.sx hg.sg⟩
theorem as_par (i j : Nat) {x y : Str} {a b : Expr} {px py pt : Pos} {kt k2 pt2} (hN : X.N.Nodup) (ha : AE X Γ P W a ta ge) (hb : AE X Γ P W b tb gf) (hi : X.N[i]? = some x := by rfl) (hj : X.N[j]? = some y := by rfl) (hij : i ≠ j := by decide)
    (hx : X.env.scope.names.lookup x = some .local := by rfl) (hy : X.env.scope.names.lookup y = some .local := by rfl) (hpi : P i = false := by rfl) (hpj : P j = false := by rfl)
    (hw : swappedStores [.Tuple [.Name x px, .Name y py] kt pt] (.Tuple [a, b] k2 pt2) X.env = pure (some [x, y]) := by rfl)
    (hs : swapsWithSole [.Tuple [.Name x px, .Name y py] kt pt] (.Tuple [a, b] k2 pt2) pos.line X.env = pure false := by rfl) (hc : X.calm = true := by rfl)
    (hs1 : starEach (a :: [b]) X.env = (false, eval a X.env) :: starEach [b] X.env := by rfl) (hs2 : starEach (b :: []) X.env = (false, eval b X.env) :: starEach [] X.env := by rfl) :
    AS X Γ P W (.Assign [.Tuple [.Name x px, .Name y py] kt pt] (.Tuple [a, b] k2 pt2) pos) (tPar i j (tCons ta (tCons tb tNil))) (sPar i j ge gf) :=
  ⟨ps_par hc hN hi hj hij hx hy (pa_cons ha.pe (pa_cons hb.pe pa_nil hs2) hs1) hw hs, ss_par hpi hpj ha.sx hb.sx⟩
theorem as_aug (i : Nat) {x : Str} {op : Operator} {ti : TIp} {r : O → O → Option O} {pos' : Pos} (hN : X.N.Nodup) (ok : Op2 Γ ti r) (ho : PIp X op ti) (he : AE X Γ P W e te ge) (hi : X.N[i]? = some x := by rfl) (hx : Loc X.env.scope x := by first | exact .inl rfl | exact .inr rfl) (hp : P i = false := by rfl)
    (hf : X.fn x = true ∨ X.env.scope.names.lookup x = some .local := by first | exact .inl rfl | exact .inr rfl) :
    AS X Γ P W (.AugAssign (.Name x pos') op e pos) (tAug i te ti) (sAug i ge r) := ⟨ps_aug hN hi hx he.pe ho hf, ss_aug hp he.sx ok⟩
theorem as_for {iter : Expr} {wi : TI} {src : aI} {tge : Expr} (hp : PassesOwn (model X.prog X.w) X.A X.env X.xe) (hi : AI X Γ P W tge iter wi src) (hg : AG X Γ P vs tge tg a) (hb : AL X Γ P W sa t g) (hc : X.calm = true := by rfl)
    (hs : ∀ x, foldedSetIterable iter X.env x = pure x := by intro _; rfl) : AS X Γ P W (.For tge iter sa [] pos) (tFor wi tg t) (sFor src a g) := ⟨ps_for hp hc hi.pi hg.pg hb.pss hs, ss_for hi.sx hg.sg hb.sx⟩
theorem as_while {c : Expr} (hp : PassesOwn (model X.prog X.w) X.A X.env X.xe) (hc : AT X Γ P W c tt p) (hb : AL X Γ P W sa t g) : AS X Γ P W (.While c sa [] pos) (tWhile tt t) (sWhile p g) := ⟨ps_while hp hc.pt hb.pss, ss_while hc.sx hb.sx⟩
/-! ints, augmented -/
def gAddI : O → O → Option O
  | .sh (.int i), .sh (.int j) => some (.sh (.int (i + j)))
  | _, _ => none
def gSubI : O → O → Option O
  | .sh (.int i), .sh (.int j) => some (.sh (.int (i - j)))
  | _, _ => none
theorem ok_addI : Op2 Γ (ipI fun i j => i + j) gAddI := by
  intro c R H x ox y oy w Q h m1 m2 e k
  unfold gAddI at e
  split at e
  · cases e
    exact ⟨_, _, h.int m1, h.int m2, k _ _ (h.pure fun _ => .int _)⟩
  · cases e
theorem ok_subI : Op2 Γ (ipI fun i j => i - j) gSubI := by
  intro c R H x ox y oy w Q h m1 m2 e k
  unfold gSubI at e
  split at e
  · cases e
    exact ⟨_, _, h.int m1, h.int m2, k _ _ (h.pure fun _ => .int _)⟩
  · cases e
end
/-! ### comprehensions in a text -/
structure APt (X : Cx) (Γ : Gb) (P : Nat → Bool) (W : WX) (ifs : List Expr) (tt : TT) (g : aT) : Prop where
  pts : PTs X ifs tt
  sx : Sxt Γ P W tt g
section
variable {X : Cx} {Γ : Gb} {P : Nat → Bool} {W : WX}
theorem apt_nil : APt X Γ P W [] tYes aYes := ⟨pts_nil, sxt_yes⟩
theorem apt_one {c : Expr} {tt : TT} {p : aT} (h : AT X Γ P W c tt p) : APt X Γ P W [c] tt p := ⟨pts_one h.pt, h.sx⟩
section
variable {elt tg iter : Expr} {ifs : List Expr} {scope : Scope} {pos spos : Pos} {wi : TI} {g : TG} {tt : TT} {te : TE} {src : aI} {a : aG} {p : aT} {ge : aE}
theorem ae_lc (own : List (Str × Nat)) (hN : X.N.Nodup) (hi : AI X Γ P W tg iter wi src) (hg : ∀ (s : Shared) (H : Hp) (C : Addr) (cl : List (Str × Addr)) (fp : List Addr), AG (X.blk s H scope (compEnvC scope cl C X.env) fp) Γ (offP P (own.map (·.2))) (own.map (·.2)) tg g a)
    (ht : ∀ (s : Shared) (H : Hp) (C : Addr) (cl : List (Str × Addr)) (fp : List Addr), APt (X.blk s H scope (compEnvC scope cl C X.env) fp) Γ (offP P (own.map (·.2))) W0 ifs tt p)
    (he : ∀ (s : Shared) (H : Hp) (C : Addr) (cl : List (Str × Addr)) (fp : List Addr), AE (X.blk s H scope (compEnvC scope cl C X.env) fp) Γ (offP P (own.map (·.2))) W0 elt te ge) (ok : blkC X.N X.env.scope scope own = true := by first | rfl | kernel_rfl) (hc : X.calm = true := by rfl)
    (hs : ∀ x, foldedSetIterable iter X.env x = pure x := by intro _; rfl) : AE X Γ P W (.ListComp elt [⟨tg, iter, ifs, 0⟩] scope pos) (tLc wi g tt te (own.map (·.2))) (aLc src (own.map (·.2)) a p ge) :=
  ⟨pe_lc hc hN hi.pi (blkOk_by ok) (fun s H C cl fp => (hg s H C cl fp).pg) (fun s H C cl fp => (ht s H C cl fp).pts) (fun s H C cl fp => (he s H C cl fp).pe) hs,
    sx_lc hi.sx (hg X.s_0 X.H_0 0 [] []).sg (ht X.s_0 X.H_0 0 [] []).sx (he X.s_0 X.H_0 0 [] []).sx⟩
theorem as_setLc (i : Nat) {y : Str} {py : Pos} (own : List (Str × Nat)) (hN : X.N.Nodup) (hi : AI X Γ P W tg iter wi src) (hg : ∀ (s : Shared) (H : Hp) (C : Addr) (cl : List (Str × Addr)) (fp : List Addr), AG (X.blk s H scope (compEnvC scope cl C X.env) fp) Γ (offP P (own.map (·.2))) (own.map (·.2)) tg g a)
    (ht : ∀ (s : Shared) (H : Hp) (C : Addr) (cl : List (Str × Addr)) (fp : List Addr), APt (X.blk s H scope (compEnvC scope cl C X.env) fp) Γ (offP P (own.map (·.2))) W0 ifs tt p)
    (he : ∀ (s : Shared) (H : Hp) (C : Addr) (cl : List (Str × Addr)) (fp : List Addr), AE (X.blk s H scope (compEnvC scope cl C X.env) fp) Γ (offP P (own.map (·.2))) W0 elt te ge) (ok : blkC X.N X.env.scope scope own = true := by first | rfl | kernel_rfl) (hc : X.calm = true := by rfl)
    (hy : X.N[i]? = some y := by rfl) (hyl : X.env.scope.names.lookup y = some .local := by rfl) (hk : X.env.scope.kind = .function := by rfl) (hl : (py.line == pos.line) = true := by rfl) (hl2 : (py.line == spos.line) = true := by rfl)
    (ha : (scope.names.any fun (n, k) => n == y && (k == .local || k == .cell)) = false := by decide +kernel) (hpi : P i = false := by rfl) (hs : ∀ x, foldedSetIterable iter X.env x = pure x := by intro _; rfl)
    (hsw : swapsWith (.ListComp elt [⟨tg, iter, ifs, 0⟩] scope pos) (some (.Name y py)) spos.line X.env = pure true := by exact sw_true rfl rfl rfl (by decide +kernel)) :
    AS X Γ P W (.Assign [.Name y py] (.ListComp elt [⟨tg, iter, ifs, 0⟩] scope pos) spos) (tAsg (tLc wi g tt te (own.map (·.2))) (gName i)) (sSet i (aLc src (own.map (·.2)) a p ge)) :=
  ⟨ps_setLc hc hN hy hyl hsw hi.pi (blkOk_by ok) (fun s H C cl fp => (hg s H C cl fp).pg) (fun s H C cl fp => (ht s H C cl fp).pts) (fun s H C cl fp => (he s H C cl fp).pe) hs,
    ss_set hpi (sx_lc hi.sx (hg X.s_0 X.H_0 0 [] []).sg (ht X.s_0 X.H_0 0 [] []).sx (he X.s_0 X.H_0 0 [] []).sx)⟩
variable {tg1 iter1 : Expr} {ifs1 : List Expr} {wi1 : TI} {g1 : TG} {tt1 : TT} {src1 : aI} {a1 : aG} {p1 : aT}
theorem ae_lc2 (own : List (Str × Nat)) (vs1 : List Nat) (hN : X.N.Nodup) (hi : AI X Γ P W tg iter wi src) (hg : ∀ (s : Shared) (H : Hp) (C : Addr) (cl : List (Str × Addr)) (fp : List Addr), AG (X.blk s H scope (compEnvC scope cl C X.env) fp) Γ (offP P (own.map (·.2))) (own.map (·.2)) tg g a)
    (ht : ∀ (s : Shared) (H : Hp) (C : Addr) (cl : List (Str × Addr)) (fp : List Addr), APt (X.blk s H scope (compEnvC scope cl C X.env) fp) Γ (offP P (own.map (·.2))) W0 ifs tt p)
    (hi1 : ∀ (s : Shared) (H : Hp) (C : Addr) (cl : List (Str × Addr)) (fp : List Addr), AI (X.blk s H scope (compEnvC scope cl C X.env) fp) Γ (offP P (own.map (·.2))) W0 tg1 iter1 wi1 src1)
    (hg1 : ∀ (s : Shared) (H : Hp) (C : Addr) (cl : List (Str × Addr)) (fp : List Addr), AG (X.blk s H scope (compEnvC scope cl C X.env) fp) Γ (offP P (own.map (·.2))) vs1 tg1 g1 a1)
    (ht1 : ∀ (s : Shared) (H : Hp) (C : Addr) (cl : List (Str × Addr)) (fp : List Addr), APt (X.blk s H scope (compEnvC scope cl C X.env) fp) Γ (offP P (own.map (·.2))) W0 ifs1 tt1 p1)
    (he : ∀ (s : Shared) (H : Hp) (C : Addr) (cl : List (Str × Addr)) (fp : List Addr), AE (X.blk s H scope (compEnvC scope cl C X.env) fp) Γ (offP P (own.map (·.2))) W0 elt te ge) (hv : ∀ i ∈ vs1, i ∈ own.map (·.2) := by decide) (ok : blkC X.N X.env.scope scope own = true := by first | rfl | kernel_rfl) (hc : X.calm = true := by rfl)
    (hs : ∀ x, foldedSetIterable iter X.env x = pure x := by intro _; rfl) (hs1 : ∀ env x, foldedSetIterable iter1 env x = pure x := by intro _ _; rfl) :
    AE X Γ P W (.ListComp elt [⟨tg, iter, ifs, 0⟩, ⟨tg1, iter1, ifs1, 0⟩] scope pos) (tLc2 wi g tt wi1 g1 tt1 te (own.map (·.2)) vs1) (aLc2 src (own.map (·.2)) vs1 a p src1 a1 p1 ge) :=
  ⟨pe_lc2 hc hN hi.pi (blkOk_by ok) hv (fun s H C cl fp => (hg s H C cl fp).pg) (fun s H C cl fp => (ht s H C cl fp).pts) (fun s H C cl fp => (hi1 s H C cl fp).pi) (fun s H C cl fp => (hg1 s H C cl fp).pg) (fun s H C cl fp => (ht1 s H C cl fp).pts) (fun s H C cl fp => (he s H C cl fp).pe) hs hs1,
    sx_lc2 hv hi.sx (hg X.s_0 X.H_0 0 [] []).sg (ht X.s_0 X.H_0 0 [] []).sx (hi1 X.s_0 X.H_0 0 [] []).sx (hg1 X.s_0 X.H_0 0 [] []).sg (ht1 X.s_0 X.H_0 0 [] []).sx (he X.s_0 X.H_0 0 [] []).sx⟩
theorem as_setLc2 (i : Nat) {y : Str} {py : Pos} (own : List (Str × Nat)) (vs1 : List Nat) (hN : X.N.Nodup) (hi : AI X Γ P W tg iter wi src) (hg : ∀ (s : Shared) (H : Hp) (C : Addr) (cl : List (Str × Addr)) (fp : List Addr), AG (X.blk s H scope (compEnvC scope cl C X.env) fp) Γ (offP P (own.map (·.2))) (own.map (·.2)) tg g a)
    (ht : ∀ (s : Shared) (H : Hp) (C : Addr) (cl : List (Str × Addr)) (fp : List Addr), APt (X.blk s H scope (compEnvC scope cl C X.env) fp) Γ (offP P (own.map (·.2))) W0 ifs tt p)
    (hi1 : ∀ (s : Shared) (H : Hp) (C : Addr) (cl : List (Str × Addr)) (fp : List Addr), AI (X.blk s H scope (compEnvC scope cl C X.env) fp) Γ (offP P (own.map (·.2))) W0 tg1 iter1 wi1 src1)
    (hg1 : ∀ (s : Shared) (H : Hp) (C : Addr) (cl : List (Str × Addr)) (fp : List Addr), AG (X.blk s H scope (compEnvC scope cl C X.env) fp) Γ (offP P (own.map (·.2))) vs1 tg1 g1 a1)
    (ht1 : ∀ (s : Shared) (H : Hp) (C : Addr) (cl : List (Str × Addr)) (fp : List Addr), APt (X.blk s H scope (compEnvC scope cl C X.env) fp) Γ (offP P (own.map (·.2))) W0 ifs1 tt1 p1)
    (he : ∀ (s : Shared) (H : Hp) (C : Addr) (cl : List (Str × Addr)) (fp : List Addr), AE (X.blk s H scope (compEnvC scope cl C X.env) fp) Γ (offP P (own.map (·.2))) W0 elt te ge) (hv : ∀ i ∈ vs1, i ∈ own.map (·.2) := by decide) (ok : blkC X.N X.env.scope scope own = true := by first | rfl | kernel_rfl) (hc : X.calm = true := by rfl)
    (hy : X.N[i]? = some y := by rfl) (hyl : X.env.scope.names.lookup y = some .local := by rfl) (hpi : P i = false := by rfl)
    (hs : ∀ x, foldedSetIterable iter X.env x = pure x := by intro _; rfl) (hs1 : ∀ env x, foldedSetIterable iter1 env x = pure x := by intro _ _; rfl)
    (hsw : swapsWith (.ListComp elt [⟨tg, iter, ifs, 0⟩, ⟨tg1, iter1, ifs1, 0⟩] scope pos) (some (.Name y py)) spos.line X.env = pure true := by exact sw_true rfl rfl rfl (by decide +kernel)) :
    AS X Γ P W (.Assign [.Name y py] (.ListComp elt [⟨tg, iter, ifs, 0⟩, ⟨tg1, iter1, ifs1, 0⟩] scope pos) spos) (tAsg (tLc2 wi g tt wi1 g1 tt1 te (own.map (·.2)) vs1) (gName i)) (sSet i (aLc2 src (own.map (·.2)) vs1 a p src1 a1 p1 ge)) :=
  ⟨ps_setLc2 hc hN hy hyl hsw hi.pi (blkOk_by ok) hv (fun s H C cl fp => (hg s H C cl fp).pg) (fun s H C cl fp => (ht s H C cl fp).pts) (fun s H C cl fp => (hi1 s H C cl fp).pi) (fun s H C cl fp => (hg1 s H C cl fp).pg) (fun s H C cl fp => (ht1 s H C cl fp).pts) (fun s H C cl fp => (he s H C cl fp).pe) hs hs1,
    ss_set hpi (sx_lc2 hv hi.sx (hg X.s_0 X.H_0 0 [] []).sg (ht X.s_0 X.H_0 0 [] []).sx (hi1 X.s_0 X.H_0 0 [] []).sx (hg1 X.s_0 X.H_0 0 [] []).sg (ht1 X.s_0 X.H_0 0 [] []).sx (he X.s_0 X.H_0 0 [] []).sx)⟩
end
end
/-! ### calls in a text -/
def toV : D → V
  | .bl b => .bl b
  | .int i => .int i
  | .str x => .str x
  | _ => .non
/-- a def that may be called by its name -/
structure Cl (Γ : Gb) (mg : Str → Option Value) (base : Heap) (k : Nat) (x : Str) (n : Nat) (dds : List D) (den : aF) : Prop where
  ex : ∃ (f : Addr) (fd : FuncData) (ps : List Str) (ds : List Value), FnOk Γ.prog Γ.w Γ.K mg base (L2.CX Γ.prog Γ.w) k f fd ps (spD Γ n den) ∧ mg x = some (.ref f) ∧ PySem.W.keepIn Γ.K (.ref f) = true ∧ Binds Γ.K fd ps ds ∧ Vals (dds.map toV) ds ∧ ∀ S, RepL Γ S (dds.map toV) dds
section
variable {X : Cx} {Γ : Gb} {P : Nat → Bool} {W : WX} {e : Expr} {es : List Expr} {ta : TA} {ods : List Od} {k n : Nat} {x : Str} {dds : List D} {den : aF} {p pos : Pos}
theorem ae_call (hp : X.prog = Γ.prog) (hw : X.w = Γ.w) (hK : X.K = Γ.K) (C : Cl Γ X.mg X.base k x n dds den) (hr : Room k X.A) (tk : Takes X W) (ha : AA X Γ P W (e :: es) ta ods) (hg : Gl X x := by rfl) (hdb : (x == ("__debug__" : Str)) = false := by decide)
    (he : starEach (e :: es) X.env = (false, eval e X.env) :: starEach es X.env := by rfl) (hpl : (backTo pos (starEach es X.env)).any (·.1) = false := by rfl) :
    AE X Γ P W (.Call (.Name x p) (e :: es) [] pos) (tCallSD (spD Γ n den) (dds.map toV) (WE W) ta) (aCall n ods dds den) := by
  obtain ⟨f, fd, ps, ds, F, hm, hk, hb, hd, hdd⟩ := C.ex
  rw [← hp, ← hw, ← hK] at F
  exact ⟨pe_callSD F hr hg hm (hK ▸ hk) (hK ▸ hb) hd (fun σ => passAt tk σ) ha.pa hdb he hpl, sx_call ha.sa hdd⟩
end
/-! ### the rule for a def -/
/-- a parameter that is set anew is shared from the entry on -/
def pre : List Bool → List O → List O
  | b :: pb, o :: os => (if b = true then o else .sh (fz o)) :: pre pb os
  | _, _ => []
def keepT : List Bool → List V → List O → List (V × O)
  | b :: pb, v :: vs, o :: os => if b = true then keepT pb vs os else (v, .sh (fz o)) :: keepT pb vs os
  | _, _, _ => []
def outs : List Bool → List O → Store → Option (List O)
  | true :: pb, _ :: os, some o :: ρ => (outs pb os ρ).map (o :: ·)
  | false :: pb, o :: os, _ :: ρ => (outs pb os ρ).map (.sh (fz o) :: ·)
  | [], [], _ => some []
  | _, _, _ => none
def aDef (pb : List Bool) (m : Nat) (body : aS) : aF := fun os => if os.length = pb.length then match body ((pre pb os).map some ++ List.replicate (m - pb.length) none) with
    | .ret o ρ => match outs pb os ρ with
      | some os' => .ret o os'
      | none => .stuck
    | .nx ρ => match outs pb os ρ with
      | some os' => .ret (.sh .non) os'
      | none => .stuck
    | .exc x ρ => match outs pb os ρ with
      | some os' => .exc x os'
      | none => .stuck
    | _ => .stuck
  else .stuck
def kp (pb : List Bool) : Nat → Bool := fun j => pb.getD j false
section
variable {Γ : Gb}
theorem enter_ok {e : Ent} {H : Hp} : ∀ {pb : List Bool} {vs : List V} {os : List O} {R : List (V × O)}, vs.length = pb.length → os.length = pb.length → RS Γ e (vs.zip os ++ R) H → RS Γ e (vs.zip (pre pb os) ++ (keepT pb vs os ++ R)) H
  | [], [], [], R, _, _, h => h
  | b :: pb, v :: vs, o :: os, R, h1, h2, h => by
    have ih := fun R => enter_ok (R := R) (e := e) (H := H) (pb := pb) (vs := vs) (os := os) (by simpa using h1) (by simpa using h2)
    cases b with
    | true =>
      have h' : RS Γ e (vs.zip os ++ ((v, o) :: R)) H := h.perm List.perm_middle.symm
      refine (ih _ h').perm ?_
      show (vs.zip (pre pb os) ++ (keepT pb vs os ++ (v, o) :: R)).Perm ((v, o) :: (vs.zip (pre pb os) ++ (keepT pb vs os ++ R)))
      exact (List.Perm.append_left _ List.perm_middle).trans List.perm_middle
    | false =>
      have h1 : RS Γ e ((v, o) :: (vs.zip os ++ R)) H := h
      have h2 := h1.freeze
      have h3 := h2.dup List.mem_cons_self
      have h' : RS Γ e (vs.zip os ++ ((v, .sh (fz o)) :: (v, .sh (fz o)) :: R)) H := h3.perm ((List.perm_middle.symm.cons _).trans List.perm_middle.symm)
      refine (ih _ h').perm ?_
      show (vs.zip (pre pb os) ++ (keepT pb vs os ++ (v, .sh (fz o)) :: (v, .sh (fz o)) :: R)).Perm ((v, .sh (fz o)) :: (vs.zip (pre pb os) ++ (((v, .sh (fz o)) :: keepT pb vs os) ++ R)))
      exact (List.Perm.append_left _ (List.perm_middle.trans (List.perm_middle.cons _))).trans List.perm_middle
theorem pre_len : ∀ {pb : List Bool} {os : List O}, os.length = pb.length → (pre pb os).length = pb.length
  | [], [], _ => rfl
  | b :: pb, o :: os, h => by
    show (pre pb os).length + 1 = pb.length + 1
    rw [pre_len (by simpa using h)]
theorem outs_len : ∀ {pb : List Bool} {os : List O} {ρ : Store} {os' : List O}, outs pb os ρ = some os' → os'.length = pb.length
  | true :: pb, _ :: os, some o :: ρ, os', e => by
    simp only [outs, Option.map_eq_some_iff] at e
    obtain ⟨q, e, rfl⟩ := e
    simp [outs_len e]
  | false :: pb, o :: os, _ :: ρ, os', e => by
    simp only [outs, Option.map_eq_some_iff] at e
    obtain ⟨q, e, rfl⟩ := e
    simp [outs_len e]
  | [], [], _, os', e => by cases e; rfl
  | [], _ :: _, _, _, e => by cases e
  | true :: _, [], _, _, e => by cases e
  | false :: _, [], _, _, e => by cases e
  | true :: _, _ :: _, [], _, e => by cases e
  | false :: _, _ :: _, [], _, e => by cases e
  | true :: _, _ :: _, none :: _, _, e => by cases e
theorem leave_ok : ∀ {pb : List Bool} {vs : List V} {os os' : List O} {σ : L2.St} {ρ : Store}, SlotsOk σ ρ → vs.length = pb.length → (∀ j : Nat, pb[j]? = some true → σ[j]? = (vs[j]?).map some) → outs pb os ρ = some os' →
    ∃ Y, (slotsR σ ρ ++ keepT pb vs os).Perm (Y ++ vs.zip os')
  | [], [], os, os', σ, ρ, _, _, _, e => ⟨slotsR σ ρ ++ keepT [] [] os, by
      cases os with
      | nil => cases e; simp
      | cons _ _ => cases e⟩
  | true :: pb, v :: vs, _ :: os, os', _, some o :: ρ, .keep (v := w) h, hl, hs, e => by
    simp only [outs, Option.map_eq_some_iff] at e
    obtain ⟨q, e, rfl⟩ := e
    have e0 := hs 0 rfl
    obtain rfl : w = v := by simpa using e0
    obtain ⟨Y, p⟩ := leave_ok (pb := pb) (vs := vs) h (by simpa using hl) (fun j hj => by simpa using hs (j + 1) (by simpa using hj)) e
    refine ⟨Y, ?_⟩
    show ((w, o) :: (_ ++ keepT pb vs os)).Perm (Y ++ (w, o) :: vs.zip q)
    exact (p.cons _).trans List.perm_middle.symm
  | false :: pb, v :: vs, o :: os, os', _, x :: ρ, hk, hl, hs, e => by
    simp only [outs, Option.map_eq_some_iff] at e
    obtain ⟨q, e, rfl⟩ := e
    cases hk with
    | @skip y σ _ h =>
      obtain ⟨Y, p⟩ := leave_ok (pb := pb) (vs := vs) h (by simpa using hl) (fun j hj => by simpa using hs (j + 1) (by simpa using hj)) e
      refine ⟨Y, ?_⟩
      rw [slotsR_skip]
      show (_ ++ ((v, .sh (fz o)) :: keepT pb vs os)).Perm (Y ++ (v, .sh (fz o)) :: vs.zip q)
      exact (List.perm_middle.trans (p.cons _)).trans List.perm_middle.symm
    | @keep w u σ _ h =>
      obtain ⟨Y, p⟩ := leave_ok (pb := pb) (vs := vs) h (by simpa using hl) (fun j hj => by simpa using hs (j + 1) (by simpa using hj)) e
      refine ⟨(w, u) :: Y, ?_⟩
      show ((w, u) :: (_ ++ ((v, .sh (fz o)) :: keepT pb vs os))).Perm ((w, u) :: (Y ++ (v, .sh (fz o)) :: vs.zip q))
      exact ((List.perm_middle.trans (p.cons _)).trans List.perm_middle.symm).cons _
  | true :: pb, v :: vs, [], _, _, _, _, _, _, e => by cases e
  | false :: pb, v :: vs, [], _, _, _, _, _, _, e => by cases e
  | [], _ :: _, _, _, _, _, _, hl, _, _ => by simp at hl
  | _ :: _, [], _, _, _, _, _, hl, _, _ => by simp at hl
  | true :: _, _ :: _, _ :: _, _, _, [], _, _, _, e => by cases e
  | false :: _, _ :: _, _ :: _, _, _, [], _, _, _, e => by cases e
  | true :: _, _ :: _, _ :: _, _, _, none :: _, _, _, _, e => by cases e
theorem start_slots : ∀ {vs : List V} {os : List O} {m : Nat}, vs.length = os.length → SlotsOk (vs.map some ++ List.replicate m none) (os.map some ++ List.replicate m none) ∧ slotsR (vs.map some ++ List.replicate m none) (os.map some ++ List.replicate m none) = vs.zip os
  | [], [], 0, _ => ⟨.nil, rfl⟩
  | [], [], m + 1, _ => by
    obtain ⟨a, b⟩ := start_slots (vs := []) (os := []) (m := m) rfl
    refine ⟨.skip a, ?_⟩
    exact b
  | v :: vs, o :: os, m, h => by
    obtain ⟨a, b⟩ := start_slots (vs := vs) (os := os) (m := m) (by simpa using h)
    refine ⟨.keep a, ?_⟩
    exact congrArg ((v, o) :: ·) b
variable {mg : Str → Option Value} {base : Heap}
theorem fn_def {x qual : Str} {st : Stmt} {f : Addr} {fd : FuncData} {N ps : List Str} {k : Nat} {pb : List Bool} {m : Nat} {body : aS} (F : Fun Γ.K x qual st f fd) (S : FnScope N ps (defScope st)) (hl : ps.length = pb.length) (hm : N.length = m)
    (hb : ∀ (cdv : Value) (A : Around) (outer : List Env) (s : Shared) (H : Hp) (E : XK), Room k (A.deeper (envOfC qual (defScope st) s.heap.objs.size f cdv)) →
      Takes (cxOf (L2.CX Γ.prog Γ.w) Γ.prog Γ.w Γ.K mg base N qual (defScope st) f cdv A outer s H E) (fun cls d _ H => E cls d H) →
      PassesOwn (model Γ.prog Γ.w) (cxOf (L2.CX Γ.prog Γ.w) Γ.prog Γ.w Γ.K mg base N qual (defScope st) f cdv A outer s H E).A (cxOf (L2.CX Γ.prog Γ.w) Γ.prog Γ.w Γ.K mg base N qual (defScope st) f cdv A outer s H E).env (cxOf (L2.CX Γ.prog Γ.w) Γ.prog Γ.w Γ.K mg base N qual (defScope st) f cdv A outer s H E).xe →
      ∃ t, AL (cxOf (L2.CX Γ.prog Γ.w) Γ.prog Γ.w Γ.K mg base N qual (defScope st) f cdv A outer s H E) Γ (kp pb) (fun cls d _ H => E cls d H) (defBody st) t body) :
    FnOk Γ.prog Γ.w Γ.K mg base (L2.CX Γ.prog Γ.w) (k + 1) f fd ps (spD Γ pb.length (aDef pb m body)) := by
  refine F.okX S (fun vs H Q E h => by rw [h.1, hl]) fun cdv A outer s H vs Q E hr h => ?_
  obtain ⟨t, at_⟩ := hb cdv A outer s H E hr (takes_of rfl rfl rfl rfl) (passes_of rfl)
  refine ⟨t, at_.pss, ?_⟩
  obtain ⟨hv, e, os, ho, r, k1⟩ := h
  have ent := enter_ok (R := []) hv ho (by rw [List.append_nil]; exact r)
  rw [List.append_nil] at ent
  obtain ⟨sl, sr⟩ := start_slots (vs := vs) (os := pre pb os) (m := m - pb.length) (by rw [pre_len ho, hv])
  have st0 : L2.start N vs = vs.map some ++ List.replicate (m - pb.length) none := by
    unfold L2.start
    rw [hm, hv]
  have s0 : SR Γ (kp pb) ⟨e, L2.start N vs⟩ (L2.start N vs) ((pre pb os).map some ++ List.replicate (m - pb.length) none) (keepT pb vs os) H := by
    rw [st0]
    exact ⟨sl, fun j _ => rfl, by rw [sr]; exact ent⟩
  have back : ∀ (X : List (V × O)) (σ : L2.St) (ρ : Store) (H' : Hp) (os' : List O), SR Γ (kp pb) ⟨e, L2.start N vs⟩ σ ρ (X ++ keepT pb vs os) H' → outs pb os ρ = some os' → RS Γ e (X ++ vs.zip os') H' := by
    intro X σ ρ H' os' q eo
    obtain ⟨Y, p⟩ := leave_ok q.ok hv (fun j hj => by
      have hj' : kp pb j = true := by
        show pb.getD j false = true
        rw [List.getD_eq_getElem?_getD, hj]
        rfl
      rw [q.fix j hj']
      show (L2.start N vs)[j]? = _
      rw [st0]
      have hlt : j < vs.length := by
        rw [hv]
        exact (List.getElem?_eq_some_iff.mp hj).1
      rw [List.getElem?_append_left (by rw [List.length_map]; exact hlt), List.getElem?_map]) eo
    have q1 : RS Γ e (Y ++ (X ++ vs.zip os')) H' := q.rs.perm (by
      refine (List.perm_append_comm_assoc _ _ _).trans ?_
      refine (List.Perm.append_left _ p).trans ?_
      exact List.perm_append_comm_assoc _ _ _)
    exact q1.dropL
  refine at_.sx ⟨e, L2.start N vs⟩ (L2.start N vs) _ (keepT pb vs os) H _ s0 ?_
  unfold aDef at k1
  rw [if_pos ho] at k1
  cases eb : body ((pre pb os).map some ++ List.replicate (m - pb.length) none) with
  | nx ρ =>
    rw [eb] at k1
    simp only at k1
    cases eo : outs pb os ρ with
    | none => rw [eo] at k1; exact k1.elim
    | some os' =>
      rw [eo] at k1
      exact fun σ H' q => k1.2 _ _ ((back [] σ ρ H' os' q eo).pure fun _ => .non)
  | brk ρ => rw [eb] at k1; exact k1.elim
  | ct ρ => rw [eb] at k1; exact k1.elim
  | ret o ρ =>
    rw [eb] at k1
    simp only at k1
    cases eo : outs pb os ρ with
    | none => rw [eo] at k1; exact k1.elim
    | some os' =>
      rw [eo] at k1
      exact fun σ v H' q => k1.2 _ _ (back [(v, o)] σ ρ H' os' q eo)
  | exc x ρ =>
    rw [eb] at k1
    simp only at k1
    cases eo : outs pb os ρ with
    | none => rw [eo] at k1; exact k1.elim
    | some os' =>
      rw [eo] at k1
      refine fun σ cls d H' q => k1.2 cls d H' ?_
      obtain ⟨ec, q⟩ := q
      refine ⟨ec, ?_⟩
      obtain ⟨xc, xfs⟩ := x
      cases xfs with
      | none => exact ⟨q.1, back [] σ ρ H' os' q.2 eo⟩
      | some fs =>
        obtain ⟨dd, e1, q⟩ := q
        exact ⟨dd, e1, back [(.ref dd, .sh (.xd fs))] σ ρ H' os' q eo⟩
  | stuck => rw [eb] at k1; exact k1.elim
end
end Den
end
section
/-! Den, part O: methods that change a thing in its place; o[i] = v; dicts written. -/
namespace Den
open PySem L2 PySem.Spec PyProof.Rows
/-! ### in an opened object, a shared thing in the place of some -/
def repl (y : V) (d : D) (sel : List Bool) (rs : List (V × O)) : List (V × O) := List.zipWith (fun (b : Bool) (r : V × O) => if b = true then (y, O.sh d) else r) sel rs
section
variable {Γ : Gb} {c : Ent} {R : List (V × O)} {H S : Hp} {y : V} {d : D}
theorem ORL.repl (hy : Rep Γ S y d) : ∀ {sel : List Bool} {rs : List (V × O)} {F : List Addr}, ORL Γ S H rs F → ∃ F', ORL Γ S H (Den.repl y d sel rs) F' ∧ F'.Sublist F
  | [], rs, F, h => ⟨[], by simp only [Den.repl, List.zipWith_nil_left]; exact .nil, List.nil_sublist _⟩
  | b :: sel, [], F, h => ⟨[], by simp only [Den.repl, List.zipWith_nil_right]; exact .nil, List.nil_sublist _⟩
  | b :: sel, (v, o) :: rs, F, h => by
    cases h with
    | cons r t =>
      rename_i F1 F2
      obtain ⟨F', a, s⟩ := ORL.repl hy (sel := sel) t
      cases b with
      | true => exact ⟨F', .cons (F := []) (.sh hy) a, s.trans (List.sublist_append_right _ _)⟩
      | false => exact ⟨F1 ++ F', .cons r a, List.Sublist.append (List.Sublist.refl _) s⟩
theorem RSL.repl {a : Addr} {rs : List (V × O)} {sel : List Bool} (h : RSL Γ c (rs ++ R) [a] H) (m : (y, O.sh d) ∈ R) : RSL Γ c (Den.repl y d sel rs ++ R) [a] H := by
  obtain ⟨S, F, st, q, nd, dj, sb, lc⟩ := h
  obtain ⟨F1, F2, rfl, r1, r2⟩ := q.split
  obtain ⟨G, x, _⟩ := r2.mem m
  have hy : Rep Γ S y d := by
    cases x with
    | sh r => exact r
  obtain ⟨F', a', s⟩ := r1.repl hy (sel := sel)
  have sl : ((F' ++ F2) ++ [a]).Sublist ((F1 ++ F2) ++ [a]) := (s.append (List.Sublist.refl _)).append (List.Sublist.refl _)
  exact ⟨S, F' ++ F2, st.mem fun b mb => sl.subset mb, a'.append r2, nd.sublist sl, fun b mb => dj b (sl.subset mb), sb, lc⟩
theorem repl_set {rs : List (V × O)} {n : Nat} (h : n < rs.length) : ∃ sel, Den.repl y d sel rs = rs.set n (y, .sh d) := by
  refine ⟨(List.replicate rs.length false).set n true, ?_⟩
  apply List.ext_getElem?
  intro j
  unfold Den.repl
  rw [List.getElem?_zipWith, List.getElem?_set, List.getElem?_set]
  by_cases hj : n = j
  · subst hj
    simp [h]
  · simp only [hj, if_false]
    rw [List.getElem?_replicate]
    by_cases hl : j < rs.length
    · simp [hl]
    · simp [hl]
end
/-! ### dicts as tables -/
def putD (kvs : List (D × O)) (k : Key) (o : O) : List (D × O) := if (kvs.any fun p => keyEq p.1 k) = true then kvs.map (fun p => if keyEq p.1 k = true then (p.1, o) else p) else kvs ++ [(kD k, o)]
section
variable {Γ : Gb} {c : Ent} {R : List (V × O)} {H S : Hp} {y : V} {d : D}
theorem any_keys {k : Key} : ∀ {dkvs : List (D × O)} {kvs : List (Key × V)}, dkvs.map Prod.fst = kvs.map (fun p => kD p.1) → (dkvs.any fun p => keyEq p.1 k) = (kvs.any fun kv => decide (kv.1 = k))
  | [], [], _ => rfl
  | [], _ :: _, e => by cases e
  | _ :: _, [], e => by cases e
  | (d1, o1) :: dkvs, (k1, v1) :: kvs, e => by
    simp only [List.map_cons, List.cons.injEq] at e
    obtain ⟨rfl, e⟩ := e
    rw [List.any_cons, List.any_cons, any_keys e, keyEq_kD]
theorem map_keys {k : Key} : ∀ {dkvs : List (D × O)} {kvs : List (Key × V)} {rs : List (V × O)}, dkvs.map Prod.fst = kvs.map (fun p => kD p.1) → kvs.map Prod.snd = rs.map Prod.fst → dkvs.map Prod.snd = rs.map Prod.snd →
    ∃ sel, (dkvs.map fun p => if keyEq p.1 k = true then (p.1, O.sh d) else p).map Prod.fst = (kvs.map fun kv => if kv.1 = k then (kv.1, y) else kv).map (fun p => kD p.1) ∧
      (kvs.map fun kv => if kv.1 = k then (kv.1, y) else kv).map Prod.snd = (Den.repl y d sel rs).map Prod.fst ∧ (dkvs.map fun p => if keyEq p.1 k = true then (p.1, O.sh d) else p).map Prod.snd = (Den.repl y d sel rs).map Prod.snd
  | [], [], [], _, _, _ => ⟨[], rfl, rfl, rfl⟩
  | [], _ :: _, _, e, _, _ => by cases e
  | _ :: _, [], _, e, _, _ => by cases e
  | [], [], _ :: _, _, e, _ => by cases e
  | _ :: _, _ :: _, [], _, e, _ => by cases e
  | (d1, o1) :: dkvs, (k1, v1) :: kvs, (v2, o2) :: rs, e1, e2, e3 => by
    simp only [List.map_cons, List.cons.injEq] at e1 e2 e3
    obtain ⟨rfl, e1⟩ := e1
    obtain ⟨rfl, e2⟩ := e2
    obtain ⟨rfl, e3⟩ := e3
    obtain ⟨sel, a, b, c⟩ := map_keys (k := k) e1 e2 e3
    refine ⟨decide (k1 = k) :: sel, ?_, ?_, ?_⟩
    · simp only [List.map_cons, keyEq_kD]
      by_cases hk : k1 = k
      · simp [hk]
        simpa using a
      · simp [hk]
        simpa using a
    · simp only [List.map_cons, Den.repl, List.zipWith_cons_cons]
      by_cases hk : k1 = k
      · simp [hk]
        simpa [Den.repl] using b
      · simp [hk]
        simpa [Den.repl] using b
    · simp only [List.map_cons, Den.repl, List.zipWith_cons_cons, keyEq_kD]
      by_cases hk : k1 = k
      · simp [hk]
        simpa [Den.repl] using c
      · simp [hk]
        simpa [Den.repl] using c
theorem RS.putD {x : V} {kvs : List (D × O)} {k : Key} (h : RS Γ c ((x, .dic kvs) :: R) H) (m : (y, O.sh d) ∈ R) : ∃ a ks, x = .ref a ∧ H a = some (.dK ks) ∧ ks.length = kvs.length ∧ RS Γ c ((x, .dic (putD kvs k (.sh d))) :: R) (upd H a (.dK (putK ks k y))) := by
  obtain ⟨a, rs, ks, rfl, ha, e1, e2, e3, op⟩ := h.openD
  refine ⟨a, ks, rfl, ha, by have := congrArg List.length e1; simpa using this.symm, ?_⟩
  have ea := any_keys (k := k) e1
  unfold Den.putD putK
  cases hb : (ks.any fun kv => decide (kv.1 = k)) with
  | true =>
    rw [ea, hb, if_pos rfl, if_pos rfl]
    obtain ⟨sel, p1, p2, p3⟩ := map_keys (y := y) (d := d) (k := k) e1 e2 e3
    exact ((op.repl (sel := sel) m).put (u := .dK _) noT_dK).closeD upd_same p1 p2 p3
  | false =>
    rw [ea, hb, if_neg (by simp), if_neg (by simp)]
    have h2 : RS Γ c ((y, .sh d) :: ((.ref a, .dic kvs) :: R)) H := h.dup (by simp [m])
    obtain ⟨a', rs', ks', ee, ha', e1', e2', e3', op'⟩ := (h2.perm (List.Perm.swap _ _ _)).openD
    cases ee
    rw [ha] at ha'
    cases ha'
    have op3 : RSL Γ c ((rs' ++ [(y, .sh d)]) ++ R) [a] H := op'.perm (by rw [List.append_assoc]; exact .refl _)
    refine (op3.put (u := .dK (ks ++ [(k, y)])) noT_dK).closeD upd_same ?_ ?_ ?_
    · rw [List.map_append, List.map_append, e1']; rfl
    · rw [List.map_append, List.map_append, e2']; rfl
    · rw [List.map_append, List.map_append, e3']; rfl
end
/-! ### methods upon a name's own thing -/
def MOk (Γ : Gb) (r : V → List V → Hp → VK → Prop) (f : O → List O → Option (O × O)) : Prop := ∀ c R H x ox (ps : List (V × O)) o' w Q, RS Γ c ((x, ox) :: R) H → (∀ p ∈ ps, p ∈ R) → f ox (ps.map Prod.snd) = some (o', w) →
  (∀ v H', RS Γ c ((v, w) :: (x, o') :: R) H' → Q v H') → r x (ps.map Prod.fst) H Q
def kindO : O → String
  | .lst _ => "list"
  | .sh (.lst _) => "list"
  | .sh (.wls _) => "list"
  | .dic _ => "dict"
  | .sh (.dic _) => "dict"
  | .sh (.str _) => "str"
  | .sh (.int _) => "int"
  | _ => ""
def aMeth (T : String) (i : Nat) (ods : List Od) (f : O → List O → Option (O × O)) : aE := fun ρ => match ρ[i]? with
  | some (some o0) => if kindO o0 = T then (evA ods ρ).bind fun rs ρ1 => match ρ1[i]? with
      | some (some ox) => match rsv (ρ1.set i none) rs with
        | some os => match f ox os with
          | some (o', w) => .ok w (ρ1.set i (some o'))
          | none => .stuck
        | none => .stuck
      | _ => .stuck
    else .stuck
  | _ => .stuck
section
variable {Γ : Gb} {P : Nat → Bool} {W : WX} {ta : TA} {ods : List Od} {i : Nat} {T : String} {r : V → List V → Hp → VK → Prop} {f : O → List O → Option (O × O)}
theorem kind_ok {c : Ent} {R : List (V × O)} {H : Hp} {x : V} {ox : O} (h : RS Γ c R H) (m : (x, ox) ∈ R) (e : kindO ox = T) (hT : T ≠ "") : tyV Γ.K T x H := by
  obtain ⟨S, sb, rd, _⟩ := h.readS
  obtain ⟨F, q⟩ := rd _ m
  have up : ∀ a o, S a = some o → H a = some o := fun a o e => (sb a o e).1
  cases q with
  | sh q =>
    cases q with
    | lst hs hl => exact .inl ⟨e.symm, _, .of (up _ _ hs)⟩
    | wls hs hl => exact .inl ⟨e.symm, _, sqL_mono up hs⟩
    | dic hs e1 hl => exact .inr (.inr (.inl ⟨e.symm, .inl ⟨_, up _ _ hs⟩⟩))
    | str z => exact e.symm
    | int z => exact e.symm
    | non => exact (hT e.symm).elim
    | bl _ => exact (hT e.symm).elim
    | tup _ _ => exact (hT e.symm).elim
    | obj _ _ _ => exact (hT e.symm).elim
    | xd _ _ _ => exact (hT e.symm).elim
  | lst ha hl e' => exact .inl ⟨e.symm, _, .of ha⟩
  | dic ha e1 e2 e3 hl => exact .inr (.inr (.inl ⟨e.symm, .inl ⟨_, ha⟩⟩))
  | tup ha hl e' => exact (hT e.symm).elim
  | obj ha e1 e2 e3 hl => exact (hT e.symm).elim
theorem sx_meth (hT : T ≠ "") (ha : Sa Γ P W ta ods) (ok : MOk Γ r f) : Sx Γ P W (tBM Γ.K T r (tVar i) ta) (aMeth T i ods f) := fun fr σ ρ Tt H Q s k => by
  unfold aMeth at k
  split at k
  · rename_i o0 e0
    split at k
    · rename_i hk
      obtain ⟨v, hv, _⟩ := s.take e0
      refine ⟨v, hv, kind_ok s.rs (List.mem_append_left _ (slots_mem s.ok e0 hv)) hk hT, ?_⟩
      refine ha fr σ ρ Tt H _ s ((Good.bind k).imp fun rs ρ1 k vs T' H1 m s1 => ?_)
      split at k
      · rename_i ox ex
        obtain ⟨v', hv', s2⟩ := s1.take ex
        rw [hv] at hv'
        cases hv'
        split at k
        · rename_i os eo
          split at k
          · rename_i o' w ef
            obtain ⟨ps, rfl, rfl, mem⟩ := rsv_ok m s2.drop eo
            refine ok fr.c _ H1 v ox ps o' w Q (s2.rs.perm List.perm_middle) mem ef fun u H2 q => k u H2 ?_
            have s3 : SR Γ P fr σ (ρ1.set i none) ((u, w) :: (v, o') :: (T' ++ Tt)) H2 := ⟨s2.ok, s2.fix, q.perm (by
              refine (List.perm_middle.symm.cons _).trans List.perm_middle.symm)⟩
            have s4 := (s3.permT (List.Perm.swap _ _ _)).back hv
            rw [List.set_set] at s4
            exact (s4.permT (T' := T' ++ (u, w) :: Tt) List.perm_middle.symm).dropL
          · exact k.elim
        · exact k.elim
      · exact k.elim
    · exact k.elim
  · exact k.elim
theorem sx_meth0 (hT : T ≠ "") (ok : MOk Γ r f) : Sx Γ P W (tBM0 Γ.K T r (tVar i)) (aMeth T i [] f) := fun fr σ ρ Tt H Q s k => by
  have := sx_meth (i := i) (P := P) (W := W) hT sa_nil ok fr σ ρ Tt H Q s k
  exact this
end
/-! the methods -/
def fAppend : O → List O → Option (O × O)
  | .lst os, [.sh d] => if os.length < 16000000 then some (.lst (os ++ [.sh d]), .sh .non) else none
  | _, _ => none
def fPop : O → List O → Option (O × O)
  | .lst os, [] => match os[os.length - 1]? with
    | some o => some (.lst os.dropLast, o)
    | none => none
  | _, _ => none
def fPopAt : O → List O → Option (O × O)
  | .lst os, [.sh (.int i)] => if -(2 ^ 63) ≤ i ∧ i < 2 ^ 63 then match seqIndex? i os.length with
      | some k => match os[k]? with
        | some o => some (.lst (os.eraseIdx k), o)
        | none => none
      | none => none
    else none
  | _, _ => none
def fExtend : O → List O → Option (O × O)
  | .lst os, [o] => match lstD o with
    | some ds => if os.length + ds.length ≤ 16000000 then some (.lst (os ++ ds.map O.sh), .sh .non) else none
    | none => none
  | _, _ => none
section
variable {Γ : Gb} {c : Ent} {R : List (V × O)} {H : Hp} {x : V}
theorem RS.openL' {os : List O} (h : RS Γ c ((x, .lst os) :: R) H) : ∃ a rs, x = .ref a ∧ os = rs.map Prod.snd ∧ H a = some (.lst (rs.map Prod.fst)) ∧ ∀ rs' R', (rs ++ R).Perm (rs' ++ R') → RS Γ c ((x, .lst (rs'.map Prod.snd)) :: R') (upd H a (.lst (rs'.map Prod.fst))) := by
  obtain ⟨a, rs, rfl, e, ha, op⟩ := h.openL
  exact ⟨a, rs, rfl, e, ha, fun rs' R' p => ((op.perm p).put noT_lst).closeL upd_same⟩
theorem m_append : MOk Γ rAppend fAppend := by
  intro c R H x ox ps o' w Q h mem e k
  unfold fAppend at e
  split at e
  · rename_i os d eps
    split at e
    · cases e
      rename_i hl
      match ps, eps with
      | [(y, o)], eps =>
        obtain rfl : o = .sh d := by simpa using eps
        have m : (y, O.sh d) ∈ R := mem _ (by simp)
        have h2 : RS Γ c ((x, .lst os) :: (y, .sh d) :: R) H := (h.dup (List.mem_cons_of_mem _ m)).perm (List.Perm.swap _ _ _)
        obtain ⟨a, rs, rfl, rfl, ha, q⟩ := h2.openL'
        refine ⟨a, _, y, rfl, rfl, ha, lt_line (by simpa using hl), k _ _ ?_⟩
        have z := q (rs ++ [(y, .sh d)]) R (by rw [List.append_assoc]; exact .refl _)
        rw [List.map_append, List.map_append] at z
        exact z.pure fun _ => .non
    · cases e
  · cases e
theorem map_dropLast' {α β : Type} (f : α → β) (l : List α) : (l.dropLast).map f = (l.map f).dropLast := by
  rw [List.map_dropLast]
theorem m_pop : MOk Γ rPop fPop := by
  intro c R H x ox ps o' w Q h mem e k
  unfold fPop at e
  split at e
  · rename_i os eps
    split at e
    · cases e
      rename_i ho
      obtain rfl : ps = [] := by simpa using eps
      obtain ⟨a, rs, rfl, rfl, ha, q⟩ := h.openL'
      rw [List.length_map, List.getElem?_map, Option.map_eq_some_iff] at ho
      obtain ⟨⟨y, u⟩, hp, hu⟩ := ho
      obtain rfl : u = w := hu
      refine ⟨a, _, y, rfl, rfl, ha, by rw [List.length_map, List.getElem?_map, hp]; rfl, k _ _ ?_⟩
      have hne : rs ≠ [] := fun z => by rw [z] at hp; simp at hp
      have hlast : rs.getLast hne = (y, u) := by
        rw [List.getLast_eq_getElem]
        have := List.getElem?_eq_some_iff.mp hp
        exact this.2
      have sp : rs.dropLast ++ [(y, u)] = rs := by
        rw [← hlast]
        exact List.dropLast_concat_getLast hne
      have z := q rs.dropLast ((y, u) :: R) (by
        conv => lhs; rw [← sp]
        rw [List.append_assoc]
        exact .refl _)
      rw [map_dropLast', map_dropLast'] at z
      exact z.perm (List.Perm.swap _ _ _)
    · cases e
  · cases e
theorem perm_erase {α : Type} : ∀ {l : List α} {k : Nat} {x : α}, l[k]? = some x → l.Perm (x :: l.eraseIdx k)
  | [], k, x, h => by simp at h
  | y :: l, 0, x, h => by simp at h; subst h; exact .refl _
  | y :: l, k + 1, x, h => by
    have ih := perm_erase (l := l) (k := k) (x := x) (by simpa using h)
    exact (ih.cons y).trans (List.Perm.swap _ _ _)
theorem map_erase {α β : Type} (f : α → β) : ∀ (l : List α) (n : Nat), (l.eraseIdx n).map f = (l.map f).eraseIdx n
  | [], _ => by simp
  | _ :: _, 0 => rfl
  | a :: l, n + 1 => by
    rw [List.eraseIdx_cons_succ, List.map_cons, List.map_cons, List.eraseIdx_cons_succ, map_erase f l n]
theorem m_popAt : MOk Γ rPopAt fPopAt := by
  intro c R H x ox ps o' w Q h mem e k
  unfold fPopAt at e
  split at e
  · rename_i os i eps
    split at e
    · rename_i hi
      split at e
      · rename_i n hn
        split at e
        · cases e
          rename_i ho
          match ps, eps with
          | [(y, u)], eps =>
            obtain rfl : u = .sh (.int i) := by simpa using eps
            have ey : y = .int i := h.int (List.mem_cons_of_mem _ (mem _ (by simp)))
            subst ey
            obtain ⟨a, rs, rfl, rfl, ha, q⟩ := h.openL'
            rw [List.getElem?_map, Option.map_eq_some_iff] at ho
            obtain ⟨⟨v, u⟩, hp, hu⟩ := ho
            obtain rfl : u = w := hu
            refine ⟨a, _, i, n, v, rfl, rfl, ha, hi.1, hi.2, by rw [List.length_map] at hn ⊢; exact hn, by rw [List.getElem?_map, hp]; rfl, k _ _ ?_⟩
            have z := q (rs.eraseIdx n) ((v, u) :: R) (((perm_erase hp).append_right R).trans List.perm_middle.symm)
            rw [map_erase, map_erase] at z
            exact z.perm (List.Perm.swap _ _ _)
        · cases e
      · cases e
    · cases e
  · cases e
theorem m_extend : MOk Γ rExtend fExtend := by
  intro c R H x ox ps o' w Q h mem e k
  unfold fExtend at e
  split at e
  · rename_i os o eps
    split at e
    · rename_i ds ed
      split at e
      · cases e
        rename_i hl
        match ps, eps with
        | [(y, u)], eps =>
          obtain rfl : u = o := by simpa using eps
          obtain ⟨b, zs, rfl, hb, had⟩ := h.lst (List.mem_cons_of_mem _ (mem (y, u) (by simp))) ed
          obtain ⟨S, sb, r, _, ad⟩ := had.ex
          have h2 : RS Γ c ((x, .lst os) :: (zs.zip (ds.map O.sh) ++ R)) H := (ad zs ds r).perm List.perm_middle
          obtain ⟨a, rs, rfl, rfl, ha, q⟩ := h2.openL'
          refine ⟨a, b, _, zs, rfl, rfl, ha, hb, le_line (by rw [List.length_map] at hl ⊢; rw [had.len]; exact hl), k _ _ ?_⟩
          have z := q (rs ++ zs.zip (ds.map O.sh)) R (by rw [List.append_assoc])
          rw [List.map_append, List.map_append, zip_fst had.len, zip_snd had.len] at z
          exact z.pure fun _ => .non
      · cases e
    · cases e
  · cases e
end
section
variable {X : Cx} {Γ : Gb} {P : Nat → Bool} {W : WX} {e : Expr} {es : List Expr} {ta : TA} {ods : List Od} {T id : String} {name x : Str} {r : V → List V → Hp → VK → Prop} {f : O → List O → Option (O × O)} {pn apos cpos : Pos}
theorem ae_meth (i : Nat) (hK : X.K = Γ.K) (ok : MOk Γ r f) (hm : MtR X id r) (pa : PlainAttrs T) (slot : Slot T name id) (hty : typeOf (.builtin id) = pure (.type "method_descriptor")) (ha : AA X Γ P W (e :: es) ta ods) (hT : T ≠ "" := by decide)
    (hN : X.N[i]? = some x := by rfl) (hv : Vis X.env.scope x := by first | exact Or.inl rfl | exact Or.inr (Or.inl rfl) | exact Or.inr (Or.inr rfl)) (hd : (x == ("__debug__" : Str)) = false := by decide)
    (hcd : (x == ("__classdict__" : Str)) = false := by decide) (hbase : attributeBase (.Name x pn) name X.env (eval (.Name x pn) X.env) = eval (.Name x pn) X.env := by rfl)
    (hfew : ((backTo cpos (starEach (e :: es) X.env)).all (fun x => !x.1) && (backToKw cpos (keywordEach [] X.env)).all (fun x => x.1.isSome)
      && decide ((e :: es).length + ([] : List Keyword).length + (if ([] : List Keyword).isEmpty then 0 else 1) < 30)) = true := by rfl)
    (hline : (apos.endLine == cpos.line) = true := by rfl) (hs : starEach (e :: es) X.env = (false, eval e X.env) :: starEach es X.env := by rfl) (hplain : (backTo cpos (starEach es X.env)).any (·.1) = false := by rfl) :
    AE X Γ P W (.Call (.Attribute (.Name x pn) name apos) (e :: es) [] cpos) (tBM Γ.K T r (tVar i) ta) (aMeth T i ods f) :=
  ⟨hK ▸ pe_bm pa slot hty hm (pe_var hN hv hd hcd) ha.pa hbase hfew hline hs hplain, sx_meth hT ha.sa ok⟩
theorem ae_meth0 (i : Nat) (hK : X.K = Γ.K) (ok : MOk Γ r f) (hm : MtR X id r) (pa : PlainAttrs T) (slot : Slot T name id) (hty : typeOf (.builtin id) = pure (.type "method_descriptor")) (hT : T ≠ "" := by decide)
    (hN : X.N[i]? = some x := by rfl) (hv : Vis X.env.scope x := by first | exact Or.inl rfl | exact Or.inr (Or.inl rfl) | exact Or.inr (Or.inr rfl)) (hd : (x == ("__debug__" : Str)) = false := by decide)
    (hcd : (x == ("__classdict__" : Str)) = false := by decide) (hbase : attributeBase (.Name x pn) name X.env (eval (.Name x pn) X.env) = eval (.Name x pn) X.env := by rfl)
    (hline : (apos.endLine == cpos.line) = true := by rfl) : AE X Γ P W (.Call (.Attribute (.Name x pn) name apos) [] [] cpos) (tBM0 Γ.K T r (tVar i)) (aMeth T i [] f) :=
  ⟨hK ▸ pe_bm0 pa slot hty hm (pe_var hN hv hd hcd) hbase hline, sx_meth0 hT ok⟩
end
end Den
end
section
/-! Den, part P: o[i] = v, dict displays, isinstance. -/
namespace Den
open PySem L2 PySem.Spec PyProof.Rows
def setO (x y : O) (d : D) : Option O := match x, y with
  | .lst os, .sh (.int j) => match ixN os.length j with
    | some n => if n < os.length then some (.lst (os.set n (.sh d))) else none
    | none => none
  | .dic kvs, .sh k => match keyD k with
    | some k => if kvs.length < 16000000 then some (.dic (putD kvs k (.sh d))) else none
    | none => none
  | _, _ => none
def rSetG : TSet := fun o i v H Q => rSetL o i v H Q ∨ rSetD o i v H Q
theorem or_set {X : Cx} (hu : X.A.units + 1 < cLine) : PSet X rSetG := fun pins s σ H o i v ov iv u Q I r1 r2 r3 h => h.elim (fun q => set_list pins s σ H o i v ov iv u Q I r1 r2 r3 q) fun q => set_dict hu pins s σ H o i v ov iv u Q I r1 r2 r3 q
def sSub (i : Nat) (g gi : aE) : aS := fun ρ => (g ρ).out fun o ρ1 => match ρ1[i]? with
  | some (some _) => (gi ρ1).out fun k ρ2 => match ρ2[i]? with
    | some (some x) => match setO x k (fz o) with
      | some o' => .nx (ρ2.set i (some o'))
      | none => .stuck
    | _ => .stuck
  | _ => .stuck
section
variable {Γ : Gb} {P : Nat → Bool} {W : WX}
theorem ok_set {c : Ent} {R : List (V × O)} {H : Hp} {x z y : V} {ox oz o' : O} {d : D} {Q : Hp → Prop} (h : RS Γ c ((x, ox) :: R) H) (mz : (z, oz) ∈ R) (my : (y, O.sh d) ∈ R) (e : setO ox oz d = some o') (k : ∀ H', RS Γ c ((x, o') :: R) H' → Q H') : rSetG x z y H Q := by
  unfold setO at e
  split at e
  · rename_i os j
    split at e
    · rename_i n hn
      split at e
      · cases e
        rename_i hlt
        have ez : z = .int j := h.int (List.mem_cons_of_mem _ mz)
        subst ez
        have h2 : RS Γ c ((x, .lst os) :: (y, .sh d) :: R) H := (h.dup (List.mem_cons_of_mem _ my)).perm (List.Perm.swap _ _ _)
        obtain ⟨a, rs, rfl, rfl, ha, op⟩ := h2.openL
        rw [List.length_map] at hn hlt
        obtain ⟨sel, es⟩ := repl_set (y := y) (d := d) hlt
        refine .inl ⟨a, _, j, n, rfl, rfl, ha, by rw [List.length_map]; exact hn, k _ ?_⟩
        have q := ((op.repl (sel := sel) (y := y) (d := d) (by simp)).put (u := .lst ((rs.map Prod.fst).set n y)) noT_lst)
        rw [es] at q
        have z := q.closeL (by rw [upd_same, List.map_set])
        rw [List.map_set] at z
        exact (z.perm (List.Perm.swap _ _ _)).drop
      · cases e
    · cases e
  · rename_i kvs k'
    split at e
    · rename_i key hk
      split at e
      · cases e
        rename_i hl
        have ez : z = kV key := by
          obtain ⟨S, sb, r⟩ := h.sh (List.mem_cons_of_mem _ mz)
          rw [keyD_kD hk] at r
          exact rep_key r
        obtain ⟨a, ks, rfl, ha, el, q⟩ := h.putD (k := key) my
        refine .inr ⟨a, _, rfl, ?_, k _ q⟩
        rw [ez]
        exact DPut.k ha (lt_line (by omega))
      · cases e
    · cases e
  · cases e
theorem ss_sub {i : Nat} {te ti : TE} {g gi : aE} (h1 : Sx Γ P W te g) (h2 : Sx Γ P W ti gi) : Ss Γ P W (tAsg te (L2.gSub (tVar i) ti rSetG)) (sSub i g gi) := fun f σ ρ T H D s k => by
  refine h1 f σ ρ T H _ s ((GoodS.bind k).imp fun o ρ1 k v H1 s1 => ?_)
  split at k
  · rename_i o0 e0
    obtain ⟨x, hx, _⟩ := s1.take e0
    refine ⟨x, hx, ?_⟩
    have k2 := (GoodS.bind (σ := σ) k).more (T' := [(v, Den.O.sh (Den.fz o))])
    refine h2 f σ ρ1 _ H1 _ s1.fz (k2.imp fun ky ρ2 k w H2 s2 => ?_)
    split at k
    · rename_i ox e2
      split at k
      · rename_i o' es
        obtain ⟨x', hx', s3⟩ := s2.take e2
        rw [hx] at hx'
        cases hx'
        have r0 : RS Γ f.c ((x, ox) :: (slotsR σ (ρ2.set i none) ++ ((w, ky) :: [(v, Den.O.sh (Den.fz o))] ++ T))) H2 := s3.rs.perm List.perm_middle
        refine ok_set r0 (z := w) (oz := ky) (y := v) (d := Den.fz o) (by simp) (by simp) es fun H3 q => k σ H3 ?_
        have s4 : SR Γ P f σ (ρ2.set i none) ((x, o') :: ((w, ky) :: [(v, Den.O.sh (Den.fz o))] ++ T)) H3 := ⟨s3.ok, s3.fix, q.perm List.perm_middle.symm⟩
        have s5 := s4.back hx
        rw [List.set_set] at s5
        exact s5.drop.drop
      · exact k.elim
    · exact k.elim
  · exact k.elim
end
section
variable {X : Cx} {Γ : Gb} {P : Nat → Bool} {W : WX} {e idx : Expr} {te ti : TE} {g gi : aE} {x : Str} {pn spos pos : Pos} {kk : Nat}
theorem as_sub (i : Nat) (hr : Room kk X.A) (he : AE X Γ P W e te g) (hx : AE X Γ P W idx ti gi) (hN : X.N[i]? = some x := by rfl) (hv : Vis X.env.scope x := by first | exact Or.inl rfl | exact Or.inr (Or.inl rfl) | exact Or.inr (Or.inr rfl)) (hd : (x == ("__debug__" : Str)) = false := by decide)
    (hcd : (x == ("__classdict__" : Str)) = false := by decide)
    (ha : ∀ v, assign (.Subscript (.Name x pn) idx spos) X.env v = (do
      let ov ← holding [v] (eval (.Name x pn) X.env)
      let iv ← holding [v, ov] (eval idx X.env)
      standAt spos
      holding [v, ov, iv] (setItem ov iv v)
      release [v, ov, iv] []) := by intro _; rfl)
    (hs : swapsWithSole [.Subscript (.Name x pn) idx spos] e pos.line X.env = pure false := by rfl) (hw : swappedStores [.Subscript (.Name x pn) idx spos] e X.env = pure none := by rfl)
    (h1 : (assignEach [.Subscript (.Name x pn) idx spos] X.env).map (·.2) = [assign (.Subscript (.Name x pn) idx spos) X.env] := by rfl) :
    AS X Γ P W (.Assign [.Subscript (.Name x pn) idx spos] e pos) (tAsg te (L2.gSub (tVar i) ti rSetG)) (sSub i g gi) :=
  ⟨ps_asg he.pe (pg_sub (pe_var hN hv hd hcd) hx.pe (or_set (hu_of hr)) ha) hs hw h1, ss_sub he.sx hx.sx⟩
end
/-! ### dict displays -/
def prD : List O → Option (List (Key × D))
  | [] => some []
  | .sh k :: .sh d :: r => match keyD k with
    | some k => (prD r).map ((k, d) :: ·)
    | none => none
  | _ => none
def aDisp (ods : List Od) : aE := fun ρ => (evA ods ρ).bind fun rs ρ' => match rsv ρ' rs with
  | some os => match prD os with
    | some kds => if (kds.map Prod.fst).Nodup ∧ kds.length ≤ 15 then .ok (.dic (kds.map fun p => (kD p.1, .sh p.2))) ρ' else .stuck
    | none => .stuck
  | none => .stuck
def flatP : List (V × V) → List V
  | [] => []
  | (x, y) :: r => x :: y :: flatP r
def Sp2 (Γ : Gb) (P : Nat → Bool) (W : WX) (trs : List (TE × TE)) (ods : List Od) : Prop := ∀ f σ ρ T H R, SR Γ P f σ ρ T H →
  Good Γ P W f σ T (fun rs ρ' => ∀ ps T' H', Mt σ T' (flatP ps) rs → SR Γ P f σ ρ' (T' ++ T) H' → R ps H') (evA ods ρ) → tPairs trs σ H R
section
variable {Γ : Gb} {P : Nat → Bool} {W : WX} {tk tv : TE} {gk gv : aE} {trs : List (TE × TE)} {ods : List Od}
theorem sp_nil : Sp2 Γ P W [] [] := fun f σ ρ T H R s k => k [] [] H .nil s
theorem sp_cons (h1 : Sx Γ P W tk gk) (h2 : Sx Γ P W tv gv) (h3 : Sp2 Γ P W trs ods) : Sp2 Γ P W ((tk, tv) :: trs) (.ex gk :: .ex gv :: ods) := fun f σ ρ T H R s k => by
  have k1 : Good Γ P W f σ T _ (gk ρ) := Good.bind k
  refine h1 f σ ρ T H _ s (k1.imp fun o ρ1 k2 v H1 s1 => ?_)
  have k2' := Good.bind (Good.bind k2)
  refine h2 f σ ρ1 ((v, o) :: T) H1 _ s1 ((k2'.more (T' := [(v, o)])).imp fun u ρ2 k3 w H2 s2 => ?_)
  have k3' := (Good.bind k3).more (T' := [(w, u), (v, o)])
  refine h3 f σ ρ2 _ H2 _ s2 (k3'.imp fun rs ρ3 k4 ps T' H3 m s3 => ?_)
  refine k4 ((v, w) :: ps) ((T' ++ [(w, u)]) ++ [(v, o)]) H3 (.ex (.ex m)) ?_
  rw [List.append_assoc, List.append_assoc]
  exact s3
theorem merge_new : ∀ {more acc : List (Key × V)}, (∀ p ∈ more, valV acc p.1 = none) → (more.map Prod.fst).Nodup → mergeK acc more = acc ++ more
  | [], acc, _, _ => by simp [mergeK]
  | (k, v) :: more, acc, h, nd => by
    have h0 := h (k, v) (by simp)
    show mergeK (putK acc k v) more = _
    rw [putK_new v h0]
    rw [List.map_cons, List.nodup_cons] at nd
    rw [merge_new (fun p hp => ?_) nd.2, List.append_assoc]
    · rfl
    · rw [valV_snoc k p.1 v acc h0, if_neg (fun e => nd.1 (by have := List.mem_map_of_mem (f := Prod.fst) hp; rw [e] at this; exact this))]
      exact h p (List.mem_cons_of_mem _ hp)
theorem prD_ok {S : Hp} : ∀ {os : List O} {kds : List (Key × D)}, prD os = some kds → ∀ {ps : List (V × O)} {vps : List (V × V)}, ps.map Prod.snd = os → ps.map Prod.fst = flatP vps → (∀ p ∈ ps, ∀ d, p.2 = .sh d → Rep Γ S p.1 d) →
    ∃ kvs : List (Key × V), vps = kvs.map (fun kv => (kV kv.1, kv.2)) ∧ kvs.map Prod.fst = kds.map Prod.fst ∧ RepL Γ S (kvs.map Prod.snd) (kds.map Prod.snd)
  | [], kds, e, ps, vps, e1, e2, _ => by
    cases e
    obtain rfl : ps = [] := by simpa using e1
    cases vps with
    | nil => exact ⟨[], rfl, rfl, .nil⟩
    | cons p r => obtain ⟨x, y⟩ := p; cases e2
  | .sh k :: .sh d :: r, kds, e, ps, vps, e1, e2, rp => by
    simp only [prD] at e
    split at e
    · rename_i key hk
      simp only [Option.map_eq_some_iff] at e
      obtain ⟨kds', e, rfl⟩ := e
      match ps, e1 with
      | (v1, o1) :: (v2, o2) :: ps, e1 =>
        simp only [List.map_cons, List.cons.injEq] at e1
        obtain ⟨rfl, rfl, e1⟩ := e1
        cases vps with
        | nil => cases e2
        | cons p vps =>
          obtain ⟨x, y⟩ := p
          simp only [List.map_cons, flatP, List.cons.injEq] at e2
          obtain ⟨rfl, rfl, e2⟩ := e2
          obtain ⟨kvs, a, b, c⟩ := prD_ok e e1 e2 (fun p hp => rp p (by simp [hp]))
          have r1 := rp (v1, .sh k) (by simp) k rfl
          rw [keyD_kD hk] at r1
          obtain rfl := rep_key r1
          exact ⟨(key, v2) :: kvs, by simp [a], by simp [b], .cons (rp (v2, .sh d) (by simp) d rfl) c⟩
    · cases e
  | .sh _ :: [], _, e, _, _, _, _, _ => by simp [prD] at e
  | .sh _ :: .lst _ :: _, _, e, _, _, _, _, _ => by simp [prD] at e
  | .sh _ :: .tup _ :: _, _, e, _, _, _, _, _ => by simp [prD] at e
  | .sh _ :: .dic _ :: _, _, e, _, _, _, _, _ => by simp [prD] at e
  | .sh _ :: .obj _ _ :: _, _, e, _, _, _, _, _ => by simp [prD] at e
  | .lst _ :: _, _, e, _, _, _, _, _ => by simp [prD] at e
  | .tup _ :: _, _, e, _, _, _, _, _ => by simp [prD] at e
  | .dic _ :: _, _, e, _, _, _, _, _ => by simp [prD] at e
  | .obj _ _ :: _, _, e, _, _, _, _, _ => by simp [prD] at e
theorem sx_disp (h : Sp2 Γ P W trs ods) : Sx Γ P W (tDisp trs) (aDisp ods) := fun f σ ρ T H Q s k p hp => by
  have s0 : SR Γ P f σ ρ ((.ref p, .dic []) :: T) (upd H p (.dK [])) := s.mapT fun R q => RS.newD (rs := []) (kvs := []) (dkvs := []) q hp rfl rfl rfl
  refine h f σ ρ _ _ _ s0 (((Good.bind k).more (T' := [(.ref p, .dic [])])).imp fun rs ρ' k ps T' H' m s1 => ?_)
  split at k
  · rename_i os eo
    split at k
    · rename_i kds ek
      split at k
      · rename_i hk
        obtain ⟨qs, q1, q2, mem⟩ := rsv_ok m s1 eo
        obtain ⟨S, sb, rd, ad, ads⟩ := s1.rs.readS
        obtain ⟨kvs, ev, ef, er⟩ := prD_ok (Γ := Γ) (S := S) ek q2 q1 (fun x hx d ed => by
          obtain ⟨x1, x2⟩ := x
          obtain ⟨F, z⟩ := rd _ (mem _ hx)
          obtain rfl : x2 = .sh d := ed
          cases z with
          | sh r => exact r)
        have e0 : H' p = some (.dK []) := by
          obtain ⟨F, z⟩ := rd (.ref p, .dic []) (by simp)
          cases z with
          | @dic a ks dk rs F ha e1 e2 e3 hl =>
            obtain rfl : ks = [] := by simpa using e1.symm
            exact ha
        refine ⟨e0, kvs, ev, ?_, k _ _ ?_⟩
        · have := congrArg List.length ef
          simp only [List.length_map] at this
          omega
        · have nd : (kvs.map Prod.fst).Nodup := by rw [ef]; exact hk.1
          rw [merge_new (fun x _ => rfl) nd, List.nil_append]
          have z := (ads _ _ er).perm (R' := (.ref p, .dic []) :: ((kvs.map Prod.snd).zip ((kds.map Prod.snd).map O.sh) ++ (slotsR σ ρ' ++ (T' ++ T)))) (by
            refine (List.Perm.append_left _ ((List.Perm.append_left _ List.perm_middle).trans List.perm_middle)).trans List.perm_middle)
          obtain ⟨a, rs', ks', ee, ha, e1, e2, e3, op⟩ := z.openD
          cases ee
          have ers : rs' = [] := by
            have := congrArg List.length e3
            simpa using this.symm
          subst ers
          have hlen : (kvs.map Prod.snd).length = (kds.map Prod.snd).length := er.len
          have q := (op.put (u := .dK kvs) noT_dK).closeD (rs := (kvs.map Prod.snd).zip ((kds.map Prod.snd).map O.sh)) (R := slotsR σ ρ' ++ (T' ++ T)) (kvs := kvs) (dkvs := kds.map fun p => (kD p.1, O.sh p.2)) upd_same
            (by
              rw [List.map_map]
              have := congrArg (List.map kD) ef
              rw [List.map_map, List.map_map] at this
              exact this.symm)
            (zip_fst hlen).symm (by rw [zip_snd hlen, List.map_map, List.map_map]; rfl)
          have s2 : SR Γ P f σ ρ' ((.ref p, .dic (kds.map fun p => (kD p.1, O.sh p.2))) :: (T' ++ T)) _ := ⟨s1.ok, s1.fix, q.perm List.perm_middle.symm⟩
          exact (s2.permT (T' := T' ++ (.ref p, .dic (kds.map fun p => (kD p.1, O.sh p.2))) :: T) List.perm_middle.symm).dropL
      · exact k.elim
    · exact k.elim
  · exact k.elim
end
structure APP (X : Cx) (Γ : Gb) (P : Nat → Bool) (W : WX) (pos : Pos) (keys : List (Option Expr)) (values : List Expr) (trs : List (TE × TE)) (ods : List Od) : Prop where
  pps : PPs X pos keys values trs
  sp : Sp2 Γ P W trs ods
section
variable {X : Cx} {Γ : Gb} {P : Nat → Bool} {W : WX} {k v : Expr} {ks : List (Option Expr)} {vs : List Expr} {tk tv : TE} {gk gv : aE} {trs : List (TE × TE)} {ods : List Od} {pos : Pos}
theorem app_nil : APP X Γ P W pos [] [] [] [] := ⟨pps_nil, sp_nil⟩
theorem app_cons (h1 : AE X Γ P W k tk gk) (h2 : AE X Γ P W v tv gv) (h3 : APP X Γ P W pos ks vs trs ods) : APP X Γ P W pos (some k :: ks) (v :: vs) ((tk, tv) :: trs) (.ex (aFz gk) :: .ex (aFz gv) :: ods) :=
  ⟨pps_cons h1.pe h2.pe h3.pps, sp_cons (sx_fz h1.sx) (sx_fz h2.sx) h3.sp⟩
theorem ae_disp (h : APP X Γ P W pos ks vs trs ods) (hall : ks.all (·.isSome) = true := by rfl) (hl : ks.length = vs.length := by rfl) (h0 : ks ≠ [] := by exact List.cons_ne_nil _ _) (h15 : ks.length ≤ 15 := by exact Nat.le_of_ble_eq_true rfl) : AE X Γ P W (.Dict ks vs pos) (tDisp trs) (aDisp ods) :=
  ⟨pe_disp h.pps hall hl h0 h15, sx_disp h.sp⟩
def aNewD : aE := fun ρ => .ok (.dic []) ρ
theorem ae_newD : AE X Γ P W (.Dict [] [] pos) tDNewK aNewD := ⟨pe_dnewK, fun f σ ρ T H Q s k p hp => k _ _ (s.mapT fun R q => RS.newD (rs := []) (kvs := []) (dkvs := []) q hp rfl rfl rfl)⟩
end
/-! ### isinstance -/
section
variable {X : Cx} {Γ : Gb} {P : Nat → Bool} {W : WX} {a : Expr} {ta : TE} {oa : Od} {pos pn pt : Pos} {n : String} {xt : Str}
theorem ae_isi (hK : X.K = Γ.K) (hm : X.mg "isinstance" = none) (ha : AO X Γ P W a ta oa) (hmt : X.mg xt = none) (hbt : bootBuiltins xt = some (.type n)) (hn : n = "int" ∨ n = "bool" ∨ n = "str" ∨ n = "tuple" ∨ n = "list" ∨ n = "dict" := by decide)
    (hb : bootBuiltins "isinstance" = some (.builtin "isinstance") := by decide +kernel) (hg : Gl X "isinstance" := by rfl) (hgt : Gl X xt := by rfl) (hnt : xt ≠ "__name__" := by decide) (hdt : (xt == ("__debug__" : Str)) = false := by decide)
    (he : starEach (a :: [.Name xt pt]) X.env = (false, eval a X.env) :: starEach [.Name xt pt] X.env := by rfl) (he2 : starEach (.Name xt pt :: []) X.env = (false, eval (.Name xt pt) X.env) :: starEach [] X.env := by rfl)
    (hpl : (backTo pos (starEach [.Name xt pt] X.env)).any (·.1) = false := by rfl) :
    AE X Γ P W (.Call (.Name "isinstance" pn) [a, .Name xt pt] [] pos) (tCB (rIsi Γ.K) (tCons ta (tCons (tC (.ty n)) tNil))) (aOp [oa] (l1 (gIsi n))) :=
  ⟨hK ▸ pe_callB call_isi hg hm hb (pa_cons ha.pe (pa_cons (pe_bltn hgt hmt hbt rfl hnt hdt) pa_nil he2) he) (by decide) (by decide) he hpl,
    show Sx Γ P W (fun σ H Q => ta σ H fun x H1 => (fun x H Q => rIsi Γ.K [x, .ty n] H Q) x H1 Q) _ from sx_op1 (ha.sa sa_nil) (ok_isi hn)⟩
end
end Den
end
section
/-! Den, part Q: a module's constants; a def that is never reached; what the written part tells. -/
namespace Den
open PySem L2 PySem.Spec PyProof.Rows
/-- a name of the module that stands for plain data -/
def GC (Γ : Gb) (mg : Str → Option Value) (x : Str) (v : V) (d : D) : Prop := (∃ u, mg x = some u ∧ RelV v u) ∧ ∀ S, Rep Γ S v d
section
variable {X : Cx} {Γ : Gb} {P : Nat → Bool} {W : WX} {pos : Pos}
theorem ae_gc {x : Str} {v : V} {d : D} (g : GC Γ X.mg x v d) (hg : Gl X x := by rfl) (hd : (x == ("__debug__" : Str)) = false := by decide) : AE X Γ P W (.Name x pos) (tC v) (aC d) := by
  obtain ⟨⟨u, hm, r⟩, rp⟩ := g
  exact ⟨pe_glob hg hm r hd, sx_c rp⟩
theorem fn_stuck {mg : Str → Option Value} {base : Heap} {k n : Nat} {f : Addr} {fd : FuncData} {ps : List Str} (h : ps.length = n) : FnOk Γ.prog Γ.w Γ.K mg base (L2.CX Γ.prog Γ.w) k f fd ps (spD Γ n fun _ => .stuck) :=
  ⟨fun vs H Q E q => by rw [q.1, h], fun A outer s H args us vs Q E hr he hb hv hs => by
    obtain ⟨_, e, os, _, _, z⟩ := hs
    exact z.elim⟩
theorem Cl.mono {mg : Str → Option Value} {base : Heap} {j k n : Nat} {x : Str} {dds : List D} {den : aF} (C : Cl Γ mg base j x n dds den) (h : j ≤ k) : Cl Γ mg base k x n dds den := by
  obtain ⟨f, fd, ps, ds, F, q⟩ := C.ex
  exact ⟨f, fd, ps, ds, F.mono h, q⟩
/-- a def of the module, from what the written part tells of it -/
theorem cl_mk {mg : Str → Option Value} {base : Heap} {k n : Nat} {x : Str} {dds : List D} {den : aF} {f : Addr} {fd : FuncData} {ps : List Str} {ds : List Value} (F : FnOk Γ.prog Γ.w Γ.K mg base (L2.CX Γ.prog Γ.w) k f fd ps (spD Γ n den)) (hm : mg x = some (.ref f))
    (hk : PySem.W.keepIn Γ.K (.ref f) = true) (hb : Binds Γ.K fd ps ds) (hd : Vals (dds.map toV) ds) (hr : ∀ S, RepL Γ S (dds.map toV) dds) : Cl Γ mg base k x n dds den := ⟨f, fd, ps, ds, F, hm, hk, hb, hd, hr⟩
theorem cl_mk0 {mg : Str → Option Value} {base : Heap} {k n : Nat} {x : Str} {den : aF} {f : Addr} {fd : FuncData} {ps : List Str} (F : FnOk Γ.prog Γ.w Γ.K mg base (L2.CX Γ.prog Γ.w) k f fd ps (spD Γ n den)) (hm : mg x = some (.ref f))
    (hk : PySem.W.keepIn Γ.K (.ref f) = true) (hb : Binds Γ.K fd ps []) : Cl Γ mg base k x n [] den := cl_mk F hm hk hb .nil fun _ => .nil
theorem vals_all {S : Hp} {us : List Value} {ds : List D} (h : ds.length = us.length) (k : ∀ (i : Nat) (d : D) (u : Value), ds[i]? = some d → us[i]? = some u → RelV (toV d) u) : Vals (ds.map toV) us := by
  induction ds generalizing us with
  | nil =>
    cases us with
    | nil => exact .nil
    | cons _ _ => simp at h
  | cons d ds ih =>
    cases us with
    | nil => simp at h
    | cons u us => exact .cons (k 0 d u rfl rfl) (ih (by simpa using h) fun i d u a b => k (i + 1) d u (by simpa using a) (by simpa using b))
end
end Den
end
section
/-! Den, part R: constants of the module, the law's end. -/
namespace Den
open PySem L2 PySem.Spec PyProof.Rows
/-- an int, a text, True, False, None -/
def isScal : D → Bool
  | .non => true
  | .bl _ => true
  | .int _ => true
  | .str _ => true
  | _ => false
theorem rep_scal {Γ : Gb} {S : Hp} : ∀ {d : D}, isScal d = true → Rep Γ S (toV d) d
  | .non, _ => .non
  | .bl _, _ => .bl _
  | .int _, _ => .int _
  | .str _, _ => .str _
theorem repL_scal {Γ : Gb} {S : Hp} : ∀ {ds : List D}, ds.all isScal = true → RepL Γ S (ds.map toV) ds
  | [], _ => .nil
  | d :: ds, h => by
    rw [List.all_cons, Bool.and_eq_true] at h
    exact .cons (rep_scal h.1) (repL_scal h.2)
section
variable {Γ : Gb} {mg : Str → Option Value}
theorem gc_tup {x : Str} {a : Addr} {ds : List D} {us : Array Value} {dd : Option Addr} {n : Nat} {sl : Array (Option Value)} (hm : mg x = some (.ref a)) (lk : Γ.K.lookup a = some ⟨.type "tuple", dd, .seq us n, sl⟩) (hs : ds.all isScal = true) (hv : Vals (ds.map toV) us.toList)
    (hz : us.size ≤ sizeLine) : GC Γ mg x (.ref a) (.tup ds) := ⟨⟨_, hm, rfl⟩, fun S => .tup (.inr ⟨_, us, n, lk, rfl, rfl, hz, hv⟩) (repL_scal hs)⟩
theorem gc_lst {x : Str} {a : Addr} {ds : List D} {us : Array Value} {n : Nat} {sl : Array (Option Value)} (hm : mg x = some (.ref a)) (lk : Γ.K.lookup a = some ⟨.type "list", none, .seq us n, sl⟩) (hs : ds.all isScal = true) (hv : Vals (ds.map toV) us.toList)
    (hz : us.size ≤ sizeLine) : GC Γ mg x (.ref a) (.wls ds) := ⟨⟨_, hm, rfl⟩, fun S => .wls (.inr ⟨_, us, n, lk, rfl, rfl, rfl, hz, hv⟩) (repL_scal hs)⟩
theorem gc_scal {x : Str} {d : D} {u : Value} (hm : mg x = some u) (hs : isScal d = true) (r : RelV (toV d) u) : GC Γ mg x (toV d) d := ⟨⟨u, hm, r⟩, fun S => rep_scal hs⟩
end
/-- the law's own promise, from what its den answers -/
theorem sp_law {P : Program} {w : World} {K : PySem.W.Frag} {cls : Nat → Addr} {den : aF} {H : Hp} {a : Addr} {ns : List Int} (hO : Only H) (hS : SqL K H a (ns.map V.int)) (h : ∃ os', den [.sh (.wls (ns.map D.int))] = .ret (.sh (.bl true)) os' ∧ os'.length = 1) :
    spD ⟨P, w, K, cls⟩ 1 den [.ref a] H (fun v _ => v = .bl true) fun _ _ _ => False := by
  obtain ⟨os', hd, hl⟩ := h
  refine ⟨rfl, ⟨H, H, []⟩, [.sh (.wls (ns.map D.int))], rfl, ⟨H, [], ⟨fun _ _ e => e, fun _ _ e _ _ => e, fun _ e => e, fun _ m => (by cases m), fun _ e => .inl e⟩, .cons (F := []) (.sh (.wls hS repL_ints)) .nil, by simp, fun _ m => (by simp at m), fun b o e => ⟨e, ?_⟩, fun _ m => by cases m⟩, ?_⟩
  · rcases hO b with z | ⟨o', xs, z⟩
    · rw [z] at e; cases e
    · rw [z] at e
      cases e
      exact fun ps q => by cases q
  · rw [hd]
    exact ⟨hl, fun v H' r => r.bl (by simp)⟩
theorem cx_none {P : Program} {w : World} {H : Hp} {s : Shared} {e : Value} {s' : Shared} (h : L2.CX P w [] H s (fun _ _ _ => False) e s') : False := by
  obtain ⟨_, _, _, _, _, _, _, _, _, _, _, _, z⟩ := h
  exact z
theorem walk_den {l : PySem.W.OpenLaw} {k : Nat} {q : Program} {loose : List Str} {XP : (Str → Option Value) → Heap → Prop} {YP : World → Heap → Prop} {d : DefRec} {K : Params → PySem.W.Frag} {den : aF} {cls : Nat → Addr} (hn : l.most = some 63) (hdf : d.params.defaults = []) (hr : Room k callerA)
    (hY : ∀ (w : World) (h : Heap), YP w h → (K w.params).In h)
    (F : ∀ (w : World) (mg : Str → Option Value) (fa : Addr) (h : Heap), (K w.params).In h → h.Ns mainGlobals mg → mg d.name = some (.ref fa) →
      ∃ fd : FuncData, (∀ (s : Shared) (u : Value), BindsTo s fd ⟨[u], []⟩ [("script", u)]) ∧ ∀ base : Heap, (K w.params).In base → base.Ns mainGlobals mg → FnOk l.prog w (K w.params) mg base (L2.CX l.prog w) k fa fd ["script"] (spD ⟨l.prog, w, K w.params, cls⟩ 1 den))
    (hL : ∀ ns : List Int, ns.length ≤ 63 → ∃ os', den [.sh (.wls (ns.map D.int))] = .ret (.sh (.bl true)) os' ∧ os'.length = 1) :
    PySem.W.WalkO q loose XP YP l.row.toRowW d [] (fun f vs => PySem.call f vs) :=
  L2.walk_of (n := 63) (k := k) (x := "script") (CX := fun w => L2.CX l.prog w) (sp := fun w => spD ⟨l.prog, w, K w.params, cls⟩ 1 den) hn (by decide) hdf hr hY F (fun _ _ a ns hl hO hS => sp_law hO hS (hL ns hl)) fun _ _ _ _ _ z => cx_none z
end Den
end
section
/-! Den, part S: plain lemmas: what the operations answer at tuples and lists of texts, of ints. -/
namespace Den
open PySem L2
def tS (xs : List Str) : D := .tup (xs.map D.str)
def lS (xs : List Str) : D := .lst (xs.map D.str)
def lI (xs : List Int) : D := .lst (xs.map D.int)
abbrev okS (x : Str) : Prop := PyData.strOk x = true
abbrev okSs (xs : List Str) : Prop := ∀ x ∈ xs, PyData.strOk x = true
theorem toPyL_strs : ∀ xs : List Str, toPyL (xs.map D.str) = some (xs.map PyData.str)
  | [] => by simp [toPyL]
  | x :: xs => by simp [toPyL, toPy, toPyL_strs xs]
theorem toPyL_ints : ∀ xs : List Int, toPyL (xs.map D.int) = some (xs.map PyData.int)
  | [] => by simp [toPyL]
  | x :: xs => by simp [toPyL, toPy, toPyL_ints xs]
theorem layAll_strs : ∀ {xs : List Str}, okSs xs → PyData.canLayAll0 (xs.map PyData.str) = true
  | [], _ => by simp [PyData.canLayAll0]
  | x :: xs, h => by
    simp only [List.map_cons, PyData.canLayAll0, PyData.canLay0, Bool.and_eq_true]
    exact ⟨h x (by simp), layAll_strs fun y hy => h y (by simp [hy])⟩
theorem depthAll_strs : ∀ xs : List Str, PyData.depthAll (xs.map PyData.str) = 0
  | [] => by simp [PyData.depthAll]
  | x :: xs => by simp [PyData.depthAll, PyData.depth, depthAll_strs xs]
theorem eqvAll_strs : ∀ xs ys : List Str, PyData.eqvAll (xs.map PyData.str) (ys.map PyData.str) = decide (xs = ys)
  | [], [] => by simp [PyData.eqvAll]
  | [], _ :: _ => by simp [PyData.eqvAll]
  | _ :: _, [] => by simp [PyData.eqvAll]
  | x :: xs, y :: ys => by
    simp only [List.map_cons, PyData.eqvAll, PyData.eqv, eqvAll_strs xs ys, List.cons.injEq]
    by_cases h : x = y
    · simp [h]
    · simp [h]
theorem shaped_tS {xs : List Str} (h : okSs xs) : SeqAt.shaped (.tuple (xs.map PyData.str)) = true := by
  simp [SeqAt.shaped, PyData.canLay0, layAll_strs h, PyData.depth, depthAll_strs]
theorem shaped_lS {xs : List Str} (h : okSs xs) : SeqAt.shaped (.list (xs.map PyData.str)) = true := by
  simp [SeqAt.shaped, PyData.canLay0, layAll_strs h, PyData.depth, depthAll_strs]
theorem eqD_tS {xs ys : List Str} (h : okSs xs) (k : okSs ys) : gEqD (tS xs) (tS ys) = some (decide (xs = ys)) := by
  simp [gEqD, scalD, tS, toPy, toPyL_strs, shaped_tS h, shaped_tS k, PyData.eqv, eqvAll_strs]
theorem eqD_lS {xs ys : List Str} (h : okSs xs) (k : okSs ys) : gEqD (lS xs) (lS ys) = some (decide (xs = ys)) := by
  simp [gEqD, scalD, lS, toPy, toPyL_strs, shaped_lS h, shaped_lS k, PyData.eqv, eqvAll_strs]
theorem gEq_tS {xs ys : List Str} (h : okSs xs) (k : okSs ys) : gEq (.sh (tS xs)) (.sh (tS ys)) = some (.sh (.bl (decide (xs = ys)))) := by simp [gEq, fz, eqD_tS h k]
theorem gEq_str (x y : Str) : gEq (.sh (.str x)) (.sh (.str y)) = some (.sh (.bl (decide (x = y)))) := by simp [gEq, fz, gEqD, scalD]
theorem gEq_int (x y : Int) : gEq (.sh (.int x)) (.sh (.int y)) = some (.sh (.bl (decide (x = y)))) := by simp [gEq, fz, gEqD, scalD]
theorem gNe_str (x y : Str) : gNe (.sh (.str x)) (.sh (.str y)) = some (.sh (.bl (!decide (x = y)))) := by simp [gNe, fz, gEqD, scalD]
theorem gNe_int (x y : Int) : gNe (.sh (.int x)) (.sh (.int y)) = some (.sh (.bl (!decide (x = y)))) := by simp [gNe, fz, gEqD, scalD]
theorem inF_strs (c : Str) : ∀ xs : List Str, inF (.str c) (xs.map D.str) = decide (c ∈ xs)
  | [] => by simp [inF]
  | x :: xs => by
    have ih := inF_strs c xs
    unfold inF at ih ⊢
    rw [List.map_cons, List.any_cons, ih]
    have e : eqF (.str x) (.str c) = decide (c = x) := by
      show (x == c) = _
      by_cases h : c = x
      · simp [h]
      · rw [decide_eq_false h]
        exact beq_eq_false_iff_ne.mpr fun z => h z.symm
    rw [e]
    by_cases h : c = x <;> simp [h]
theorem flat_strs (xs : List Str) : (xs.map D.str).all flatD = true := by
  rw [List.all_eq_true]
  intro d hd
  obtain ⟨x, _, rfl⟩ := List.mem_map.mp hd
  rfl
theorem inG_tS (c : Str) (xs : List Str) : inG (.sh (.str c)) (.sh (tS xs)) = some (decide (c ∈ xs)) := by
  simp only [inG, tS, dicD, seqD, fz, flat_strs, flatD, inF_strs, and_self, if_true]
theorem inG_lS (c : Str) (xs : List Str) : inG (.sh (.str c)) (.sh (lS xs)) = some (decide (c ∈ xs)) := by
  simp only [inG, lS, dicD, seqD, fz, flat_strs, flatD, inF_strs, and_self, if_true]
theorem cutD_map {α β : Type} (f : α → β) (xs : List α) (lo hi : Option Int) : cutD (xs.map f) lo hi = (cutD xs lo hi).map f := by simp [cutD, List.map_drop, List.map_take]
theorem cut_to {α : Type} (xs : List α) (k : Nat) : cutD xs none (some (k : Int)) = xs.take k := by
  unfold cutD
  rw [HT.sIx_none, HT.sIx_nat, List.drop_zero, Nat.sub_zero]
  by_cases h : k ≤ xs.length
  · rw [Nat.min_eq_left h]
  · rw [Nat.min_eq_right (by omega), List.take_of_length_le (Nat.le_refl _), List.take_of_length_le (by omega)]
theorem cut_from {α : Type} (xs : List α) (k : Nat) : cutD xs (some (k : Int)) none = xs.drop k := by
  unfold cutD
  rw [HT.sIx_none, HT.sIx_nat]
  by_cases h : k ≤ xs.length
  · rw [Nat.min_eq_left h, List.take_of_length_le (by simp)]
  · rw [Nat.min_eq_right (by omega), List.drop_of_length_le (Nat.le_refl _), List.drop_of_length_le (by omega), List.take_nil]
theorem cut_back {α : Type} (xs : List α) (k : Nat) (h : 0 < k) : cutD xs (some (-(k : Int))) none = xs.drop (xs.length - k) := by
  unfold cutD
  have e : HT.sIx xs.length 0 (some (-(k : Int))) = xs.length - k := by
    show (if -(k : Int) < 0 then (-(k : Int) + (xs.length : Int)).toNat else min (-(k : Int)).toNat xs.length) = _
    rw [if_pos (by omega)]
    omega
  rw [e, HT.sIx_none, List.take_of_length_le (by simp)]
theorem atI_nat {α : Type} (xs : List α) (k : Nat) : atI xs (k : Int) = xs[k]? := by
  unfold atI ixN
  rw [if_pos (by omega)]
  by_cases h : k < xs.length
  · rw [if_pos (by omega)]
    simp
  · rw [if_neg (by omega), List.getElem?_eq_none (by omega)]
    rfl
theorem gSl_tS (xs : List Str) (lo hi : Option Int) : gSl (.sh (tS xs)) lo hi = some (.sh (tS (cutD xs lo hi))) := by simp [gSl, tS, tupD, cutD_map]
theorem gLen_tS (xs : List Str) : gLen (.sh (tS xs)) = some (.sh (.int xs.length)) := by simp [gLen, tS]
theorem gLen_lS (xs : List Str) : gLen (.sh (lS xs)) = some (.sh (.int xs.length)) := by simp [gLen, lS]
theorem gIx_tS {xs : List Str} {k : Nat} {x : Str} (h : xs[k]? = some x) : gIx (.sh (tS xs)) (.sh (.int (k : Int))) = some (.sh (.str x)) := by simp [gIx, tS, atI_nat, h]
theorem gIx_lS {xs : List Str} {k : Nat} {x : Str} (h : xs[k]? = some x) : gIx (.sh (lS xs)) (.sh (.int (k : Int))) = some (.sh (.str x)) := by simp [gIx, lS, atI_nat, h]
theorem gAdd_tS {xs ys : List Str} (h : xs.length + ys.length ≤ 16000000) : gAdd (.sh (tS xs)) (.sh (tS ys)) = some (.sh (tS (xs ++ ys))) := by simp [gAdd, tS, tupD, h]
theorem gTup_str (x : Str) : Den.gTup [.sh (.str x)] = some (.sh (tS [x])) := by simp [Den.gTup, shs, tS]
theorem gTup_str2 (x y : Str) : Den.gTup [.sh (.str x), .sh (.str y)] = some (.sh (tS [x, y])) := by simp [Den.gTup, shs, tS]
theorem gIx_tup (ds : List D) (i : Int) : gIx (.sh (.tup ds)) (.sh (.int i)) = (atI ds i).map O.sh := rfl
theorem atI_0 {α : Type} (a : α) (l : List α) : atI (a :: l) 0 = some a := atI_nat (a :: l) 0
theorem atI_1 {α : Type} (a b : α) (l : List α) : atI (a :: b :: l) 1 = some b := atI_nat (a :: b :: l) 1
theorem atI_2 {α : Type} (a b c : α) (l : List α) : atI (a :: b :: c :: l) 2 = some c := atI_nat (a :: b :: c :: l) 2
theorem atI_3 {α : Type} (a b c d : α) (l : List α) : atI (a :: b :: c :: d :: l) 3 = some d := atI_nat (a :: b :: c :: d :: l) 3
theorem gSl_tup (ds : List D) (lo hi : Option Int) : gSl (.sh (.tup ds)) lo hi = some (.sh (.tup (cutD ds lo hi))) := rfl
theorem gIn_tS (c : Str) (xs : List Str) : gIn (.sh (.str c)) (.sh (tS xs)) = some (.sh (.bl (decide (c ∈ xs)))) := by simp [gIn, inG_tS]
theorem gNotIn_tS (c : Str) (xs : List Str) : gNotIn (.sh (.str c)) (.sh (tS xs)) = some (.sh (.bl (!decide (c ∈ xs)))) := by simp [gNotIn, inG_tS]
theorem gIn_lS (c : Str) (xs : List Str) : gIn (.sh (.str c)) (.sh (lS xs)) = some (.sh (.bl (decide (c ∈ xs)))) := by simp [gIn, inG_lS]
theorem gNotIn_lS (c : Str) (xs : List Str) : gNotIn (.sh (.str c)) (.sh (lS xs)) = some (.sh (.bl (!decide (c ∈ xs)))) := by simp [gNotIn, inG_lS]
theorem gTup_sh (ds : List D) (h : ds.length ≤ 16000000) : Den.gTup (ds.map O.sh) = some (.sh (.tup ds)) := by simp [Den.gTup, shs_map, h]
/-- a for that leaves at an item, or goes through -/
theorem forD_ind {tg : aG} {body : aS} {R : Out → Prop} (I : List D → Store → Prop) : ∀ {ds : List D} {ρ : Store}, I ds ρ →
    (∀ d r ρ, I (d :: r) ρ → ∃ ρ1, tg d ρ = some ρ1 ∧ match body ρ1 with
      | .nx ρ2 => I r ρ2
      | .ct ρ2 => I r ρ2
      | .brk ρ2 => R (.nx ρ2)
      | o => R o) → (∀ ρ, I [] ρ → R (.nx ρ)) → R (forD tg body ds ρ)
  | [], ρ, h, _, f => f ρ h
  | d :: ds, ρ, h, s, f => by
    obtain ⟨ρ1, e, k⟩ := s d ds ρ h
    unfold forD
    rw [e]
    simp only
    cases eb : body ρ1 with
    | nx ρ2 => rw [eb] at k; exact forD_ind I k s f
    | ct ρ2 => rw [eb] at k; exact forD_ind I k s f
    | brk ρ2 => rw [eb] at k; exact k
    | ret o ρ2 => rw [eb] at k; exact k
    | exc x ρ2 => rw [eb] at k; exact k
    | stuck => rw [eb] at k; exact k
theorem aN_in {i : Nat} {ρ : Store} (h : i < ρ.length) (d : D) : aN i d ρ = some (ρ.set i (some (.sh d))) := if_pos h
/-- a comprehension that tells f of each item, the store as it was -/
theorem lcL_map {i : Nat} {ge : aE} {ρ : Store} (f : D → D) (hi : i < ρ.length) (hn : wipeS ρ [i] = ρ) : ∀ {ds : List D}, (∀ d ∈ ds, ∃ o ρ', ge (ρ.set i (some (.sh d))) = .ok o ρ' ∧ fz o = f d ∧ wipeS ρ' [i] = ρ) → lcL [i] (aN i) aYes ge ds ρ = .ok (ds.map f) ρ
  | [], _ => rfl
  | d :: ds, h => by
    obtain ⟨o, ρ', e, ef, w⟩ := h d (by simp)
    have ih := lcL_map f hi hn (ds := ds) fun x hx => h x (by simp [hx])
    rw [lcL, aN_in hi]
    simp only [aYes, Res.bind, if_true, e]
    rw [w]
    rw [ih]
    simp [ef]
/-- .. of those that pass the test -/
theorem lcL_filter {i : Nat} {tt : aT} {ge : aE} {ρ : Store} (p : D → Bool) (f : D → D) (hi : i < ρ.length) (hn : wipeS ρ [i] = ρ) : ∀ {ds : List D}, (∀ d ∈ ds, ∃ ρ1, tt (ρ.set i (some (.sh d))) = .ok (p d) ρ1 ∧ (p d = false → wipeS ρ1 [i] = ρ) ∧ (p d = true → ∃ o ρ', ge ρ1 = .ok o ρ' ∧ fz o = f d ∧ wipeS ρ' [i] = ρ)) →
    lcL [i] (aN i) tt ge ds ρ = .ok ((ds.filter p).map f) ρ
  | [], _ => rfl
  | d :: ds, h => by
    obtain ⟨ρ1, e1, hf, ht⟩ := h d (by simp)
    have ih := lcL_filter p f hi hn (ds := ds) fun x hx => h x (by simp [hx])
    rw [lcL, aN_in hi]
    simp only [Res.bind, e1]
    cases hp : p d with
    | true =>
      obtain ⟨o, ρ', e, ef, w⟩ := ht hp
      simp only [if_true, e, Res.bind]
      rw [w, ih]
      simp [hp, ef]
    | false =>
      simp only [Bool.false_eq_true, if_false]
      rw [hf hp, ih]
      simp [hp]
/-- .. while the store changes: P by what is left and what was found -/
theorem lcL_ind {vs : List Nat} {tg : aG} {tt : aT} {ge : aE} {R : Res (List D) → Prop} (I : List D → Store → List D → Prop) : ∀ {ds : List D} {ρ : Store} {acc : List D}, I ds ρ acc →
    (∀ d r ρ acc, I (d :: r) ρ acc → ∃ ρ1 b ρ2, tg d ρ = some ρ1 ∧ tt ρ1 = .ok b ρ2 ∧ if b = true then ∃ o ρ3, ge ρ2 = .ok o ρ3 ∧ I r (wipeS ρ3 vs) (acc ++ [fz o]) else I r (wipeS ρ2 vs) acc) →
    ∃ found ρ', lcL vs tg tt ge ds ρ = .ok found ρ' ∧ I [] ρ' (acc ++ found)
  | [], ρ, acc, h, _ => ⟨[], ρ, rfl, by rw [List.append_nil]; exact h⟩
  | d :: ds, ρ, acc, h, s => by
    obtain ⟨ρ1, b, ρ2, e1, e2, k⟩ := s d ds ρ acc h
    rw [lcL, e1]
    simp only [e2, Res.bind]
    cases b with
    | true =>
      rw [if_pos rfl] at k
      obtain ⟨o, ρ3, e3, k⟩ := k
      obtain ⟨found, ρ', e4, k'⟩ := lcL_ind (R := R) I k s
      refine ⟨fz o :: found, ρ', ?_, by simpa using k'⟩
      simp [e3, e4]
    | false =>
      rw [if_neg (by simp)] at k
      obtain ⟨found, ρ', e4, k'⟩ := lcL_ind (R := R) I k s
      exact ⟨found, ρ', by simp [e4], k'⟩
end Den
end
section
/-! Den, part T: plain lemmas: own lists of texts, of ints. -/
namespace Den
open PySem L2
def oS (xs : List Str) : O := .lst ((xs.map D.str).map O.sh)
def oI (xs : List Int) : O := .lst ((xs.map D.int).map O.sh)
theorem oS_nil : O.lst [] = oS [] := rfl
theorem oS_len (xs : List Str) : ((xs.map D.str).map O.sh).length = xs.length := by simp
theorem lstD_oS (xs : List Str) : lstD (oS xs) = some (xs.map D.str) := shs_map _
theorem lstD_oI (xs : List Int) : lstD (oI xs) = some (xs.map D.int) := shs_map _
theorem fz_oS (xs : List Str) : fz (oS xs) = lS xs := by rw [oS, fz, fzL_sh]; rfl
theorem fz_oI (xs : List Int) : fz (oI xs) = lI xs := by rw [oI, fz, fzL_sh]; rfl
theorem gEq_oS {xs ys : List Str} (h : okSs xs) (k : okSs ys) : gEq (oS xs) (oS ys) = some (.sh (.bl (decide (xs = ys)))) := by simp [gEq, fz_oS, eqD_lS h k]
theorem gSl_oS (xs : List Str) (lo hi : Option Int) : gSl (oS xs) lo hi = some (oS (cutD xs lo hi)) := by
  have e : gSl (oS xs) lo hi = (match tupD (oS xs) with
    | some ds => some (.sh (.tup (cutD ds lo hi)))
    | none => match lstD (oS xs) with
      | some ds => some (.lst ((cutD ds lo hi).map O.sh))
      | none => none) := rfl
  rw [e]
  have t : tupD (oS xs) = none := rfl
  rw [t, lstD_oS]
  simp [oS, cutD_map]
theorem gLen_oS (xs : List Str) : gLen (oS xs) = some (.sh (.int xs.length)) := by simp [gLen, oS]
theorem gLen_oI (xs : List Int) : gLen (oI xs) = some (.sh (.int xs.length)) := by simp [gLen, oI]
theorem gIx_oS {xs : List Str} {k : Nat} {x : Str} (h : xs[k]? = some x) : gIx (oS xs) (.sh (.int (k : Int))) = some (.sh (.str x)) := by simp [gIx, oS, atI_nat, h]
theorem gIx_oI {xs : List Int} {k : Nat} {x : Int} (h : xs[k]? = some x) : gIx (oI xs) (.sh (.int (k : Int))) = some (.sh (.int x)) := by simp [gIx, oI, atI_nat, h]
theorem gLstS_one (x : Str) : gLstS [.sh (.str x)] = some (oS [x]) := by simp [gLstS, shs, oS]
theorem gLstS_nil : gLstS [] = some (oS []) := by simp [gLstS, shs, oS]
theorem gMul_two (x : Str) : gMul (oS [x]) (.sh (.int 2)) = some (oS [x, x]) := by
  simp [gMul, oS, lstD, shs]
theorem eqvAll_ints : ∀ xs ys : List Int, PyData.eqvAll (xs.map PyData.int) (ys.map PyData.int) = decide (xs = ys)
  | [], [] => by simp [PyData.eqvAll]
  | [], _ :: _ => by simp [PyData.eqvAll]
  | _ :: _, [] => by simp [PyData.eqvAll]
  | x :: xs, y :: ys => by
    simp only [List.map_cons, PyData.eqvAll, PyData.eqv, eqvAll_ints xs ys, List.cons.injEq]
    by_cases h : x = y
    · simp [h]
    · simp [h]
theorem layAll_ints : ∀ {xs : List Int}, PyData.canLayAll0 (xs.map PyData.int) = true
  | [] => by simp [PyData.canLayAll0]
  | x :: xs => by
    simp only [List.map_cons, PyData.canLayAll0, PyData.canLay0, Bool.and_eq_true]
    exact ⟨trivial, layAll_ints⟩
theorem depthAll_ints : ∀ xs : List Int, PyData.depthAll (xs.map PyData.int) = 0
  | [] => by simp [PyData.depthAll]
  | x :: xs => by simp [PyData.depthAll, PyData.depth, depthAll_ints xs]
theorem eqD_lI (xs ys : List Int) : gEqD (lI xs) (lI ys) = some (decide (xs = ys)) := by
  simp [gEqD, scalD, lI, toPy, toPyL_ints, SeqAt.shaped, PyData.canLay0, layAll_ints, PyData.depth, depthAll_ints, PyData.eqv, eqvAll_ints]
theorem gNe_oI (xs ys : List Int) : gNe (oI xs) (oI ys) = some (.sh (.bl (!decide (xs = ys)))) := by simp [gNe, fz_oI, eqD_lI]
theorem gNe_oI_nil (xs : List Int) : gNe (oI xs) (oS []) = some (.sh (.bl (!decide (xs = [])))) := gNe_oI xs []
theorem itemsD_tS (xs : List Str) : itemsD (.sh (tS xs)) = some (xs.map D.str) := rfl
theorem itemsD_lS (xs : List Str) : itemsD (.sh (lS xs)) = some (xs.map D.str) := rfl
theorem filter_map_str (p : Str → Bool) (xs : List Str) : ((xs.map D.str).filter fun d => match d with
    | .str x => p x
    | _ => false) = (xs.filter p).map D.str := by
  induction xs with
  | nil => rfl
  | cons x xs ih =>
    simp only [List.map_cons, List.filter_cons, ih]
    cases p x <;> rfl
theorem aOp_cc {f : O → O → Option O} {a b : D} {w : O} (h : f (.sh a) (.sh b) = some w) : aOp [.ex (aC a), .ex (aC b)] (l2 f) = fun ρ => .ok w ρ := by
  funext ρ
  simp [aOp, evA, aC, Res.bind, rsv, l2, h]
theorem g106 : gPow (.sh (.int 10)) (.sh (.int 6)) = some (.sh (.int 1000000)) := by simp [gPow]
theorem g1018 : gPow (.sh (.int 10)) (.sh (.int 18)) = some (.sh (.int 1000000000000000000)) := by simp [gPow]
theorem set_same {ρ : Store} {i : Nat} (h : ρ[i]? = some none) : ρ.set i none = ρ := by
  apply List.ext_getElem?
  intro j
  by_cases e : i = j
  · subst e
    rw [List.getElem?_set_self', h]
    rfl
  · rw [List.getElem?_set_ne e]
theorem aLc_filter {src : aI} {i : Nat} {tt : aT} {ge : aE} {ρ : Store} {ds : List D} (p : D → Bool) (f : D → D) (hs : src ρ = .ok ds ρ) (hl : ds.length ≤ 16000000) (hi : ρ[i]? = some none)
    (h : ∀ d ∈ ds, ∃ ρ1, tt (ρ.set i (some (.sh d))) = .ok (p d) ρ1 ∧ (p d = false → ρ1.set i none = ρ) ∧ (p d = true → ∃ o ρ', ge ρ1 = .ok o ρ' ∧ fz o = f d ∧ ρ'.set i none = ρ)) :
    aLc src [i] (aN i) tt ge ρ = .ok (.lst (((ds.filter p).map f).map O.sh)) ρ := by
  have w : wipeS ρ [i] = ρ := set_same hi
  unfold aLc
  rw [hs]
  simp only [Res.bind]
  rw [if_pos hl, w, lcL_filter p f (List.getElem?_eq_some_iff.mp hi).1 w h]
  simp only [restS, wipeS, hi, Option.join, Option.bind, id]
  rw [set_same hi]
theorem aLc_map {src : aI} {i : Nat} {ge : aE} {ρ : Store} {ds : List D} (f : D → D) (hs : src ρ = .ok ds ρ) (hl : ds.length ≤ 16000000) (hi : ρ[i]? = some none)
    (h : ∀ d ∈ ds, ∃ o ρ', ge (ρ.set i (some (.sh d))) = .ok o ρ' ∧ fz o = f d ∧ ρ'.set i none = ρ) : aLc src [i] (aN i) aYes ge ρ = .ok (.lst ((ds.map f).map O.sh)) ρ := by
  have w : wipeS ρ [i] = ρ := set_same hi
  unfold aLc
  rw [hs]
  simp only [Res.bind]
  rw [if_pos hl, w, lcL_map f (List.getElem?_eq_some_iff.mp hi).1 w h]
  simp only [restS, wipeS, hi, Option.join, Option.bind, id]
  rw [set_same hi]
theorem aLc_fS {src : aI} {i : Nat} {tt : aT} {ge : aE} {ρ : Store} {xs : List Str} (p : Str → Bool) (hs : src ρ = .ok (xs.map D.str) ρ) (hl : xs.length ≤ 16000000) (hi : ρ[i]? = some none)
    (ht : ∀ y ∈ xs, tt (ρ.set i (some (.sh (.str y)))) = .ok (p y) (ρ.set i (some (.sh (.str y))))) (he : ∀ y ∈ xs, ge (ρ.set i (some (.sh (.str y)))) = .ok (.sh (.str y)) (ρ.set i (some (.sh (.str y))))) :
    aLc src [i] (aN i) tt ge ρ = .ok (oS (xs.filter p)) ρ := by
  have b : ∀ y : Str, (ρ.set i (some (.sh (.str y)))).set i none = ρ := fun y => by rw [List.set_set]; exact set_same hi
  have z := aLc_filter (src := src) (i := i) (tt := tt) (ge := ge) (ρ := ρ) (ds := xs.map D.str) (fun d => match d with
    | .str x => p x
    | _ => false) id hs (by rw [List.length_map]; exact hl) hi (fun d hd => by
      obtain ⟨y, hy, rfl⟩ := List.mem_map.mp hd
      exact ⟨_, ht y hy, fun _ => b y, fun _ => ⟨_, _, he y hy, rfl, b y⟩⟩)
  rw [z, filter_map_str, List.map_id]
  rfl
theorem aLc_mI {src : aI} {i : Nat} {ge : aE} {ρ : Store} {ds : List D} (f : D → Int) (hs : src ρ = .ok ds ρ) (hl : ds.length ≤ 16000000) (hi : ρ[i]? = some none)
    (he : ∀ d ∈ ds, ge (ρ.set i (some (.sh d))) = .ok (.sh (.int (f d))) (ρ.set i (some (.sh d)))) : aLc src [i] (aN i) aYes ge ρ = .ok (oI (ds.map f)) ρ := by
  have z := aLc_map (src := src) (i := i) (ge := ge) (ρ := ρ) (ds := ds) (fun d => .int (f d)) hs hl hi (fun d hd => ⟨_, _, he d hd, rfl, by rw [List.set_set]; exact set_same hi⟩)
  rw [z, oI, List.map_map (f := f)]
  rfl
theorem filter_map_int (p : Int → Bool) (xs : List Int) : ((xs.map D.int).filter fun d => match d with
    | .int x => p x
    | _ => false) = (xs.filter p).map D.int := by
  induction xs with
  | nil => rfl
  | cons x xs ih =>
    simp only [List.map_cons, List.filter_cons, ih]
    cases p x <;> rfl
theorem aLc_fI {src : aI} {i : Nat} {tt : aT} {ge : aE} {ρ : Store} {xs : List Int} (p : Int → Bool) (hs : src ρ = .ok (xs.map D.int) ρ) (hl : xs.length ≤ 16000000) (hi : ρ[i]? = some none)
    (ht : ∀ y ∈ xs, tt (ρ.set i (some (.sh (.int y)))) = .ok (p y) (ρ.set i (some (.sh (.int y))))) (he : ∀ y ∈ xs, ge (ρ.set i (some (.sh (.int y)))) = .ok (.sh (.int y)) (ρ.set i (some (.sh (.int y))))) :
    aLc src [i] (aN i) tt ge ρ = .ok (oI (xs.filter p)) ρ := by
  have b : ∀ y : Int, (ρ.set i (some (.sh (.int y)))).set i none = ρ := fun y => by rw [List.set_set]; exact set_same hi
  have z := aLc_filter (src := src) (i := i) (tt := tt) (ge := ge) (ρ := ρ) (ds := xs.map D.int) (fun d => match d with
    | .int x => p x
    | _ => false) id hs (by rw [List.length_map]; exact hl) hi (fun d hd => by
      obtain ⟨y, hy, rfl⟩ := List.mem_map.mp hd
      exact ⟨_, ht y hy, fun _ => b y, fun _ => ⟨_, _, he y hy, rfl, b y⟩⟩)
  rw [z, filter_map_int, List.map_id]
  rfl
end Den
end
section
/-! Den, part U: chained comparisons, tests of texts, comparisons with an empty row, a tuple many times. -/
namespace Den
open PySem L2 PySem.Spec PyProof.Rows
/-! ### a op b op c -/
def aChain (f f' : O → O → Option O) (ga gb gc : aE) : aE := fun ρ => (ga ρ).bind fun x ρ1 => (gb ρ1).bind fun y ρ2 => match f x y with
  | some (.sh (.bl true)) => (gc ρ2).bind fun z ρ3 => match f' y z with
    | some w => .ok w ρ3
    | none => .stuck
  | some (.sh (.bl false)) => .ok (.sh (.bl false)) ρ2
  | _ => .stuck
section
variable {X : Cx} {Γ : Gb} {P : Nat → Bool} {W : WX} {ta tb tc : TE} {ga gb gc : aE} {r r' : R2} {f f' : O → O → Option O} {a b c : Expr} {pos : Pos}
theorem sx_chain (ok : Op2 Γ r f) (ok' : Op2 Γ r' f') (h1 : Sx Γ P W ta ga) (h2 : Sx Γ P W tb gb) (h3 : Sx Γ P W tc gc) : Sx Γ P W (tChain r r' ta tb tc) (aChain f f' ga gb gc) := fun fr σ ρ T H Q s k => by
  refine h1 fr σ ρ T H _ s ((Good.bind k).imp fun x ρ1 k1 v H1 s1 => ?_)
  refine h2 fr σ ρ1 ((v, x) :: T) H1 _ s1 (((Good.bind k1).more (T' := [(v, x)])).imp fun y ρ2 k2 u H2 s2 => ?_)
  split at k2
  · rename_i e
    refine ok fr.c _ H2 v x u y _ _ s2.rs (by simp) (by simp) e fun z H3 q => ⟨true, q.bl (by simp), ?_⟩
    have s3 : SR Γ P fr σ ρ2 ((u, y) :: (v, x) :: T) H3 := ⟨s2.ok, s2.fix, q.drop⟩
    rw [if_pos rfl]
    refine h3 fr σ ρ2 _ H3 _ s3 (((Good.bind k2).more (T' := [(u, y), (v, x)])).imp fun c ρ3 k3 t H4 s4 => ?_)
    split at k3
    · rename_i w e'
      refine ok' fr.c _ H4 u y t c w _ s4.rs (by simp) (by simp) e' fun z' H5 q' => k3 z' H5 ?_
      have z : SR Γ P fr σ ρ3 ((z', w) :: ([(t, c), (u, y), (v, x)] ++ T)) H5 := ⟨s4.ok, s4.fix, q'.perm List.perm_middle.symm⟩
      exact (z.permT (T' := [(t, c), (u, y), (v, x)] ++ (z', w) :: T) List.perm_middle.symm).dropL
    · exact k3.elim
  · rename_i e
    refine ok fr.c _ H2 v x u y _ _ s2.rs (by simp) (by simp) e fun z H3 q => ⟨false, q.bl (by simp), ?_⟩
    rw [if_neg (by simp)]
    refine k2 _ H3 ?_
    have z : SR Γ P fr σ ρ2 ((.bl false, .sh (.bl false)) :: ([(u, y), (v, x)] ++ T)) H3 := ⟨s2.ok, s2.fix, (q.drop.pure fun _ => .bl false).perm List.perm_middle.symm⟩
    exact (z.permT (T' := [(u, y), (v, x)] ++ (.bl false, .sh (.bl false)) :: T) List.perm_middle.symm).dropL
  · exact k2.elim
theorem ae_chain {op op' : CmpOp} (ok : Op2 Γ r f) (ho : OpR X (compareOp op) r) (ok' : Op2 Γ r' f') (ho' : OpR X (compareOp op') r') (ha : AE X Γ P W a ta ga) (hb : AE X Γ P W b tb gb) (hc : AE X Γ P W c tc gc) (hm : lastMarks [op, op'] [b, c] = false := by with_unfolding_all rfl) :
    AE X Γ P W (.Compare a [op, op'] [b, c] pos) (tChain r r' ta tb tc) (aChain f f' ga gb gc) := ⟨pe_chain ho ho' ha.pe hb.pe hc.pe hm, sx_chain ok ok' ha.sx hb.sx hc.sx⟩
theorem at_chain {op op' : CmpOp} (ok : Op2 Γ r f) (ho : OpR X (compareOp op) r) (ok' : Op2 Γ r' f') (ho' : OpR X (compareOp op') r') (ha : AE X Γ P W a ta ga) (hb : AE X Γ P W b tb gb) (hc : AE X Γ P W c tc gc) (hm : lastMarks [op, op'] [b, c] = false := by with_unfolding_all rfl) :
    AT X Γ P W (.Compare a [op, op'] [b, c] pos) (tTest (tChain r r' ta tb tc)) (aB (aChain f f' ga gb gc)) := ⟨pt_chain ho ho' ha.pe hb.pe hc.pe hm, sxt_b (sx_chain ok ok' ha.sx hb.sx hc.sx)⟩
end
/-! ### x.isascii() and its like -/
def rStT (t : Str → Bool) : V → List V → Hp → VK → Prop := fun x xs H Q => ∃ a, x = .str a ∧ xs = [] ∧ True ∧ Q (.bl (t a)) H
def gStT (t : Str → Bool) : O → Option O
  | .sh (.str z) => some (.sh (.bl (t z)))
  | _ => none
section
variable {X : Cx} {Γ : Gb} {P : Nat → Bool} {W : WX} {ta : TE} {oa : Od} {a : Expr}
theorem ok_stT (t : Str → Bool) : Op1 Γ (fun x H Q => (∃ z, x = V.str z) ∧ rStT t x [] H Q) (gStT t) := by
  intro c R H x ox w Q h m e k
  unfold gStT at e
  split at e
  · rename_i z
    cases e
    have hx := h.str m
    exact ⟨⟨z, hx⟩, z, hx, rfl, trivial, k _ _ (h.pure fun _ => .bl _)⟩
  · cases e
theorem ae_stT {id : String} {name : Str} {apos pos : Pos} {t : Str → Bool} (slot : Slot "str" name id) (ty : typeOf (.builtin id) = pure (.type "method_descriptor")) (rule : MtR X id (rStT t)) (ha : AO X Γ P W a ta oa)
    (hbase : attributeBase a name X.env (eval a X.env) = eval a X.env := by rfl) (hline : (apos.endLine == pos.line) = true := by rfl) : AE X Γ P W (.Call (.Attribute a name apos) [] [] pos) (tM0 (rStT t) ta) (aOp [oa] (l1 (gStT t))) :=
  ⟨pe_m0 slot ty rule ha.pe hbase hline, show Sx Γ P W (fun σ H Q => ta σ H fun x H1 => (fun x H Q => (∃ z, x = V.str z) ∧ rStT t x [] H Q) x H1 Q) _ from sx_op1 (ha.sa sa_nil) (ok_stT t)⟩
theorem m_isascii : MtR X "str.isascii" (rStT Txt.isascii) := mt_isascii
theorem m_isalnum : MtR X "str.isalnum" (rStT Txt.isalnum) := mt_isalnum
theorem m_isalpha : MtR X "str.isalpha" (rStT Txt.isalpha) := mt_isalpha
theorem m_islower : MtR X "str.islower" (rStT Txt.islower) := mt_islower
end
/-! ### x == [], x != () .. whatever stands in x -/
/-- both are lists, or both are tuples; the second is empty -/
def eqE : D → D → Option Bool
  | .lst ds, .lst [] => some ds.isEmpty
  | .wls ds, .lst [] => some ds.isEmpty
  | .tup ds, .tup [] => some ds.isEmpty
  | _, _ => none
def gEqE (x y : O) : Option O := (eqE (fz x) (fz y)).map fun b => .sh (.bl b)
def gNeE (x y : O) : Option O := (eqE (fz x) (fz y)).map fun b => .sh (.bl (!b))
def rEqE (K : PySem.W.Frag) (neg : Bool) : R2 := fun x y H Q => ∃ a b xs, x = .ref a ∧ y = .ref b ∧ ((SqL K H a xs ∧ SqL K H b []) ∨ (SqT K H a xs ∧ SqT K H b [])) ∧ Q (.bl (if neg then !xs.isEmpty else xs.isEmpty)) H
section
variable {X : Cx} {Γ : Gb}
theorem szE {xs : List V} {its : List Value} (r : Vals xs its) : xs.isEmpty = its.isEmpty := by
  have := r.length
  cases xs <;> cases its <;> simp at this ⊢
theorem noneE {its : List Value} (r : Vals [] its) : its = [] := by
  have := r.length
  exact List.eq_nil_of_length_eq_zero (by simpa using this.symm)
theorem or_eqE (hu : X.A.units < cLine) : OpR X (compareOp .Eq) (rEqE X.K false) := by
  intro pins s σ H x y v u Q I rx ry h
  obtain ⟨a, b, xs, rfl, rfl, h, q⟩ := h
  cases rx
  cases ry
  rcases h with ⟨h1, h2⟩ | ⟨h1, h2⟩
  · obtain ⟨is1, r1, l1, _⟩ := I.list h1
    obtain ⟨is2, r2, l2, _⟩ := I.list h2
    have z := noneE r2
    subst z
    have ez := szE r1
    rw [if_neg (by simp), ez] at q
    cases is1 with
    | nil => exact SeqAt.eq_listAt (e := fun _ => true) l1.isList l2.isList rfl hu (fun j j1 _ => absurd j1 (by simp)) ⟨.bl true, H, I, rfl, q⟩
    | cons i is1 => exact SeqAt.eq_list_lengthsAt l1.isList l2.isList (by simp) hu ⟨.bl false, H, I, rfl, q⟩
  · obtain ⟨is1, r1, l1, _⟩ := I.tuple h1
    obtain ⟨is2, r2, l2, _⟩ := I.tuple h2
    have z := noneE r2
    subst z
    have ez := szE r1
    rw [if_neg (by simp), ez] at q
    have qq : ((List.range (min is1.toArray.size ([] : List Value).toArray.size)).all (fun _ => true) && is1.toArray.size == ([] : List Value).toArray.size) = is1.isEmpty := by cases is1 <;> simp
    exact SeqAt.eq_tupleAt (e := fun _ => true) l1 l2 hu (fun j _ j2 => absurd j2 (by simp)) (by rw [qq]; exact ⟨.bl _, H, I, rfl, q⟩)
theorem or_neE (hu : X.A.units < cLine) : OpR X (compareOp .NotEq) (rEqE X.K true) := by
  intro pins s σ H x y v u Q I rx ry h
  obtain ⟨a, b, xs, rfl, rfl, h, q⟩ := h
  cases rx
  cases ry
  rcases h with ⟨h1, h2⟩ | ⟨h1, h2⟩
  · obtain ⟨is1, r1, l1, _⟩ := I.list h1
    obtain ⟨is2, r2, l2, _⟩ := I.list h2
    have z := noneE r2
    subst z
    have ez := szE r1
    rw [if_pos rfl, ez] at q
    cases is1 with
    | nil => exact SeqAt.RcNeAt.lists (e := fun _ => true) l1.isList l2.isList rfl hu (fun j j1 _ => absurd j1 (by simp)) X.prog X.w X.xe _ ⟨.bl false, H, I, rfl, q⟩
    | cons i is1 => exact SeqAt.RcNeAt.lists_lengths l1.isList l2.isList (by simp) hu X.prog X.w X.xe _ ⟨.bl true, H, I, rfl, q⟩
  · obtain ⟨is1, r1, l1, _⟩ := I.tuple h1
    obtain ⟨is2, r2, l2, _⟩ := I.tuple h2
    have z := noneE r2
    subst z
    have ez := szE r1
    rw [if_pos rfl, ez] at q
    have qq : ((List.range (min is1.toArray.size ([] : List Value).toArray.size)).all (fun _ => true) && is1.toArray.size == ([] : List Value).toArray.size) = is1.isEmpty := by cases is1 <;> simp
    exact SeqAt.RcNeAt.tuples (e := fun _ => true) l1 l2 hu (fun j _ j2 => absurd j2 (by simp)) X.prog X.w X.xe _ (by rw [qq]; exact ⟨.bl _, H, I, rfl, q⟩)
end
section
variable {Γ : Gb}
theorem rep_seq {H : Hp} {v u : V} {d e : D} {b : Bool} (r1 : Rep Γ H v d) (r2 : Rep Γ H u e) (h : eqE d e = some b) : ∃ a c xs, v = .ref a ∧ u = .ref c ∧ ((SqL Γ.K H a xs ∧ SqL Γ.K H c []) ∨ (SqT Γ.K H a xs ∧ SqT Γ.K H c [])) ∧ xs.isEmpty = b := by
  have sz : ∀ {xs : List V} {ds : List D}, RepL Γ H xs ds → xs.isEmpty = ds.isEmpty := fun {xs ds} r => by
    have := r.len
    cases xs <;> cases ds <;> simp at this ⊢
  unfold eqE at h
  split at h
  · cases h
    cases r1 with
    | lst h1 l1 => cases r2 with
      | lst h2 l2 => cases l2; exact ⟨_, _, _, rfl, rfl, .inl ⟨.of h1, .of h2⟩, sz l1⟩
  · cases h
    cases r1 with
    | wls h1 l1 => cases r2 with
      | lst h2 l2 => cases l2; exact ⟨_, _, _, rfl, rfl, .inl ⟨h1, .of h2⟩, sz l1⟩
  · cases h
    cases r1 with
    | tup h1 l1 => cases r2 with
      | tup h2 l2 => cases l2; exact ⟨_, _, _, rfl, rfl, .inr ⟨h1, h2⟩, sz l1⟩
  · cases h
theorem ok_eqE : Op2 Γ (rEqE Γ.K false) gEqE := by
  intro c R H x ox y oy w Q h m1 m2 e k
  simp only [gEqE, Option.map_eq_some_iff] at e
  obtain ⟨b, e, rfl⟩ := e
  obtain ⟨a, c', xs, ea, ec, hs, hb⟩ := rep_seq (h.rep m1) (h.rep m2) e
  refine ⟨a, c', xs, ea, ec, hs, ?_⟩
  rw [if_neg (by simp), hb]
  exact k _ _ (h.pure fun _ => .bl _)
theorem ok_neE : Op2 Γ (rEqE Γ.K true) gNeE := by
  intro c R H x ox y oy w Q h m1 m2 e k
  simp only [gNeE, Option.map_eq_some_iff] at e
  obtain ⟨b, e, rfl⟩ := e
  obtain ⟨a, c', xs, ea, ec, hs, hb⟩ := rep_seq (h.rep m1) (h.rep m2) e
  refine ⟨a, c', xs, ea, ec, hs, ?_⟩
  rw [if_pos rfl, hb]
  exact k _ _ (h.pure fun _ => .bl _)
/-! ### t * k, t a tuple -/
def gMulT : O → O → Option O
  | .sh (.tup ds), .sh (.int k) => if ds ≠ [] ∧ 2 ≤ k ∧ k ≤ 1000 ∧ ds.length ≤ 1000 then some (.sh (.tup (List.replicate k.toNat ds).flatten)) else none
  | _, _ => none
theorem ok_mulT : Op2 Γ (rRepT Γ.K) gMulT := by
  intro c R H x ox y oy w Q h m1 m2 e k
  unfold gMulT at e
  split at e
  · rename_i ds i
    split at e
    · cases e
      rename_i hc
      obtain ⟨a, xs, rfl, ha, had⟩ := h.tup m1 (ds := ds) rfl
      have hl := had.len
      refine ⟨a, _, xs, rfl, h.int m2, ha, fun z => hc.1 ?_, hc.2.1, hc.2.2.1, by rw [hl]; exact hc.2.2.2, fun p hp => k _ _ ?_⟩
      · rw [z] at hl
        exact List.eq_nil_of_length_eq_zero hl.symm
      · obtain ⟨S, sb, r, q⟩ := had.ex
        exact Had.newT ⟨S, sb, r.flat _, q⟩ hp
    · cases e
  · cases e
end
end Den
end
section
/-! Den, part V: repr of rows, where no repr is under way: in the law's own text. -/
namespace Den
open PySem L2 PySem.Spec PyProof.Rows
def rRepr (K : PySem.W.Frag) : List V → Hp → VK → Prop := fun vs H Q => ∃ (a : Addr) (d : PyData), vs = [.ref a] ∧ Dp K H (.ref a) d ∧ d.showable = true ∧ d.hasDict = false ∧ d.depth ≤ 60 ∧ d.shown.length ≤ sizeLine ∧ Q (.str d.shown) H
theorem cr_repr {X : Cx} (hG : X.A.guards = some []) (hu : X.A.units + 64 < cLine) : CallR X (.builtin "repr") (rRepr X.K) := by
  intro pins s σ H vs us Q I r h
  obtain ⟨a, d, rfl, hd, h1, h2, h3, h4, q⟩ := h
  rw [Vals.ref1 r]
  obtain ⟨as, rd⟩ := Dp.reads I d (.ref a) (.ref a) hd rfl
  exact repr_of_reads' rd h1 (fun e => by rw [h2] at e; cases e) hG (by omega) (fun _ _ e => e) (fun h' u tk k => ⟨.str d.shown, H, I.kept k, ⟨u, rfl⟩, q⟩) h4
def isRow : D → Bool
  | .tup _ => true
  | .lst _ => true
  | _ => false
def gRepr (o : O) : Option O := match toPy (fz o) with
  | some p => if isRow (fz o) = true ∧ p.showable = true ∧ p.hasDict = false ∧ p.depth ≤ 60 ∧ p.shown.length ≤ 16000000 then some (.sh (.str p.shown)) else none
  | none => none
theorem ok_repr {Γ : Gb} : Op1 Γ (C1 (rRepr Γ.K)) gRepr := by
  intro c R H x ox w Q h m e k
  unfold gRepr at e
  split at e
  · rename_i p ep
    split at e
    · cases e
      rename_i hc
      have rp := h.rep m
      have dp := rp.dp ep
      have hx : ∃ a, x = V.ref a := by
        have hr := hc.1
        generalize fz ox = d at rp hr
        cases rp <;> first | exact ⟨_, rfl⟩ | cases hr
      obtain ⟨a, rfl⟩ := hx
      exact ⟨a, p, rfl, dp, hc.2.1, hc.2.2.1, hc.2.2.2.1, le_line hc.2.2.2.2, k _ _ (h.pure fun _ => .str _)⟩
    · cases e
  · cases e
theorem b_repr : bootBuiltins "repr" = some (.builtin "repr") := by decide +kernel
end Den
end
section
/-! Den, part W: a def that is run where no repr is under way; the law's end for such a def. -/
namespace Den
open PySem L2 PySem.Spec PyProof.Rows
section
variable {Γ : Gb} {mg : Str → Option Value} {base : Heap}
/-- what a def keeps where no repr is under way -/
structure FnG (Γ : Gb) (mg : Str → Option Value) (base : Heap) (k : Nat) (f : Addr) (fd : FuncData) (ps : List Str) (sp : Sp) : Prop where
  go : ∀ (A : Around), A.guards = some [] → ∀ (outer : List Env) (s : Shared) (H : Hp) (args : Args) (us : List Value) (vs : List V) (Q : VK) (E : XK),
    Room k A → Env0 Γ.prog Γ.w Γ.K mg base A outer s H → BindsTo s fd args (ps.zip us) → Vals vs us → sp vs H Q E → codeAny (model Γ.prog Γ.w) A (.call (.ref f) args) (CR (L2.CX Γ.prog Γ.w) outer Γ.prog Γ.w H s Q E) s
theorem fnG_of {x qual : Str} {st : Stmt} {f : Addr} {fd : FuncData} {N ps : List Str} {k : Nat} {sp : Sp} (F : Fun Γ.K x qual st f fd) (S : FnScope N ps (defScope st)) (hlen : ∀ vs H Q E, sp vs H Q E → vs.length = ps.length)
    (hb : ∀ (cdv : Value) (A : Around), A.guards = some [] → ∀ (outer : List Env) (s : Shared) (H : Hp) (vs : List V) (Q : VK) (E : XK), Room k (A.deeper (envOfC qual (defScope st) s.heap.objs.size f cdv)) → sp vs H Q E →
      ∃ t, PSs (cxOf (L2.CX Γ.prog Γ.w) Γ.prog Γ.w Γ.K mg base N qual (defScope st) f cdv A outer s H E) (defBody st) t ∧ t { nx := fun _ H' => Q .non H', rt := Q } (L2.start N vs) H) : FnG Γ mg base (k + 1) f fd ps sp := by
  obtain ⟨oc, od, kV, doc, pm, an, cdv, ct, osl, rfl, lk, hcd⟩ := F.ex
  constructor
  intro A hG outer s H args us vs Q E room env bnd rv hs
  have kin : Γ.K.In s.heap := env.mod.kin.keeps fun b o e => (env.bs b o e).1
  have nol : s.heap.NoLimit := env.mod.nolimit.keeps fun b o e => (env.bs b o e).1
  have kinds : ∀ z ∈ ps.zip us, (defScope st).names.lookup z.1 = some .local ∨ ((defScope st).names.lookup z.1 = some .cell ∧ ((cellsFrom (s.heap.objs.size + 1) (defScope st).names []).lookup z.1).isSome = true) := by
    intro z hz
    refine (S.par z.1 (List.of_mem_zip hz).1).imp id fun q => ⟨q, ?_⟩
    exact PySem.W.cellsFrom_some _ _ _ (.inl q)
  refine codeAny_call_function room.depth (kin _ _ lk) rfl S.co S.gen rfl (PySem.W.codeRec_of kin hcd) (bnd _ _ _ _ ?_)
  refine wpAny_newFunctionEnv_cells S.kind kinds ?_
  rintro e rfl s1 inC
  refine ⟨nol.keeps inC.toInCall.keep, codeAny_func ?_⟩
  obtain ⟨t, pss, ht⟩ := hb cdv A hG outer s H vs Q E (room.deeper _) hs
  refine wpAny_mono (pss.run [] s1 (L2.start N vs) H _ (inv_start S room.hd env (hlen _ _ _ _ hs) rv inC) ht) ?_ fun _ _ z => z
  intro fl s2 hfl
  match fl, hfl with
  | .ret u, ⟨v, σ2, H2, J, r2, q2⟩ => exact ⟨v, H2, J.os, J.bare, J.base, J.hok, r2, q2⟩
  | .next, ⟨σ2, H2, J, q2⟩ => exact ⟨.non, H2, J.os, J.bare, J.base, J.hok, rfl, q2⟩
  | .brk, ⟨_, _, _, z⟩ => exact z.elim
  | .cont, ⟨_, _, _, z⟩ => exact z.elim
theorem fn_defG {x qual : Str} {st : Stmt} {f : Addr} {fd : FuncData} {N ps : List Str} {k : Nat} {pb : List Bool} {m : Nat} {body : aS} (F : Fun Γ.K x qual st f fd) (S : FnScope N ps (defScope st)) (hl : ps.length = pb.length) (hm : N.length = m)
    (hb : ∀ (cdv : Value) (A : Around), A.guards = some [] → ∀ (outer : List Env) (s : Shared) (H : Hp) (E : XK), Room k (A.deeper (envOfC qual (defScope st) s.heap.objs.size f cdv)) →
      Takes (cxOf (L2.CX Γ.prog Γ.w) Γ.prog Γ.w Γ.K mg base N qual (defScope st) f cdv A outer s H E) (fun cls d _ H => E cls d H) →
      PassesOwn (model Γ.prog Γ.w) (cxOf (L2.CX Γ.prog Γ.w) Γ.prog Γ.w Γ.K mg base N qual (defScope st) f cdv A outer s H E).A (cxOf (L2.CX Γ.prog Γ.w) Γ.prog Γ.w Γ.K mg base N qual (defScope st) f cdv A outer s H E).env (cxOf (L2.CX Γ.prog Γ.w) Γ.prog Γ.w Γ.K mg base N qual (defScope st) f cdv A outer s H E).xe →
      ∃ t, AL (cxOf (L2.CX Γ.prog Γ.w) Γ.prog Γ.w Γ.K mg base N qual (defScope st) f cdv A outer s H E) Γ (kp pb) (fun cls d _ H => E cls d H) (defBody st) t body) :
    FnG Γ mg base (k + 1) f fd ps (spD Γ pb.length (aDef pb m body)) := by
  refine fnG_of F S (fun vs H Q E h => by rw [h.1, hl]) fun cdv A hG outer s H vs Q E hr h => ?_
  obtain ⟨t, at_⟩ := hb cdv A hG outer s H E hr (takes_of rfl rfl rfl rfl) (passes_of rfl)
  refine ⟨t, at_.pss, ?_⟩
  obtain ⟨hv, e, os, ho, r, k1⟩ := h
  have ent := enter_ok (R := []) hv ho (by rw [List.append_nil]; exact r)
  rw [List.append_nil] at ent
  obtain ⟨sl, sr⟩ := start_slots (vs := vs) (os := pre pb os) (m := m - pb.length) (by rw [pre_len ho, hv])
  have st0 : L2.start N vs = vs.map some ++ List.replicate (m - pb.length) none := by
    unfold L2.start
    rw [hm, hv]
  have s0 : SR Γ (kp pb) ⟨e, L2.start N vs⟩ (L2.start N vs) ((pre pb os).map some ++ List.replicate (m - pb.length) none) (keepT pb vs os) H := by
    rw [st0]
    exact ⟨sl, fun j _ => rfl, by rw [sr]; exact ent⟩
  have back : ∀ (X : List (V × O)) (σ : L2.St) (ρ : Store) (H' : Hp) (os' : List O), SR Γ (kp pb) ⟨e, L2.start N vs⟩ σ ρ (X ++ keepT pb vs os) H' → outs pb os ρ = some os' → RS Γ e (X ++ vs.zip os') H' := by
    intro X σ ρ H' os' q eo
    obtain ⟨Y, p⟩ := leave_ok q.ok hv (fun j hj => by
      have hj' : kp pb j = true := by
        show pb.getD j false = true
        rw [List.getD_eq_getElem?_getD, hj]
        rfl
      rw [q.fix j hj']
      show (L2.start N vs)[j]? = _
      rw [st0]
      have hlt : j < vs.length := by
        rw [hv]
        exact (List.getElem?_eq_some_iff.mp hj).1
      rw [List.getElem?_append_left (by rw [List.length_map]; exact hlt), List.getElem?_map]) eo
    have q1 : RS Γ e (Y ++ (X ++ vs.zip os')) H' := q.rs.perm (by
      refine (List.perm_append_comm_assoc _ _ _).trans ?_
      refine (List.Perm.append_left _ p).trans ?_
      exact List.perm_append_comm_assoc _ _ _)
    exact q1.dropL
  refine at_.sx ⟨e, L2.start N vs⟩ (L2.start N vs) _ (keepT pb vs os) H _ s0 ?_
  unfold aDef at k1
  rw [if_pos ho] at k1
  cases eb : body ((pre pb os).map some ++ List.replicate (m - pb.length) none) with
  | nx ρ =>
    rw [eb] at k1
    simp only at k1
    cases eo : outs pb os ρ with
    | none => rw [eo] at k1; exact k1.elim
    | some os' =>
      rw [eo] at k1
      exact fun σ H' q => k1.2 _ _ ((back [] σ ρ H' os' q eo).pure fun _ => .non)
  | brk ρ => rw [eb] at k1; exact k1.elim
  | ct ρ => rw [eb] at k1; exact k1.elim
  | ret o ρ =>
    rw [eb] at k1
    simp only at k1
    cases eo : outs pb os ρ with
    | none => rw [eo] at k1; exact k1.elim
    | some os' =>
      rw [eo] at k1
      exact fun σ v H' q => k1.2 _ _ (back [(v, o)] σ ρ H' os' q eo)
  | exc x ρ =>
    rw [eb] at k1
    simp only at k1
    cases eo : outs pb os ρ with
    | none => rw [eo] at k1; exact k1.elim
    | some os' =>
      rw [eo] at k1
      refine fun σ cls d H' q => k1.2 cls d H' ?_
      obtain ⟨ec, q⟩ := q
      refine ⟨ec, ?_⟩
      obtain ⟨xc, xfs⟩ := x
      cases xfs with
      | none => exact ⟨q.1, back [] σ ρ H' os' q.2 eo⟩
      | some fs =>
        obtain ⟨dd, e1, q⟩ := q
        exact ⟨dd, e1, back [(.ref dd, .sh (.xd fs))] σ ρ H' os' q eo⟩
  | stuck => rw [eb] at k1; exact k1.elim
/-! ### the law's end -/
theorem law_goes {P : Program} {w : World} {K : PySem.W.Frag} {cls : Nat → Addr} {mg mb : Str → Option Value} {k : Nat} {fa a : Addr} {fd : FuncData} {s : Shared} {vs : List Value} {ns : List Int} {den : aF}
    (KX : K.In s.heap) (n1 : s.heap.Ns mainGlobals mg) (n2 : s.heap.Ns builtinsNs mb) (n3 : ∀ x : Str, x ≠ "__name__" → mb x = bootBuiltins x) (nl : s.heap.NoLimit) (gs : s.gens = #[])
    (obj : s.heap.get? a = some { cls := .type "list", data := .seq vs.toArray }) (isI : IntsAre vs ns) (len : ns.length ≤ 63) (room : Room k callerA)
    (F : ∀ base : Heap, K.In base → base.Ns mainGlobals mg → FnG ⟨P, w, K, cls⟩ mg base k fa fd ["script"] (spD ⟨P, w, K, cls⟩ 1 den)) (bnd : ∀ (s : Shared) (u : Value), BindsTo s fd ⟨[u], []⟩ [("script", u)])
    (yes : ∃ os', den [.sh (.wls (ns.map D.int))] = .ret (.sh (.bl true)) os' ∧ os'.length = 1) :
    codeAny (model P w) callerA (.call (.ref fa) ⟨[.ref a], []⟩) (fun r s' => r = .ok (.ret (.bool true)) ∧ OldK s.heap s'.heap ∧ s'.os = s.os ∧ AllBare s'.gens) s := by
  have vals := vals_ints isI
  have sz : ns.length ≤ sizeLine := by rw [sizeLine_eq]; omega
  have eqlen := isI.length
  -- what is tracked: the script, where the written part does not hold it
  obtain ⟨H, only, sq, hok, ha, hk⟩ : ∃ H : Hp, Only H ∧ SqL K H a (ns.map V.int) ∧ HOk P w H s.heap ∧ (∀ b, H b ≠ none → b = a) ∧ (H a ≠ none → K.lookup a = none) := by
    cases e : K.lookup a with
    | some o =>
      have q := KX a o e
      rw [obj] at q
      cases q
      exact ⟨fun _ => none, fun _ => .inl rfl, .inr ⟨_, vs.toArray, _, e, rfl, rfl, rfl, by rw [List.size_toArray, eqlen]; exact sz, by simpa using vals⟩, (fun b u z => by cases (show (none : Option HO) = some u from z)), fun b z => (z rfl).elim, fun z => (z rfl).elim⟩
    | none =>
      refine ⟨fun b => if b = a then some (.frz { cls := .type "list", data := .seq vs.toArray } (.lst (ns.map V.int))) else none, fun b => ?_, .inl (.inr ⟨_, if_pos rfl⟩), fun b u z => ?_, fun b z => ?_, fun _ => rfl⟩
      · by_cases q : b = a
        · exact .inr ⟨_, _, if_pos q⟩
        · exact .inl (if_neg q)
      · by_cases q : b = a
        · subst q
          cases (if_pos rfl).symm.trans z
          exact ⟨obj, by rw [List.length_map]; exact sz, vs, _, vals, obj⟩
        · cases (if_neg q).symm.trans z
      · by_cases q : b = a
        · exact q
        · exact (z (if_neg q)).elim
  have free : ∀ {b : Addr} {o : Obj} {es : Array DictEntry} {ep : Nat}, s.heap.get? b = some o → o.data = .dict es ep → H b = none := by
    intro b o es ep e d
    cases q : H b with
    | none => rfl
    | some u =>
      have z := ha b (by rw [q]; simp)
      subst z
      rw [obj] at e
      cases e
      cases d
  have ns' : ∀ {b : Addr} {m : Str → Option Value}, s.heap.Ns b m → (hidT s.heap H).Ns b m := fun {b m} h => by
    obtain ⟨o, es, ep, e, d, r⟩ := h
    exact ⟨o, es, ep, hidT_get e (free e d), d, r⟩
  have kin : K.In (hidT s.heap H) := fun b o e => hidT_get (KX b o e) (by
    cases q : H b with
    | none => rfl
    | some u =>
      have z := ha b (by rw [q]; simp)
      subst z
      rw [hk (by rw [q]; simp)] at e
      cases e)
  obtain ⟨ml, l1, l2⟩ := nl
  have env : Env0 P w K mg (hidT s.heap H) callerA [] s H :=
    ⟨rfl, ⟨kin, ns' n1, ⟨mb, ns' n2, n3⟩, ml, ns' l1, l2⟩, fun b o e => of_hidT e, Nat.le_of_eq (hidT_size _ _), trivial, fun b hb => (by cases (show b ∈ ([] : List Addr) from hb)), hok, .of_eq gs⟩
  refine codeAny_mono ((F _ kin (ns' n1)).go callerA rfl [] s H ⟨[.ref a], []⟩ [.ref a] [.ref a] _ _ room env (bnd s (.ref a)) (.cons rfl .nil) (sp_law only sq yes)) ?_
  intro r s2 h
  match r, h with
  | .error e, h => exact (cx_none h).elim
  | .ok .next, h => exact False.elim h
  | .ok .brk, h => exact False.elim h
  | .ok .cont, h => exact False.elim h
  | .ok (.ret u), ⟨v, H2, os2, bare, un, hok2, rv, q⟩ =>
    have q' : v = .bl true := q
    subst q'
    have ru : u = Value.bool true := rv
    subst ru
    refine ⟨rfl, OldK.of_keep fun b o e => ?_, os2, bare⟩
    cases q : H b with
    | none => exact un.keep b o e q (fun z => by cases (show b ∈ ([] : List Addr) from z)) (by simp)
    | some u =>
      rcases only b with z | ⟨ob, xs, z⟩
      · rw [q] at z; cases z
      · obtain ⟨e1, _⟩ := hok b _ z
        obtain ⟨e2, _⟩ := hok2 b _ (un.frzs b ob _ z)
        rw [e] at e1
        cases e1
        exact e2
theorem walk_denG {l : PySem.W.OpenLaw} {k : Nat} {q : Program} {loose : List Str} {XP : (Str → Option Value) → Heap → Prop} {YP : World → Heap → Prop} {d : DefRec} {K : Params → PySem.W.Frag} {den : aF} {cls : Nat → Addr} (hn : l.most = some 63) (hdf : d.params.defaults = []) (hr : Room k callerA)
    (hY : ∀ (w : World) (h : Heap), YP w h → (K w.params).In h)
    (F : ∀ (w : World) (mg : Str → Option Value) (fa : Addr) (h : Heap), (K w.params).In h → h.Ns mainGlobals mg → mg d.name = some (.ref fa) →
      ∃ fd : FuncData, (∀ (s : Shared) (u : Value), BindsTo s fd ⟨[u], []⟩ [("script", u)]) ∧ ∀ base : Heap, (K w.params).In base → base.Ns mainGlobals mg → FnG ⟨l.prog, w, K w.params, cls⟩ mg base k fa fd ["script"] (spD ⟨l.prog, w, K w.params, cls⟩ 1 den))
    (hL : ∀ ns : List Int, ns.length ≤ 63 → ∃ os', den [.sh (.wls (ns.map D.int))] = .ret (.sh (.bl true)) os' ∧ os'.length = 1) :
    PySem.W.WalkO q loose XP YP l.row.toRowW d [] (fun f vs => PySem.call f vs) := by
  refine Att.attach_call hn hdf ?_
  intro w s₀ s mg mb fa o pm cd doc a vs ns G Y ho hd hcd hmg obj isI len gs
  obtain ⟨fd, hb, hF⟩ := F w mg fa _ (hY w _ Y) G.T.g hmg
  exact law_goes (hY w _ Y) G.T.g G.T.b G.T.builtins G.T.nolimit gs obj isI len hr hF hb (hL ns len)
end
end Den
end
section
/-! Den, part X: sets of keys of a kind, with an order to be walked; sorted(set(texts)). -/
namespace Den
open PySem L2 PySem.Spec PyProof.Rows
section
variable {P : Program} {w : World} {KT : Type} [DecidableEq KT] [Inhabited KT] (knd : KeyKind P w KT)
open Classical in
/-- the key that an entry holds -/
noncomputable def keyW (e : Int × Value) : KT := if h : ∃ k, knd.is k e.2 = true then h.choose else default
theorem keyW_is {e : Int × Value} {k : KT} (h : knd.is k e.2 = true) : keyW knd e = k := by
  have hx : ∃ k, knd.is k e.2 = true := ⟨k, h⟩
  unfold keyW
  rw [dif_pos hx]
  exact knd.inj _ _ _ hx.choose_spec h
theorem keyW_mem {l : List (Int × Value)} (g : ElemsOf knd l) (k : KT) : k ∈ l.map (keyW knd) ↔ ∃ e ∈ l, knd.is k e.2 = true := by
  rw [List.mem_map]
  constructor
  · rintro ⟨e, he, rfl⟩
    obtain ⟨⟨k, hk, _⟩, _⟩ := g e he
    exact ⟨e, he, by rw [keyW_is knd hk]; exact hk⟩
  · rintro ⟨e, he, hk⟩
    exact ⟨e, he, keyW_is knd hk⟩
/-- the set at a holds the keys L, each once -/
def SetW (h : Heap) (a : Addr) (L : List KT) : Prop :=
  ∃ o es ep t, h.get? a = some o ∧ o.ExactSet ∧ o.data = .set es ep t ∧ ElemsOf knd es.toList ∧ (es.toList.map (keyW knd)).Perm L ∧ L.Nodup ∧ es.size < scanBound ∧ t.fits es.size = true ∧ Ris t.place.toList ∧
    (w.params.followText "set-order" = true ∨ t.led = true)
variable {knd}
theorem SetW.at {h h' : Heap} {a : Addr} {L : List KT} (R : SetW knd h a L) (k : ∀ o, h.get? a = some o → h'.get? a = some o) : SetW knd h' a L := by
  obtain ⟨o, es, ep, t, go, rest⟩ := R
  exact ⟨o, es, ep, t, k o go, rest⟩
variable {A : Around} {E : Value → Shared → Prop} {s : Shared} {a : Addr} {L : List KT}
theorem setW_tail {g : Bool → Sem Unit} (gq : ∀ (b : Bool) (s₁ : Shared) (Z : Unit → Shared → Prop), Z () s₁ → wpAny (model P w) A (g b) Z E s₁) {o : Obj} {us vs : Array (Int × Value)} {ep : Nat} {t tt : SetTable}
    (go : s.heap.get? a = some o) (ex : o.ExactSet) (od : o.data = .set us ep t) (el : ElemsOf knd vs.toList) (pm : (vs.toList.map (keyW knd)).Perm L) (nd : L.Nodup) (few : vs.size < scanBound) (fit : tt.fits vs.size = true) (ris : Ris tt.place.toList)
    (led : w.params.followText "set-order" = true ∨ tt.led = true) {dm : Bool} {R : Option Bool → Shared → Prop} (fin : ∀ h', Heap.SameBut a s.heap h' → SetW knd h' a L → R (some true) { s with heap := h' }) :
    wpAny (model P w) A (do { storeSet a vs tt; if (!dm && tt.tooFull) = true then do { g (relayAll tt vs (SetTable.grown vs.size)).2.2; storeSet a (relayAll tt vs (SetTable.grown vs.size)).1 (relayAll tt vs (SetTable.grown vs.size)).2.1; pure (some true) } else pure (some true) }) R E s := by
  refine wpAny_bind (wpAny_storeSet_of go od ?_ (fits_of_scanBound few))
  have go1 := store_at (es' := vs) (t' := tt) go od
  have sb := Heap.SameBut.update s.heap a (Obj.putSet vs tt)
  split
  · have pm2 := relayAll_perm tt vs (SetTable.grown vs.size)
    have fit2 := relayAll_fits tt vs (SetTable.grown vs.size)
    have ris2 := relayAll_ris tt vs (SetTable.grown vs.size)
    have led2 := relayAll_led tt vs (SetTable.grown vs.size)
    generalize relayAll tt vs (SetTable.grown vs.size) = Y at pm2 fit2 ris2 led2 ⊢
    obtain ⟨ws, t3, gave⟩ := Y
    dsimp only at pm2 fit2 ris2 led2 ⊢
    have sz : ws.size = vs.size := by rw [← Array.length_toList, pm2.length_eq, Array.length_toList]
    refine wpAny_bind (gq _ _ _ ?_)
    refine wpAny_bind (wpAny_storeSet_of go1 rfl ?_ (fits_of_scanBound (by rw [sz]; exact few)))
    have go2 := store_at (es' := ws) (t' := t3) go1 rfl
    refine wpAny_pure (fin _ (sb.trans (Heap.SameBut.update _ a _)) ?_)
    exact ⟨_, ws, _, t3, go2, ex, rfl, fun e he => el e (pm2.mem_iff.mp he), (pm2.map _).trans pm, nd, by rw [sz]; exact few, fit2, ris2, led.imp id fun z => by rw [led2]; exact z⟩
  · exact wpAny_pure (fin _ sb ⟨_, vs, _, tt, go1, ex, rfl, el, pm, nd, few, fit, ris, led⟩)
def addK (L : List KT) (k : KT) : List KT := if k ∈ L then L else k :: L
theorem setW_add {k : KT} {v : Value} {Q : Bool → Shared → Prop} (R : SetW knd s.heap a L) (room : L.length + 1 < scanBound) (hk : knd.is k v = true) (sc : v.scannable = true)
    (fin : ∀ h' b, Heap.SameBut a s.heap h' → SetW knd h' a (addK L k) → Q b { s with heap := h' }) : wpAny (model P w) A (setAddHashed a v (knd.hash k)) Q E s := by
  obtain ⟨o, us, ep, t, go, ex, od, el, pm, nd, few, fit, ris, led⟩ := R
  have szL : us.size = L.length := by rw [← pm.length_eq, List.length_map, Array.length_toList]
  unfold setAddHashed setAddHashedIn
  refine wpAny_holding (wpAny_bind (wpAny_setState_of go od fit ?_))
  dsimp only
  rw [byScan_of sc few el]
  simp only [↓reduceIte]
  unfold setAddByScan
  refine wpAny_bind ?_
  refine wpAny_bind (wpAny_rule ?_)
  refine wpAny_bind (wpAny_setScan_of hk go od fit el ?_)
  cases hf : List.findIdx? (fun e => knd.is k e.2) us.toList with
  | some j =>
    dsimp only
    obtain ⟨hj, pj, _⟩ := List.findIdx?_eq_some_iff_getElem.mp hf
    have hkL : k ∈ L := pm.mem_iff.mp ((keyW_mem knd el k).mpr ⟨us.toList[j], List.getElem_mem hj, pj⟩)
    refine wpAny_pure (wpAny_pure ?_)
    refine fin s.heap false (Heap.SameBut.refl a s.heap) ?_
    unfold addK
    rw [if_pos hkL]
    exact ⟨o, us, ep, t, go, ex, od, el, pm, nd, few, fit, ris, led⟩
  | none =>
    dsimp only
    have hkL : k ∉ L := fun z => by
      obtain ⟨e, he, q⟩ := (keyW_mem knd el k).mp (pm.mem_iff.mpr z)
      have c := List.findIdx?_eq_none_iff.mp hf e he
      rw [q] at c
      cases c
    have way : ∀ (b : Bool) {s₁ : Shared} {Z : Unit → Shared → Prop}, Z () s₁ → wpAny (model P w) A (match b with | true => rule "set.scan.the-table-gave-way" | false => pure ()) Z E s₁ := by
      intro b s₁ Z q
      cases b
      · exact wpAny_pure q
      · exact wpAny_rule q
    have pm1 := layNew_perm t us (knd.hash k) v
    have fit1 := layNew_fits t us (knd.hash k) v
    have ris1 := layNew_ris t us (knd.hash k) v ris
    have led1 := layNew_led t us (knd.hash k) v
    generalize layNew t us (knd.hash k) v = Y at pm1 fit1 ris1 led1 ⊢
    obtain ⟨vs, t1, dm, gave⟩ := Y
    dsimp only at pm1 fit1 ris1 led1 ⊢
    rw [Array.toList_push] at pm1
    have pc : vs.toList.Perm ((knd.hash k, v) :: us.toList) := pm1.trans (List.perm_append_singleton _ _)
    have kk : keyW knd (knd.hash k, v) = k := keyW_is knd hk
    have pk : (vs.toList.map (keyW knd)).Perm (addK L k) := by
      have := pc.map (keyW knd)
      rw [List.map_cons, kk] at this
      unfold addK
      rw [if_neg hkL]
      exact this.trans (pm.cons k)
    have ndk : (addK L k).Nodup := by
      unfold addK
      rw [if_neg hkL]
      exact List.nodup_cons.mpr ⟨hkL, nd⟩
    have el1 : ElemsOf knd vs.toList := fun e he => by
      rcases List.mem_cons.mp (pc.mem_iff.mp he) with z | z
      · rw [z]; exact ⟨⟨k, hk, rfl⟩, sc⟩
      · exact el e z
    have few1 : vs.size < scanBound := by
      have : vs.size = us.size + 1 := by rw [← Array.length_toList, pc.length_eq, List.length_cons, Array.length_toList]
      omega
    have ledX : w.params.followText "set-order" = true ∨ t1.led = true := led.imp id fun z => by rw [led1]; exact z
    refine wpAny_bind (way _ ?_)
    split
    · refine wpAny_bind ?_
      rw [hashByValue_scannable 8 sc]
      refine wpAny_pure ?_
      refine setW_tail ?_ go ex od el1 pk ndk few1 ?_ ?_ ?_ ?_
      · intro b s₁ Z q; cases b <;> first | exact wpAny_pure q | exact wpAny_rule q
      · first | (split <;> first | exact fit1 | exact SetTable.fits_plain_off fit1) | exact fit1
      · first | (split <;> exact ris1) | exact ris1
      · first | (split <;> exact ledX) | exact ledX
      · intro h' sb r; dsimp only; exact wpAny_pure (fin h' true sb r)
    · refine wpAny_bind (wpAny_pure ?_)
      simp only [↓reduceIte]
      refine setW_tail ?_ go ex od el1 pk ndk few1 fit1 ris1 ledX ?_
      · intro b s₁ Z q; cases b <;> first | exact wpAny_pure q | exact wpAny_rule q
      · intro h' sb r; dsimp only; exact wpAny_pure (fin h' true sb r)
end
end Den
end
section
/-! Den, part Y: set(xs) of a list, of a tuple. -/
namespace Den
open PySem L2 PySem.Spec PyProof.Rows
section
variable {P : Program} {w : World} {KT : Type} [DecidableEq KT] [Inhabited KT] {knd : KeyKind P w KT} {A : Around} {E : Value → Shared → Prop} {s : Shared}
theorem addK_len (L : List KT) (k : KT) : (addK L k).length ≤ L.length + 1 := by
  unfold addK
  split
  · omega
  · simp
theorem addAll_len : ∀ (ks L : List KT), (ks.foldl addK L).length ≤ L.length + ks.length
  | [], L => by simp
  | k :: ks, L => by
    have h1 := addAll_len ks (addK L k)
    have h2 := addK_len L k
    rw [List.foldl_cons, List.length_cons]
    omega
theorem setW_loop {I : Addr} {fp wr : List Addr} {G : Array GenState → Array GenState → Prop} {n : Nat} {Pv : Nat → Value → Prop} {St : Nat → Shared → Prop} {R : Result → Shared → Prop} (W : WalksS P w A.in1 I fp wr G n Pv St) (S : Addr) (away : S ∉ fp) (ks : List KT)
    (hn : n = ks.length) (few : ks.length + 1 < scanBound) (val : ∀ i v, Pv i v → ∃ k, ks[i]? = some k ∧ knd.is k v = true ∧ v.scannable = true) :
    ∀ (m i : Nat) (s : Shared), n - i = m → i ≤ n → St i s → SetW knd s.heap S ((ks.take i).foldl addK []) → (∀ s', Moved (S :: wr) G s s' → SetW knd s'.heap S (ks.foldl addK []) → R (.ok (.ret .none)) s') →
      codeAny (model P w) A (.builtin "set.update.loop" ⟨[.ref S, .ref I], []⟩) R s := by
  have hw : S ∉ wr := fun z => away (W.sub _ z)
  have up : ∀ b ∈ wr, b ∈ S :: wr := fun b z => List.mem_cons_of_mem _ z
  intro m
  induction m with
  | zero =>
    intro i s hm hi st hS fin
    obtain rfl : i = n := by omega
    refine codeAny_builtin F.entry_set_update_loop ?_
    rw [Around.under_plainId F.plain_set_update_loop _]
    change wpAny _ A.in1 (pyNext (.ref I) >>= _) _ _ s
    refine wpAny_bind (W.done s _ _ st fun s2 mv => ?_)
    change wpAny _ A.in1 (ret Value.none) _ _ s2
    rw [List.take_of_length_le (by omega)] at hS
    exact wpAny_pure (fin s2 (mv.mono up) (hS.at fun o e => mv.heap S o hw e))
  | succ m ih =>
    intro i s hm hi st hS fin
    have lt : i < n := by omega
    refine codeAny_builtin F.entry_set_update_loop ?_
    rw [Around.under_plainId F.plain_set_update_loop _]
    change wpAny _ A.in1 (pyNext (.ref I) >>= _) _ _ s
    refine wpAny_bind (W.item i s _ _ lt st fun v s2 pv st2 mv => ?_)
    obtain ⟨k, ek, hk, sc⟩ := val i v pv
    have hS2 : SetW knd s2.heap S ((ks.take i).foldl addK []) := hS.at fun o e => mv.heap S o hw e
    change wpAny _ A.in1 (holding [v] (setAdd S v) >>= _) _ _ s2
    refine wpAny_bind (wpAny_holding ?_)
    unfold setAdd
    refine wpAny_holding ?_
    refine wpAny_bind (knd.pyHash hk ?_)
    have room : ((ks.take i).foldl addK []).length + 1 < scanBound := by
      have := addAll_len (ks.take i) []
      rw [List.length_take] at this
      simp only [List.length_nil] at this
      omega
    refine setW_add (s := { s2 with toks := s2.toks + 1 }) hS2 room hk sc fun h' b sb hS3 => ?_
    have e3 : addK ((ks.take i).foldl addK []) k = (ks.take (i + 1)).foldl addK [] := by
      rw [List.take_add_one, ek, List.foldl_append]
      rfl
    rw [e3] at hS3
    refine wpAny_pure ⟨plainId_quiet F.plain_set_update_loop _, ih (i + 1) _ (by omega) lt (W.frame _ s2 _ _ st2 (Nat.le_succ _) fun b hb o e => ?_) hS3 fun s4 mv4 hS4 => ?_⟩
    · rw [sb.2 b (fun z : b = S => away (by rw [← z]; exact hb))]; exact e
    · refine fin s4 (Moved.trans W.gtrans ((mv.mono up).then_heap (Nat.le_succ _) fun b o hb e => ?_) mv4) hS4
      rw [sb.2 b (fun z : b = S => hb (by rw [z]; exact List.mem_cons_self))]; exact e
theorem setW_fresh {h : Heap} {a : Addr} (go : h.get? a = some { cls := .type "set", dict := none, data := .set #[] 0 (.fresh 0 0 (!w.params.followText "set-order")) }) : SetW knd h a [] := by
  refine ⟨_, #[], 0, _, go, ⟨rfl, rfl, rfl⟩, rfl, (fun e he => by simp at he), (by simp), .nil, (by decide), (by rfl), List.Pairwise.nil, ?_⟩
  show _ ∨ (!w.params.followText "set-order") = true
  cases w.params.followText "set-order" <;> simp

set_option maxHeartbeats 3200000 in
theorem call_setW_list {l : Addr} {items : Array Value} (ks : List KT) {Q : Value → Shared → Prop} (cold : A.handled = none) (row : s.heap.IsList l items) (val : ∀ (i : Nat) (v : Value), items[i]? = some v → ∃ k, ks[i]? = some k ∧ knd.is k v = true ∧ v.scannable = true) (szs : items.size = ks.length)
    (few : ks.length + 1 < scanBound) (fin : ∀ (h' : Heap) (tk : Nat), SetW knd h' s.heap.objs.size (ks.foldl addK []) → (∀ b o, s.heap.get? b = some o → h'.get? b = some o) → Q (.ref s.heap.objs.size) { s with heap := h', toks := tk }) :
    wpAny (model P w) A (call (.type "set") [.ref l]) Q E s := by
  obtain ⟨so, hso⟩ : ∃ so : Obj, so = { cls := .type "set", dict := none, data := .set #[] 0 (.fresh 0 0 (!w.params.followText "set-order")) } := ⟨_, rfl⟩
  obtain ⟨c, tl, hmro⟩ := F.called_set.mro
  have h_made := F.called_set.made
  have h_sub := F.called_set.sub
  refine wpAny_call (codeAny_of_tree ?_)
  change wpAny _ _ (callAny (.type "set") _) _ _ _
  refine wpAny_pure ⟨Code.quiet_builtin _ (by decide +kernel), codeAny_builtin F.entry_type_call ?_⟩
  rw [Around.under_plain (weight_type_call_type "set" [.ref l] []) rfl]
  have h_1 := F.called_set.notType
  have h_2 := F.called_set.canCreate
  have h_3 := F.typeCall_set_1 (.ref l)
  repeat (any_goals (first | assumption | wp_step))
  refine codeAny_mono (code_set_led1 (.ref l) (E := E) (Q₁ := fun obj z => obj = .ref s.heap.objs.size ∧ z = { s with heap := s.heap.push so }) ⟨rfl, by rw [hso]⟩) ?_
  intro r z hr
  match r, hr with
  | .error e, hr => exact hr
  | .ok .next, hr => exact hr.elim
  | .ok .brk, hr => exact hr.elim
  | .ok .cont, hr => exact hr.elim
  | .ok (.ret obj), hr =>
    obtain ⟨rfl, rfl⟩ := hr
    have hS : (s.heap.push so).get? s.heap.objs.size = some so := Heap.get?_push_size _ (by rw [hso]; rfl)
    have hT : Shared.TypeIs { s with heap := s.heap.push so } (.ref s.heap.objs.size) "set" := ⟨so, hS, by rw [hso]⟩
    have h_4 := F.called_set.init.lookup
    have h_5 := F.called_set.init.bind (.ref s.heap.objs.size)
    repeat (any_goals (first | assumption | wp_step))
    refine codeAny_mono (codeAny_call_builtin (R := wants (fun r z => r = .none ∧ ∃ h' tk, z = { s with heap := h', toks := tk } ∧ SetW knd h' s.heap.objs.size (ks.foldl addK []) ∧ ∀ b o, s.heap.get? b = some o → h'.get? b = some o) E) F.called_set.init.plain F.entry_set_init (check_set_init_1 hT ?_)) ?_
    · obtain ⟨⟨_, od, _, osl⟩, hol, hcl, nl, hdl⟩ := row
      simp only at hcl hdl
      subst hcl hdl
      have hol2 : (s.heap.push so).get? l = some { cls := .type "list", dict := od, data := .seq items nl, slots := osl } := Heap.get?_push_of_some _ hol
      have h_6 := F.sub_list_set
      have h_7 := F.sub_list_frozenset
      have h_8 : (Value.type "list" == Value.type "dict") = false := by decide
      have row2 : (s.heap.push so).IsList l items := ⟨_, hol2, rfl, nl, rfl⟩
      have lS : l < s.heap.objs.size := Heap.lt_size hol
      have szp : (s.heap.push so).objs.size = s.heap.objs.size + 1 := Heap.size_push ..
      have lI : l ≠ (s.heap.push so).objs.size := by rw [szp]; exact Nat.ne_of_lt (Nat.lt_succ_of_lt lS)
      have away : s.heap.objs.size ∉ [(s.heap.push so).objs.size, l] := by
        rw [szp]
        simp only [List.mem_cons, List.not_mem_nil, or_false, not_or]
        exact ⟨Nat.ne_of_lt (Nat.lt_succ_self _), Nat.ne_of_gt lS⟩
      subst hso
      unfold Builtin.«set.__init__» noKeywords Builtin.Frozenset.updateFrom
      generalize hPI : pyIter = PI
      wp_walk
      subst hPI
      refine wpAny_pyIter_list row2 ?_
      refine wpAny_bind (wpAny_runValue ?_)
      have cold3 : A.in1.in1.in1.handled = none := by simp [cold]
      refine setW_loop ((Walks.list cold3 _ l lI items).toS) s.heap.objs.size away ks szs few val (items.size - 0) 0 _ (by omega) (Nat.zero_le _) ⟨⟨_, Heap.get?_push_size _ rfl, rfl, rfl⟩, (row2.push _)⟩ ?_ ?_
      · rw [List.take_zero]
        exact setW_fresh (Heap.get?_push_of_some _ hS)
      · intro z mv hS2
        obtain ⟨h', g2, d', tk', os'⟩ := z
        obtain rfl : g2 = s.gens := mv.gens
        obtain rfl : d' = s.drawn := mv.drawn
        obtain rfl : os' = s.os := mv.os
        change wpAny _ _ _ _ _ _
        refine wpAny_pure ?_
        change wpAny _ _ (ret Value.none) _ _ _
        refine wpAny_pure ⟨rfl, h', tk', rfl, hS2, fun b o e => ?_⟩
        have b1 : b < s.heap.objs.size := Heap.lt_size e
        refine mv.heap b o ?_ (Heap.get?_push_of_some _ (Heap.get?_push_of_some _ e))
        simp only [List.mem_cons, List.not_mem_nil, or_false, not_or]
        rw [szp]
        exact ⟨Nat.ne_of_lt b1, Nat.ne_of_lt (Nat.lt_succ_of_lt b1)⟩
    · intro r2 z2 hr2
      match r2, hr2 with
      | .error e, hr2 => exact hr2
      | .ok .next, hr2 => exact hr2.elim
      | .ok .brk, hr2 => exact hr2.elim
      | .ok .cont, hr2 => exact hr2.elim
      | .ok (.ret r), hr2 =>
        obtain ⟨rfl, h', tk, rfl, hS2, keep⟩ := hr2
        repeat (any_goals (first | assumption | wp_step))
        exact fin _ _ hS2 keep

set_option maxHeartbeats 3200000 in
theorem call_setW_tuple {l : Addr} {items : Array Value} (ks : List KT) {Q : Value → Shared → Prop} (cold : A.handled = none) (row : s.heap.IsTuple l items) (val : ∀ (i : Nat) (v : Value), items[i]? = some v → ∃ k, ks[i]? = some k ∧ knd.is k v = true ∧ v.scannable = true) (szs : items.size = ks.length)
    (few : ks.length + 1 < scanBound) (fin : ∀ (h' : Heap) (tk : Nat), SetW knd h' s.heap.objs.size (ks.foldl addK []) → (∀ b o, s.heap.get? b = some o → h'.get? b = some o) → Q (.ref s.heap.objs.size) { s with heap := h', toks := tk }) :
    wpAny (model P w) A (call (.type "set") [.ref l]) Q E s := by
  obtain ⟨so, hso⟩ : ∃ so : Obj, so = { cls := .type "set", dict := none, data := .set #[] 0 (.fresh 0 0 (!w.params.followText "set-order")) } := ⟨_, rfl⟩
  obtain ⟨c, tl, hmro⟩ := F.called_set.mro
  have h_made := F.called_set.made
  have h_sub := F.called_set.sub
  refine wpAny_call (codeAny_of_tree ?_)
  change wpAny _ _ (callAny (.type "set") _) _ _ _
  refine wpAny_pure ⟨Code.quiet_builtin _ (by decide +kernel), codeAny_builtin F.entry_type_call ?_⟩
  rw [Around.under_plain (weight_type_call_type "set" [.ref l] []) rfl]
  have h_1 := F.called_set.notType
  have h_2 := F.called_set.canCreate
  have h_3 := F.typeCall_set_1 (.ref l)
  repeat (any_goals (first | assumption | wp_step))
  refine codeAny_mono (code_set_led1 (.ref l) (E := E) (Q₁ := fun obj z => obj = .ref s.heap.objs.size ∧ z = { s with heap := s.heap.push so }) ⟨rfl, by rw [hso]⟩) ?_
  intro r z hr
  match r, hr with
  | .error e, hr => exact hr
  | .ok .next, hr => exact hr.elim
  | .ok .brk, hr => exact hr.elim
  | .ok .cont, hr => exact hr.elim
  | .ok (.ret obj), hr =>
    obtain ⟨rfl, rfl⟩ := hr
    have hS : (s.heap.push so).get? s.heap.objs.size = some so := Heap.get?_push_size _ (by rw [hso]; rfl)
    have hT : Shared.TypeIs { s with heap := s.heap.push so } (.ref s.heap.objs.size) "set" := ⟨so, hS, by rw [hso]⟩
    have h_4 := F.called_set.init.lookup
    have h_5 := F.called_set.init.bind (.ref s.heap.objs.size)
    repeat (any_goals (first | assumption | wp_step))
    refine codeAny_mono (codeAny_call_builtin (R := wants (fun r z => r = .none ∧ ∃ h' tk, z = { s with heap := h', toks := tk } ∧ SetW knd h' s.heap.objs.size (ks.foldl addK []) ∧ ∀ b o, s.heap.get? b = some o → h'.get? b = some o) E) F.called_set.init.plain F.entry_set_init (check_set_init_1 hT ?_)) ?_
    · obtain ⟨⟨_, od, _, osl⟩, hol, hcl, nl, hdl⟩ := row
      simp only at hcl hdl
      subst hcl hdl
      have hol2 : (s.heap.push so).get? l = some { cls := .type "tuple", dict := od, data := .seq items nl, slots := osl } := Heap.get?_push_of_some _ hol
      have h_6 := F.sub_tuple_set
      have h_7 := F.sub_tuple_frozenset
      have h_8 : (Value.type "tuple" == Value.type "dict") = false := by decide
      have row2 : (s.heap.push so).IsTuple l items := ⟨_, hol2, rfl, nl, rfl⟩
      have lS : l < s.heap.objs.size := Heap.lt_size hol
      have szp : (s.heap.push so).objs.size = s.heap.objs.size + 1 := Heap.size_push ..
      have lI : l ≠ (s.heap.push so).objs.size := by rw [szp]; exact Nat.ne_of_lt (Nat.lt_succ_of_lt lS)
      have away : s.heap.objs.size ∉ [(s.heap.push so).objs.size, l] := by
        rw [szp]
        simp only [List.mem_cons, List.not_mem_nil, or_false, not_or]
        exact ⟨Nat.ne_of_lt (Nat.lt_succ_self _), Nat.ne_of_gt lS⟩
      subst hso
      unfold Builtin.«set.__init__» noKeywords Builtin.Frozenset.updateFrom
      generalize hPI : pyIter = PI
      wp_walk
      subst hPI
      refine wpAny_pyIter_tuple row2 ?_
      refine wpAny_bind (wpAny_runValue ?_)
      have cold3 : A.in1.in1.in1.handled = none := by simp [cold]
      refine setW_loop ((Walks.tuple cold3 _ l lI items).toS) s.heap.objs.size away ks szs few val (items.size - 0) 0 _ (by omega) (Nat.zero_le _) ⟨⟨_, Heap.get?_push_size _ rfl, rfl, rfl⟩, (row2.push _)⟩ ?_ ?_
      · rw [List.take_zero]
        exact setW_fresh (Heap.get?_push_of_some _ hS)
      · intro z mv hS2
        obtain ⟨h', g2, d', tk', os'⟩ := z
        obtain rfl : g2 = s.gens := mv.gens
        obtain rfl : d' = s.drawn := mv.drawn
        obtain rfl : os' = s.os := mv.os
        change wpAny _ _ _ _ _ _
        refine wpAny_pure ?_
        change wpAny _ _ (ret Value.none) _ _ _
        refine wpAny_pure ⟨rfl, h', tk', rfl, hS2, fun b o e => ?_⟩
        have b1 : b < s.heap.objs.size := Heap.lt_size e
        refine mv.heap b o ?_ (Heap.get?_push_of_some _ (Heap.get?_push_of_some _ e))
        simp only [List.mem_cons, List.not_mem_nil, or_false, not_or]
        rw [szp]
        exact ⟨Nat.ne_of_lt b1, Nat.ne_of_lt (Nat.lt_succ_of_lt b1)⟩
    · intro r2 z2 hr2
      match r2, hr2 with
      | .error e, hr2 => exact hr2
      | .ok .next, hr2 => exact hr2.elim
      | .ok .brk, hr2 => exact hr2.elim
      | .ok .cont, hr2 => exact hr2.elim
      | .ok (.ret r), hr2 =>
        obtain ⟨rfl, h', tk, rfl, hS2, keep⟩ := hr2
        repeat (any_goals (first | assumption | wp_step))
        exact fin _ _ hS2 keep
end
end Den
end
section
/-! Den, part Z: sorted(set(xs)), xs texts. -/
namespace Den
open PySem L2 PySem.Spec PyProof.Rows
section
variable {P : Program} {w : World} {A : Around} {E : Value → Shared → Prop} {s : Shared}
def strV : Value → Str
  | .str x _ => x
  | _ => Str.empty
theorem strV_are : ∀ {l : List Value}, (∀ v ∈ l, ∃ x t, v = Value.str x t) → StrsAre l (l.map strV)
  | [], _ => .nil
  | v :: l, h => by
    obtain ⟨x, t, rfl⟩ := h v (by simp)
    exact .cons x t (strV_are fun u hu => h u (List.mem_cons_of_mem _ hu))
theorem isStr_val {k : Str} {v : Value} (h : (PySem.strKind P w).is k v = true) : ∃ t, v = Value.str k t := Value.isStrOf_shape h
/-- sorted(a set of texts) -/
theorem sorted_setW {a : Addr} {L : List Str} {Q : Value → Shared → Prop} (R : SetW (PySem.strKind P w) s.heap a L) (cold : A.handled = none) (few : L.length ≤ 100000)
    (fin : ∀ z p (out : Array Value) (c : Nat) (ys : List Str), (∀ b o, s.heap.get? b = some o → z.heap.get? b = some o) → z.gens = s.gens → z.os = s.os → s.heap.objs.size ≤ p → z.heap.get? p = some (seqObj "list" out c) → StrsAre out.toList ys → ys.Perm L → sortedS ys = true → Q (.ref p) z) :
    wpAny (model P w) A (call (.builtin "sorted") [.ref a]) Q E s := by
  obtain ⟨o, us, ep, t, go, ex, od, el, pm, nd, sb, fit, ris, led⟩ := R
  refine Calls.call_function_entry kind_sorted plain_sorted entry_sorted (args_sorted1 _) ?_
  unfold Builtin.«sorted»
  refine wpAny_bind (m := checkCount "sorted" 1 1 _) (wpAny_pure ?_)
  refine wpAny_bind (collect_set (A := A.in1) cold ⟨o, go, ex.1, od⟩ fit sb ris led fun s1 vs keep grow g1 o1 pv => ?_)
  have txt : ∀ v ∈ vs, ∃ x t, v = Value.str x t := fun v hv => by
    obtain ⟨e, he, q⟩ := List.mem_map.mp (pv.mem_iff.mp hv)
    obtain ⟨⟨k, hk, _⟩, _⟩ := el e he
    obtain ⟨t, ht⟩ := isStr_val hk
    exact ⟨k, t, by rw [← q]; exact ht⟩
  have are := strV_are txt
  have same : ∀ e ∈ us.toList, strV e.2 = keyW (PySem.strKind P w) e := fun e he => by
    obtain ⟨⟨k, hk, _⟩, _⟩ := el e he
    obtain ⟨t, ht⟩ := isStr_val hk
    rw [keyW_is _ hk, ht]
    rfl
  have pk : (vs.map strV).Perm L := by
    have q := pv.map strV
    rw [List.map_map] at q
    have e : us.toList.map (strV ∘ fun e : Int × Value => e.2) = us.toList.map (keyW (PySem.strKind P w)) := List.map_congr_left fun e he => same e he
    rw [e] at q
    exact q.trans pm
  have vl : vs.length = L.length := by rw [← pk.length_eq, List.length_map]
  have line : vs.length ≤ sizeLine := by rw [vl, sizeLine_eq]; omega
  refine wpAny_bind (wpAny_newList ?_ line)
  have hoL : (s1.heap.push (seqObj "list" vs.toArray 0)).get? s1.heap.objs.size = some (seqObj "list" vs.toArray 0) := Heap.get?_push_size _ rfl
  refine wpAny_bind (wpAny_holding (wpAny_call_entry slot_list_sort ⟨_, hoL, rfl⟩ entry_list_sort
    (list_sort_treeKAny strKind_oneLt hoL are.keysOf (fun v₁ v₂ rest e => keyKind_strs (by rw [← e]; exact are)) line fun st hp hs => ⟨_, rfl, ?_⟩) (args_list_sort _)))
  obtain ⟨ys, y1, y2, y3⟩ := sorted_out_str are hp hs
  obtain ⟨c, hc⟩ := sortedHeap_at (vs := vs) (out := (arrOf st).map (·.2)) hoL
  refine wpAny_pure ⟨_, rfl, fin _ s1.heap.objs.size ((arrOf st).map (·.2)) c ys (fun b u e => ?_) g1 o1 grow hc y1 (y2.trans pk) y3⟩
  have q := keep b u e
  have lt := Heap.lt_size q
  show (sortedHeap (s1.heap.push (seqObj "list" vs.toArray 0)) s1.heap.objs.size vs ((arrOf st).map (·.2))).get? b = some u
  rw [sortedHeap_old (Nat.ne_of_lt lt) (by rw [size_push']; exact Nat.lt_succ_of_lt lt)]
  exact Heap.get?_push_of_some _ q
end
/-! ### in the abstract heap -/
def SetWO (P : Program) (w : World) (a : Addr) (L : List Str) : HO := .ext fun h => SetW (PySem.strKind P w) h a L
def rSetW (K : PySem.W.Frag) (P : Program) (w : World) : List V → Hp → VK → Prop := fun vs H Q => ∃ (l : Addr) (xs : List Str), vs = [.ref l] ∧ (SqL K H l (xs.map V.str) ∨ SqT K H l (xs.map V.str)) ∧ xs.length ≤ 1000 ∧
  ∀ p, H p = none → Q (.ref p) (upd H p (SetWO P w p (xs.foldl addK [])))
def rSrtW (P : Program) (w : World) : List V → Hp → VK → Prop := fun vs H Q => ∃ (a : Addr) (L : List Str), vs = [.ref a] ∧ H a = some (SetWO P w a L) ∧ L.length ≤ 1000 ∧
  ∀ (ys : List Str) (p : Addr), ys.Perm L → sortedS ys = true → H p = none → Q (.ref p) (upd H p (.lst (ys.map V.str)))
section
variable {X : Cx}
theorem strs_val {its : List Value} {xs : List Str} (r : Vals (xs.map V.str) its) : its.toArray.size = xs.length ∧ ∀ (i : Nat) (v : Value), its.toArray[i]? = some v → ∃ k, xs[i]? = some k ∧ (PySem.strKind X.prog X.w).is k v = true ∧ v.scannable = true := by
  have hl := r.length
  rw [List.length_map] at hl
  refine ⟨by simp [hl], fun i v hv => ?_⟩
  rw [List.getElem?_toArray] at hv
  have hi : i < xs.length := by
    rw [hl]
    exact (List.getElem?_eq_some_iff.mp hv).1
  obtain ⟨u, hu, rv⟩ := r.get (i := i) (x := .str xs[i]) (by rw [List.getElem?_map, List.getElem?_eq_getElem hi]; rfl)
  rw [hv] at hu
  cases hu
  obtain ⟨t, rfl⟩ := rv
  exact ⟨xs[i], List.getElem?_eq_getElem hi, strKind_is _ _ _ _, rfl⟩
theorem cr_setW (hc : X.calm = true) : CallR X (.type "set") (rSetW X.K X.prog X.w) := by
  intro pins s σ H vs us Q I r h
  obtain ⟨l, xs, rfl, h, few, q⟩ := h
  rw [Vals.ref1 r]
  have room : xs.length + 1 < scanBound := by unfold scanBound; omega
  have fin : ∀ (h' : Heap) (tk : Nat), SetW (PySem.strKind X.prog X.w) h' s.heap.objs.size (xs.foldl addK []) → (∀ b o, s.heap.get? b = some o → h'.get? b = some o) → EP X pins σ Q (.ref s.heap.objs.size) { s with heap := h', toks := tk } := fun h' tk R keep => by
    have new : ObjOk X.prog X.w (upd H s.heap.objs.size (SetWO X.prog X.w s.heap.objs.size (xs.foldl addK []))) h' s.heap.objs.size (SetWO X.prog X.w s.heap.objs.size (xs.foldl addK [])) := by
      have ⟨o, _, _, _, go, _⟩ := R
      exact ⟨R, ⟨o, go⟩, fun h1 h2 p k => SetW.at p k⟩
    exact ⟨.ref _, _, I.laid keep (Nat.le_refl _) new, rfl, q _ (I.hok.fresh (Nat.le_refl _))⟩
  rcases h with h | h
  · obtain ⟨its, rv, pl, _⟩ := I.list h
    obtain ⟨sz, val⟩ := strs_val (X := X) rv
    exact call_setW_list xs (I.ok.hd hc) pl.isList val sz room fin
  · obtain ⟨its, rv, pl, _⟩ := I.tuple h
    obtain ⟨sz, val⟩ := strs_val (X := X) rv
    exact call_setW_tuple xs (I.ok.hd hc) pl val sz room fin
theorem cr_srtW (hc : X.calm = true) : CallR X (.builtin "sorted") (rSrtW X.prog X.w) := by
  intro pins s σ H vs us Q I r h
  obtain ⟨a, L, rfl, ha, few, q⟩ := h
  have R : SetW (PySem.strKind X.prog X.w) s.heap a L := (I.hok a _ ha).1
  rw [Vals.ref1 r]
  refine sorted_setW R (I.ok.hd hc) (by omega) fun z p out c ys keep g o hp hg are pm srt => ?_
  have len : (ys.map V.str).length ≤ sizeLine := by rw [List.length_map, pm.length_eq, sizeLine_eq]; omega
  have fresh : H p = none := I.hok.fresh hp
  have J : Inv X pins σ (upd H p (.lst (ys.map V.str))) { s with heap := z.heap, gens := z.gens, drawn := z.drawn, toks := z.toks } :=
    I.call (ch := []) (Un.laid keep hp fresh) (I.hok.laid keep hp ⟨len, out.toList, c, vals_of_strs are, hg⟩) (by rw [g]; exact I.bare) (fun _ y => nomatch y)
  obtain ⟨zh, zg, zd, zt, zo⟩ := z
  cases o
  exact ⟨.ref p, _, J, rfl, q ys p pm srt fresh⟩
end
end Den
end
section
/-! Den, part AA: sorted(set(xs)) as one operation. -/
namespace Den
open PySem L2 PySem.Spec PyProof.Rows
def seqO (o : O) : Option (List D) := match lstD o with
  | some ds => some ds
  | none => tupD o
def uniq (xs : List Str) : List Str := xs.foldl addK []
def gSrtSet (o : O) : Option O := match seqO o with
  | some ds => match strsD ds with
    | some ss => if ss.length ≤ 1000 then some (.lst (((sortStr (uniq ss)).map D.str).map O.sh)) else none
    | none => none
  | none => none
def rSrtSet (K : PySem.W.Frag) (P : Program) (w : World) : V → Hp → VK → Prop := fun x H Q => rSetW K P w [x] H fun y H1 => rSrtW P w [y] H1 Q
section
variable {Γ : Gb} {c : Ent} {R : List (V × O)} {H : Hp}
/-- a cell that nobody names any more -/
theorem RSL.free {L : List Addr} (h : RSL Γ c R L H) : RS Γ c R H := by
  obtain ⟨S, F, st, q, nd, dj, sb, lc⟩ := h
  refine ⟨S, F, st.mem fun a m => by rw [List.append_nil] at m; exact List.mem_append_left _ m, q, ?_, fun a m => ?_, sb, fun a m => by cases m⟩
  · rw [List.append_nil]
    exact (List.nodup_append.mp nd).1
  · rw [List.append_nil] at m
    exact dj a (List.mem_append_left _ m)
theorem RS.junk (h : RS Γ c R H) {p : Addr} (hp : H p = none) {u : HO} (hu : NoT u) : RS Γ c R (upd H p u) := (h.new hp hu).free
theorem RS.seqS {v : V} {o : O} {ds : List D} {ss : List Str} (h : RS Γ c R H) (m : (v, o) ∈ R) (e : seqO o = some ds) (e2 : strsD ds = some ss) : ∃ a, v = .ref a ∧ (SqL Γ.K H a (ss.map V.str) ∨ SqT Γ.K H a (ss.map V.str)) := by
  unfold seqO at e
  split at e
  · rename_i es e1
    cases e
    obtain ⟨a, rfl, ha⟩ := h.strs m e1 e2
    exact ⟨a, rfl, .inl (.of ha)⟩
  · obtain ⟨a, xs, rfl, ha, had⟩ := h.tup m e
    obtain ⟨S, sb, r, _⟩ := had.ex
    rw [strsD_some e2] at r
    rw [r.strs] at ha
    exact ⟨a, rfl, .inr ha⟩
theorem uniq_len (xs : List Str) : (uniq xs).length ≤ xs.length := by
  have := addAll_len xs []
  rw [List.length_nil, Nat.zero_add] at this
  exact this
theorem ok_srtSet : Op1 Γ (rSrtSet Γ.K Γ.prog Γ.w) gSrtSet := by
  intro c R H x ox w Q h m e k
  unfold gSrtSet at e
  split at e
  · rename_i ds e1
    split at e
    · rename_i ss e2
      split at e
      · rename_i few
        cases e
        obtain ⟨a, rfl, ha⟩ := h.seqS m e1 e2
        refine ⟨a, ss, rfl, ha, few, fun p hp => ?_⟩
        have h1 := h.junk hp (u := SetWO Γ.prog Γ.w p (uniq ss)) (fun ps q => by cases q)
        refine ⟨p, uniq ss, rfl, upd_same, Nat.le_trans (uniq_len ss) few, fun ys p2 pm srt hp2 => ?_⟩
        rw [sortStr_eq pm srt]
        obtain ⟨S, sb, rd, q⟩ := h1.readS
        have hc : Had Γ c R _ ((sortStr (uniq ss)).map V.str) ((sortStr (uniq ss)).map D.str) := ⟨S, sb, repL_strs, q⟩
        exact k _ _ (hc.newL hp2)
      · cases e
    · cases e
  · cases e
end
section
variable {X : Cx} {Γ : Gb} {P : Nat → Bool} {W : WX} {a : Expr} {ta : TE} {oa : Od} {pos p2 pn pm : Pos}
theorem ae_srtSet (hK : X.K = Γ.K) (hP : X.prog = Γ.prog) (hw : X.w = Γ.w) (hc : X.calm = true) (hs : X.mg "sorted" = none) (ht : X.mg "set" = none) (ha : AO X Γ P W a ta oa) (hbs : bootBuiltins "sorted" = some (.builtin "sorted") := by decide +kernel) (hbt : bootBuiltins "set" = some (.type "set") := by decide +kernel)
    (gs : Gl X "sorted" := by rfl) (gt : Gl X "set" := by rfl) (e1 : starEach (a :: []) X.env = (false, eval a X.env) :: starEach [] X.env := by rfl) (f1 : (backTo p2 (starEach [] X.env)).any (·.1) = false := by rfl)
    (e2 : starEach (.Call (.Name "set" pm) [a] [] p2 :: []) X.env = (false, eval (.Call (.Name "set" pm) [a] [] p2) X.env) :: starEach [] X.env := by rfl) (f2 : (backTo pos (starEach [] X.env)).any (·.1) = false := by rfl) :
    AE X Γ P W (.Call (.Name "sorted" pn) [.Call (.Name "set" pm) [a] [] p2] [] pos) (tCB (rSrtW X.prog X.w) (tCons (tCB (rSetW X.K X.prog X.w) (tCons ta tNil)) tNil)) (aOp [oa] (l1 gSrtSet)) := by
  refine ⟨pe_callB (cr_srtW hc) gs hs hbs (pa_cons (pe_callTy (cr_setW hc) gt ht hbt (pa_cons ha.pe pa_nil e1) (by decide) (by decide) e1 f1) pa_nil e2) (by decide) (by decide) e2 f2, ?_⟩
  rw [hK, hP, hw]
  exact show Sx Γ P W (fun σ H Q => ta σ H fun x H1 => rSrtSet Γ.K Γ.prog Γ.w x H1 Q) _ from sx_op1 (ha.sa sa_nil) ok_srtSet
end
end Den
end
section
/-! Den, part AB: a def with defaults. -/
namespace Den
open PySem L2 PySem.Spec PyProof.Rows
section
variable {Γ : Gb} {mg : Str → Option Value} {base : Heap}
theorem fn_defD {x : Str} {st : Stmt} {f : Addr} {fd : FuncData} {N ps : List Str} {k : Nat} {pb : List Bool} {m : Nat} {body : aS} {dvs : List V} (F : FunD Γ.K x x (defArgs st) (defBody st) (defScope st) dvs [] f fd) (S : FnScope N ps (defScope st)) (hl : ps.length = pb.length) (hm : N.length = m)
    (hb : ∀ (cdv : Value) (A : Around) (outer : List Env) (s : Shared) (H : Hp) (E : XK), Room k (A.deeper (envOfC x (defScope st) s.heap.objs.size f cdv)) →
      Takes (cxOf (L2.CX Γ.prog Γ.w) Γ.prog Γ.w Γ.K mg base N x (defScope st) f cdv A outer s H E) (fun cls d _ H => E cls d H) →
      PassesOwn (model Γ.prog Γ.w) (cxOf (L2.CX Γ.prog Γ.w) Γ.prog Γ.w Γ.K mg base N x (defScope st) f cdv A outer s H E).A (cxOf (L2.CX Γ.prog Γ.w) Γ.prog Γ.w Γ.K mg base N x (defScope st) f cdv A outer s H E).env (cxOf (L2.CX Γ.prog Γ.w) Γ.prog Γ.w Γ.K mg base N x (defScope st) f cdv A outer s H E).xe →
      ∃ t, AL (cxOf (L2.CX Γ.prog Γ.w) Γ.prog Γ.w Γ.K mg base N x (defScope st) f cdv A outer s H E) Γ (kp pb) (fun cls d _ H => E cls d H) (defBody st) t body) :
    FnOk Γ.prog Γ.w Γ.K mg base (L2.CX Γ.prog Γ.w) (k + 1) f fd ps (spD Γ pb.length (aDef pb m body)) := by
  refine F.ok S (fun vs H Q E h => by rw [h.1, hl]) fun cdv A outer s H vs Q E hr h => ?_
  obtain ⟨t, at_⟩ := hb cdv A outer s H E hr (takes_of rfl rfl rfl rfl) (passes_of rfl)
  refine ⟨t, at_.pss, ?_⟩
  obtain ⟨hv, e, os, ho, r, k1⟩ := h
  have ent := enter_ok (R := []) hv ho (by rw [List.append_nil]; exact r)
  rw [List.append_nil] at ent
  obtain ⟨sl, sr⟩ := start_slots (vs := vs) (os := pre pb os) (m := m - pb.length) (by rw [pre_len ho, hv])
  have st0 : L2.start N vs = vs.map some ++ List.replicate (m - pb.length) none := by
    unfold L2.start
    rw [hm, hv]
  have s0 : SR Γ (kp pb) ⟨e, L2.start N vs⟩ (L2.start N vs) ((pre pb os).map some ++ List.replicate (m - pb.length) none) (keepT pb vs os) H := by
    rw [st0]
    exact ⟨sl, fun j _ => rfl, by rw [sr]; exact ent⟩
  have back : ∀ (X : List (V × O)) (σ : L2.St) (ρ : Store) (H' : Hp) (os' : List O), SR Γ (kp pb) ⟨e, L2.start N vs⟩ σ ρ (X ++ keepT pb vs os) H' → outs pb os ρ = some os' → RS Γ e (X ++ vs.zip os') H' := by
    intro X σ ρ H' os' q eo
    obtain ⟨Y, p⟩ := leave_ok q.ok hv (fun j hj => by
      have hj' : kp pb j = true := by
        show pb.getD j false = true
        rw [List.getD_eq_getElem?_getD, hj]
        rfl
      rw [q.fix j hj']
      show (L2.start N vs)[j]? = _
      rw [st0]
      have hlt : j < vs.length := by
        rw [hv]
        exact (List.getElem?_eq_some_iff.mp hj).1
      rw [List.getElem?_append_left (by rw [List.length_map]; exact hlt), List.getElem?_map]) eo
    have q1 : RS Γ e (Y ++ (X ++ vs.zip os')) H' := q.rs.perm (by
      refine (List.perm_append_comm_assoc _ _ _).trans ?_
      refine (List.Perm.append_left _ p).trans ?_
      exact List.perm_append_comm_assoc _ _ _)
    exact q1.dropL
  refine at_.sx ⟨e, L2.start N vs⟩ (L2.start N vs) _ (keepT pb vs os) H _ s0 ?_
  unfold aDef at k1
  rw [if_pos ho] at k1
  cases eb : body ((pre pb os).map some ++ List.replicate (m - pb.length) none) with
  | nx ρ =>
    rw [eb] at k1
    simp only at k1
    cases eo : outs pb os ρ with
    | none => rw [eo] at k1; exact k1.elim
    | some os' =>
      rw [eo] at k1
      exact fun σ H' q => k1.2 _ _ ((back [] σ ρ H' os' q eo).pure fun _ => .non)
  | brk ρ => rw [eb] at k1; exact k1.elim
  | ct ρ => rw [eb] at k1; exact k1.elim
  | ret o ρ =>
    rw [eb] at k1
    simp only at k1
    cases eo : outs pb os ρ with
    | none => rw [eo] at k1; exact k1.elim
    | some os' =>
      rw [eo] at k1
      exact fun σ v H' q => k1.2 _ _ (back [(v, o)] σ ρ H' os' q eo)
  | exc x ρ =>
    rw [eb] at k1
    simp only at k1
    cases eo : outs pb os ρ with
    | none => rw [eo] at k1; exact k1.elim
    | some os' =>
      rw [eo] at k1
      refine fun σ cls d H' q => k1.2 cls d H' ?_
      obtain ⟨ec, q⟩ := q
      refine ⟨ec, ?_⟩
      obtain ⟨xc, xfs⟩ := x
      cases xfs with
      | none => exact ⟨q.1, back [] σ ρ H' os' q.2 eo⟩
      | some fs =>
        obtain ⟨dd, e1, q⟩ := q
        exact ⟨dd, e1, back [(.ref dd, .sh (.xd fs))] σ ρ H' os' q eo⟩
  | stuck => rw [eb] at k1; exact k1.elim
/-- what the written part tells of a def with defaults -/
theorem funD_mk {x : Str} {st : Stmt} {f T : Addr} {oc : Value} {od an dT : Option Addr} {osl sT : Array (Option Value)} {kV doc pm cdv ct : Value} {dvs : List V} {its : List Value} {n : Nat} {cT : Value}
    (l : Γ.K.lookup f = some ⟨oc, od, .func (PySem.W.fnOf x x (defArgs st) (defBody st) (defScope st) (.ref T) kV doc pm an cdv ct), osl⟩) (lT : Γ.K.lookup T = some ⟨cT, dT, .seq its.toArray n, sT⟩) (hd : dvs ≠ []) (hv : Vals dvs its)
    (c : PySem.W.codeIn Γ.K cdv x = true) (k : PySem.W.keepIn Γ.K (.ref f) = true) : FunD Γ.K x x (defArgs st) (defBody st) (defScope st) dvs [] f (PySem.W.fnOf x x (defArgs st) (defBody st) (defScope st) (.ref T) kV doc pm an cdv ct) :=
  ⟨⟨oc, od, .ref T, kV, doc, pm, an, cdv, ct, osl, rfl, l, c, .inr ⟨hd, T, _, its, n, rfl, lT, rfl, hv⟩, .inl rfl⟩, k⟩
theorem cl_mkD {k n : Nat} {x : Str} {dds : List D} {den : aF} {f : Addr} {fd : FuncData} {ps : List Str} (F : FnOk Γ.prog Γ.w Γ.K mg base (L2.CX Γ.prog Γ.w) k f fd ps (spD Γ n den)) (hm : mg x = some (.ref f)) (hk : PySem.W.keepIn Γ.K (.ref f) = true)
    (hb : ∃ ds, Vals (dds.map toV) ds ∧ Binds Γ.K fd ps ds) (hs : dds.all isScal = true) : Cl Γ mg base k x n dds den := by
  obtain ⟨ds, v, b⟩ := hb
  exact cl_mk F hm hk b v fun S => repL_scal hs
end
end Den
end
section
/-! Den, part AC: xs.extend(t), t a list or a tuple. -/
namespace Den
open PySem L2 PySem.Spec PyProof.Rows
set_option maxRecDepth 8000 in
theorem ext_tup (l : Addr) (us : Array Value) (n : Nat) (b : Addr) (ws : Array Value) (m : Nat) (dd : Option Addr) (sl : Array (Option Value)) (short : ¬(!us.isEmpty && Builtin.List.listTooLong (us.size + ws.size)) = true) (fit : us.size ≤ sizeLine) (both : us.size + ws.size ≤ sizeLine + 1) :
    Meets (Builtin.«list.extend» ⟨[.ref l, .ref b], []⟩) (fun _ R s => s.heap.get? l = some { cls := .type "list", dict := none, data := .seq us n, slots := #[] } ∧ s.heap.get? b = some { cls := .type "tuple", dict := dd, data := .seq ws m, slots := sl } ∧
      R (.ok (.ret Value.none)) { s with heap := s.heap.update l (Obj.mapSeq fun x => x ++ ws), toks := s.toks }) := by
  refine .of_wp fun prog w A R s h => ?_
  obtain ⟨hp, g, d, tk, os⟩ := s
  obtain ⟨g1, g2, fin⟩ := h
  have q1 := sub_tuple_tuple
  have q2 := sub_list_list
  have q3 := sub_tuple_list
  have q4 := sub_list_tuple
  have fit2 : (us ++ ws).size ≤ sizeLine + 1 := by rw [Array.size_append]; exact both
  wp_walk using (wpAny_updateSeq g1 rfl (hz := fit) (_hz' := fit2)), wpAny_loadPart' g1, wpAny_loadPart' g2
  exact ⟨_, rfl, fin⟩
def rExtT (K : PySem.W.Frag) : V → List V → Hp → VK → Prop := fun x vs H Q => ∃ l b xs zs, x = .ref l ∧ vs = [.ref b] ∧ H l = some (.lst xs) ∧ SqT K H b zs ∧ xs.length + zs.length ≤ 16000000 ∧ Q .non (upd H l (.lst (xs ++ zs)))
theorem mt_extT {X : Cx} : MtR X "list.extend" (rExtT X.K) := by
  intro pins s σ H x vs v us Q I rx rv h
  obtain ⟨l, b, xs, zs, rfl, rfl, hH, hB, hz, q⟩ := h
  cases rx
  obtain ⟨u, rfl, ru⟩ := rv.one
  cases ru
  obtain ⟨z, its, n, r, hl, e⟩ := I.lstM hH
  obtain ⟨its2, r2, ⟨⟨cls, dd, data, sl⟩, ho, hc, n2, hd⟩, _⟩ := I.tuple hB
  simp only at hc hd
  subst hc hd
  have l2 : zs.length = its2.length := r2.length
  have sz : its.toArray.size + its2.toArray.size ≤ sizeLine := by rw [List.size_toArray, List.size_toArray, sizeLine_eq]; omega
  have short : ¬ (!its.toArray.isEmpty && Builtin.List.listTooLong (its.toArray.size + its2.toArray.size)) = true := by
    rw [notLongL sz, Bool.and_false]
    simp
  refine call_meets F.slot_list_extend ⟨_, e, rfl⟩ F.entry_list_extend (F.args_list_extend_2 _ _) (ext_tup l its.toArray n b its2.toArray n2 dd sl short (by rw [sizeLine_eq] at *; rw [List.size_toArray]; omega) (by rw [sizeLine_eq] at *; omega)) ⟨e, ho, ?_⟩
  · refine ⟨.non, _, I.lset (its' := its ++ its2) hH e (by simp) (r.append r2) ?_, rfl, q⟩
    rw [List.length_append, sizeLine_eq]
    omega
def rExtA (K : PySem.W.Frag) : V → List V → Hp → VK → Prop := fun x vs H Q => rExtend x vs H Q ∨ rExtT K x vs H Q
theorem mt_extA {X : Cx} : MtR X "list.extend" (rExtA X.K) := by
  intro pins s σ H x vs v us Q I rx rv h
  rcases h with h | h
  · exact mt_extend pins s σ H x vs v us Q I rx rv h
  · exact mt_extT pins s σ H x vs v us Q I rx rv h
def fExtA : O → List O → Option (O × O)
  | .lst os, [.sh (.tup ds)] => if os.length + ds.length ≤ 16000000 then some (.lst (os ++ ds.map O.sh), .sh .non) else none
  | x, as => fExtend x as
theorem m_extA {Γ : Gb} : MOk Γ (rExtA Γ.K) fExtA := by
  intro c R H x ox ps o' w Q h mem e k
  unfold fExtA at e
  split at e
  · rename_i os ds eps
    split at e
    · cases e
      rename_i hl
      match ps, eps with
      | [(y, u)], eps =>
        obtain rfl : u = .sh (.tup ds) := by simpa using eps
        obtain ⟨b, zs, rfl, hb, had⟩ := h.tup (List.mem_cons_of_mem _ (mem (y, .sh (.tup ds)) (by simp))) rfl
        obtain ⟨S, sb, r, _, ad⟩ := had.ex
        have h2 : RS Γ c ((x, .lst os) :: (zs.zip (ds.map O.sh) ++ R)) H := (ad zs ds r).perm List.perm_middle
        obtain ⟨a, rs, rfl, rfl, ha, q⟩ := h2.openL'
        refine .inr ⟨a, b, _, zs, rfl, rfl, ha, hb, by rw [List.length_map] at hl ⊢; rw [had.len]; exact hl, k _ _ ?_⟩
        have z := q (rs ++ zs.zip (ds.map O.sh)) R (by rw [List.append_assoc])
        rw [List.map_append, List.map_append, zip_fst had.len, zip_snd had.len] at z
        exact z.pure fun _ => .non
    · cases e
  · exact .inl (m_extend c R H x _ ps o' w Q h mem e k)
end Den
end
section
open PySem L2 PySem.Spec PyProof.Rows Den
namespace Lw
def top (i : Nat) : Stmt := PySem.Challenge.pw_keepersnotes_k03_sentences_judged.main.body.getD i (.Pass ⟨0, 0, 0, 0⟩)
theorem room65 {k : Nat} {A : Around} (r : Room k A) : A.units + 65 < cLine := by have := r.un; omega
theorem b_any : bootBuiltins "any" = some (.builtin "any") := by decide +kernel
theorem b_all : bootBuiltins "all" = some (.builtin "all") := by decide +kernel
theorem b_sorted : bootBuiltins "sorted" = some (.builtin "sorted") := by decide +kernel
theorem b_sum : bootBuiltins "sum" = some (.builtin "sum") := by decide +kernel
theorem b_min : bootBuiltins "min" = some (.builtin "min") := by decide +kernel
theorem b_max : bootBuiltins "max" = some (.builtin "max") := by decide +kernel
theorem b_isinstance : bootBuiltins "isinstance" = some (.builtin "isinstance") := by decide +kernel
def c_MOST_CALLS : D := .int 5
def c_MOST_RESETS : D := .int 3
def c_MOST_MANY : D := .int 6
def c_JOINTS : D := .tup [.str "and", .str "or"]
def c_MOST_PARTS : D := .int 6
def c_MOST_PLAIN : D := .int 8
noncomputable def d_is_whole : aF := aDef [true, true, true] 3
    (sSeq (sIf (aOr (aNot (aB (aOp [.pl 0] (l1 (gIsi "int"))))) (aOr (aB (aOp [.pl 0] (l1 (gIsi "bool")))) (aB (aOp [.pl 0, .pl 1] (l2 gLt))))) (sRet (aC (.bl false))) sNext)
    (sRet (aOrV (aB (aOp [.pl 2] (l1 gIsN))) (aOp [.pl 0, .pl 2] (l2 gLe)))))
noncomputable def d_ascending : aF := aDef [true] 1
    (sRet (aOp [.ex (aOp [.pl 0] (l1 gSrtSet))] (l1 gTuple)))
noncomputable def d_is_name : aF := aDef [true] 1
    (sSeq (sIf (aOr (aNot (aB (aOp [.pl 0] (l1 (gIsi "str"))))) (aOr (aNot (aB (aChain gLe gLe (aC (.int 1)) (aOp [.pl 0] (l1 gLen)) (aC (.int 12))))) (aNot (aB (aOp [.pl 0] (l1 (gStT Txt.isascii))))))) (sRet (aC (.bl false))) sNext)
    (sRet (aAndV (aB (aOp [.pl 0] (l1 (gStT Txt.isalnum)))) (aAndV (aB (aOp [.pl 0] (l1 (gStT Txt.islower)))) (aOp [.ex (aOp [.pl 0, .ex (aC (.int 0))] (l2 gIx))] (l1 (gStT Txt.isalpha)))))))
noncomputable def d_is_word : aF := aDef [true] 2
    (sRet (aAndV (aB (aOp [.pl 0] (l1 (gIsi "tuple")))) (aOp [.ex (aLc (aItems (aVar 0)) [1] (aN 1) aYes (aCall 1 [.pl 1] [] (d_is_name)))] (l1 gAll))))
noncomputable def d_is_short : aF := aDef [true] 1
    (sRet (aAndV (aB (aCall 1 [.pl 0] [] (d_is_word))) (aChain gLe gLe (aC (.int 1)) (aOp [.pl 0] (l1 gLen)) (aC c_MOST_CALLS))))
noncomputable def d_are_resets : aF := aDef [true, true] 4
    (sSeq (sIf (aOr (aNot (aB (aCall 1 [.pl 0] [] (d_is_word)))) (aOr (aB (aOp [.ex (aOp [.pl 0] (l1 gLen)), .ex (aC c_MOST_RESETS)] (l2 gGt))) (aB (aOp [.pl 1, .pl 0] (l2 gIn))))) (sRet (aC (.bl false))) sNext)
    (sRet (aOp [.ex (aLc (aZip (aVar 0) (aFz (aSl (.pl 0) (some (aC (.int 1))) none gSl))) [2, 3] (aUnp [(aN 2), (aN 3)]) aYes (aOp [.pl 2, .pl 3] (l2 gLt)))] (l1 gAll))))
noncomputable def d_are_two : aF := aDef [true] 1
    (sRet (aAndV (aB (aOp [.ex (aOp [.pl 0] (l1 gLen)), .ex (aC (.int 2))] (l2 gEq))) (aAndV (aB (aCall 1 [.ex (aOp [.pl 0, .ex (aC (.int 0))] (l2 gIx))] [] (d_is_name))) (aAndV (aB (aCall 1 [.ex (aOp [.pl 0, .ex (aC (.int 1))] (l2 gIx))] [] (d_is_name))) (aOp [.ex (aOp [.pl 0, .ex (aC (.int 0))] (l2 gIx)), .ex (aOp [.pl 0, .ex (aC (.int 1))] (l2 gIx))] (l2 gNe))))))
noncomputable def d_is_plain : aF := aDef [true] 3
    (sSeq (sPar 1 2 (aOp [.pl 0, .ex (aC (.int 0))] (l2 gIx)) (aSl (.pl 0) (some (aC (.int 1))) none gSl))
    (sSeq (sIf (aB (aOp [.pl 1, .ex (aC (.str "never"))] (l2 gEq))) (sRet (aAndV (aB (aOp [.ex (aOp [.pl 2] (l1 gLen)), .ex (aC (.int 1))] (l2 gEq))) (aCall 1 [.ex (aOp [.pl 2, .ex (aC (.int 0))] (l2 gIx))] [] (d_is_short)))) sNext)
    (sSeq (sIf (aB (aOp [.pl 1, .ex (aC (.str "until"))] (l2 gEq))) (sRet (aAndV (aB (aOp [.ex (aOp [.pl 2] (l1 gLen)), .ex (aC (.int 2))] (l2 gEq))) (aAndV (aB (aCall 1 [.ex (aOp [.pl 2, .ex (aC (.int 0))] (l2 gIx))] [] (d_is_name))) (aAndV (aB (aCall 1 [.ex (aOp [.pl 2, .ex (aC (.int 1))] (l2 gIx))] [] (d_is_short))) (aOp [.ex (aOp [.pl 2, .ex (aC (.int 0))] (l2 gIx)), .ex (aOp [.pl 2, .ex (aC (.int 1))] (l2 gIx))] (l2 gNotIn)))))) sNext)
    (sSeq (sIf (aB (aOp [.pl 1, .ex (aOp [.ex (aC (.str "after")), .ex (aC (.str "turns"))] gTup)] (l2 gIn))) (sRet (aCall 1 [.pl 2] [] (d_are_two))) sNext)
    (sSeq (sIf (aOr (aB (aOp [.ex (aOp [.pl 2] (l1 gLen)), .ex (aC (.int 3))] (l2 gNe))) (aNot (aB (aCall 3 [.ex (aOp [.pl 2, .ex (aC (.int 0))] (l2 gIx)), .ex (aC (.int 1)), .ex (aC c_MOST_MANY)] [] (d_is_whole))))) (sRet (aC (.bl false))) sNext)
    (sSeq (sIf (aB (aOp [.pl 1, .ex (aC (.str "within"))] (l2 gEq))) (sRet (aCall 1 [.ex (aSl (.pl 2) (some (aC (.int 1))) none gSl)] [] (d_are_two))) sNext)
    (sRet (aAndV (aB (aOp [.pl 1, .ex (aC (.str "most"))] (l2 gEq))) (aAndV (aB (aCall 1 [.ex (aOp [.pl 2, .ex (aC (.int 1))] (l2 gIx))] [] (d_is_name))) (aCall 2 [.ex (aOp [.pl 2, .ex (aC (.int 2))] (l2 gIx)), .ex (aOp [.pl 2, .ex (aC (.int 1))] (l2 gIx))] [] (d_are_resets)))))))))))
noncomputable def d_plain_among : aF := aDef [true] 4
    (sSeq (sPar 1 2 (aC (.int 0)) (aOp [.pl 0] (l1 gList)))
    (sSeq (sWhile (aB (aOp [.pl 2, .ex (aOp [] gLstS)] (l2 gNeE))) (sSeq (sSet 3 (aMeth "list" 2 [] fPop))
    (sSeq (sIf (aOr (aNot (aB (aOp [.pl 3] (l1 (gIsi "tuple"))))) (aOr (aB (aOp [.ex (aOp [.pl 3] (l1 gLen)), .ex (aC (.int 0))] (l2 gEq))) (aNot (aB (aOp [.ex (aOp [.pl 3, .ex (aC (.int 0))] (l2 gIx))] (l1 (gIsi "str"))))))) (sRet (aC .non)) sNext)
    (sSeq (sIf (aB (aOp [.ex (aOp [.pl 3, .ex (aC (.int 0))] (l2 gIx)), .ex (aC c_JOINTS)] (l2 gNotIn))) (sSeq (sIf (aNot (aB (aCall 1 [.pl 3] [] (d_is_plain)))) (sRet (aC .non)) sNext)
    (sAug 1 (aC (.int 1)) gAddI)) (sIf (aOr (aB (aOp [.ex (aOp [.pl 3] (l1 gLen)), .ex (aC (.int 2))] (l2 gNe))) (aOr (aNot (aB (aOp [.ex (aOp [.pl 3, .ex (aC (.int 1))] (l2 gIx))] (l1 (gIsi "tuple"))))) (aNot (aB (aChain gLe gLe (aC (.int 2)) (aOp [.ex (aOp [.pl 3, .ex (aC (.int 1))] (l2 gIx))] (l1 gLen)) (aC c_MOST_PARTS)))))) (sRet (aC .non)) (sDrop (aMeth "list" 2 [.ex (aOp [.pl 3, .ex (aC (.int 1))] (l2 gIx))] fExtA))))
    (sIf (aB (aOp [.ex (aOp [.pl 1, .ex (aOp [.pl 2] (l1 gLen))] (l2 gAdd)), .ex (aC c_MOST_PLAIN)] (l2 gGt))) (sRet (aC .non)) sNext)))))
    (sRet (aMove 1))))
noncomputable def d_is_sentence : aF := aDef [true] 1
    (sRet (aOp [.ex (aCall 1 [.ex (aOp [.ex (aVar 0)] gTup)] [] (d_plain_among))] (l1 gNotN)))
noncomputable def b_plain_of (rec : aF) : aF := aDef [true] 3
    (sSeq (sIf (aB (aOp [.ex (aOp [.pl 0, .ex (aC (.int 0))] (l2 gIx)), .ex (aC c_JOINTS)] (l2 gIn))) (sRet (aLc2 (aItems (aFz (aOp [.pl 0, .ex (aC (.int 1))] (l2 gIx)))) [1, 2] [2] (aN 1) aYes (aItems (aFz (aCall 1 [.pl 1] [] rec))) (aN 2) aYes (aVar 2))) sNext)
    (sRet (aOp [.ex (aVar 0)] gLstS)))
noncomputable def d_plain_of : Nat → aF
  | 0 => fun _ => .stuck
  | n + 1 => b_plain_of (d_plain_of n)
noncomputable def d_names_in : aF := aDef [true] 3
    (sSeq (sSet 1 (aOp [] gLstS))
    (sSeq (sFor (aItems (aFz (aSl (.pl 0) (some (aC (.int 1))) none gSl))) (aN 2) (sSet 1 (aOp [.pl 1, .ex (aIfE (aB (aOp [.pl 2] (l1 (gIsi "tuple")))) (aOp [.pl 2] (l1 gList)) (aOp [.ex (aVar 2)] gLstS))] (l2 gAdd))))
    (sRet (aLc (aItems (aVar 1)) [2] (aN 2) (aB (aOp [.pl 2] (l1 (gIsi "str")))) (aVar 2)))))
noncomputable def d_names_of : aF := aDef [true] 3
    (sRet (aCall 1 [.ex (aLc2 (aItems (aFz (aCall 1 [.pl 0] [] (d_plain_of 8)))) [1, 2] [2] (aN 1) aYes (aItems (aFz (aCall 1 [.pl 1] [] (d_names_in)))) (aN 2) aYes (aVar 2))] [] (d_ascending)))
noncomputable def d__law_pen : aF := aDef [true] 3
    (sSeq (sSet 1 (aC (.int 11)))
    (sSeq (sFor (aItems (aVar 0)) (aN 2) (sSet 1 (aOp [.ex (aOp [.ex (aOp [.ex (aOp [.pl 1, .ex (aC (.int 101))] (l2 gMul)), .pl 2] (l2 gAdd))] (l1 gInt)), .ex (aC (.int 1000000241))] (l2 gMod))))
    (sRet (aDisp [.ex (aFz (aC (.str "cells"))), .ex (aFz (aOp [.pl 0] (l1 gList))), .ex (aFz (aC (.str "at"))), .ex (aFz (aC (.int 0))), .ex (aFz (aC (.str "digits"))), .ex (aFz (aC (.int 0))), .ex (aFz (aC (.str "count"))), .ex (aFz (aC (.int 0))), .ex (aFz (aC (.str "fold"))), .ex (aFz (aVar 1))]))))
noncomputable def d__law_draw : aF := aDef [true, true] 5
    (sSeq (sSub 0 (aOp [.ex (aOp [.pl 0, .ex (aC (.str "count"))] (l2 gIx)), .ex (aC (.int 1))] (l2 gAdd)) (aC (.str "count")))
    (sSeq (sIf (aAnd (aB (aOp [.ex (aOp [.pl 0, .ex (aC (.str "digits"))] (l2 gIx)), .ex (aC (.int 0))] (l2 gEq))) (aB (aOp [.ex (aOp [.pl 0, .ex (aC (.str "at"))] (l2 gIx)), .ex (aOp [.ex (aOp [.pl 0, .ex (aC (.str "cells"))] (l2 gIx))] (l1 gLen))] (l2 gLt)))) (sSeq (sSet 3 (aOp [.ex (aOp [.pl 0, .ex (aC (.str "cells"))] (l2 gIx)), .ex (aOp [.pl 0, .ex (aC (.str "at"))] (l2 gIx))] (l2 gIx)))
    (sSeq (sSub 0 (aOp [.ex (aOp [.pl 0, .ex (aC (.str "at"))] (l2 gIx)), .ex (aC (.int 1))] (l2 gAdd)) (aC (.str "at")))
    (sIf (aB (aOp [.pl 3, .ex (aOp [.ex (aC (.int 10)), .ex (aC (.int 18))] (l2 gPow))] (l2 gGe))) (sSub 0 (aOp [.pl 3, .ex (aOp [.ex (aC (.int 10)), .ex (aC (.int 18))] (l2 gPow))] (l2 gSub)) (aC (.str "digits"))) (sSub 0 (aOp [.ex (aOp [.ex (aOp [.ex (aOp [.ex (aOp [.pl 0, .ex (aC (.str "fold"))] (l2 gIx)), .ex (aC (.int 70009))] (l2 gMul)), .pl 3] (l2 gAdd))] (l1 gInt)), .ex (aC (.int 2147483477))] (l2 gMod)) (aC (.str "fold")))))) sNext)
    (sSeq (sIf (aB (aOp [.ex (aOp [.pl 0, .ex (aC (.str "digits"))] (l2 gIx)), .ex (aC (.int 0))] (l2 gGt))) (sSeq (sSet 4 (aOp [.ex (aOp [.ex (aOp [.pl 0, .ex (aC (.str "digits"))] (l2 gIx))] (l1 gInt)), .pl 1] (l2 gMod)))
    (sSeq (sSub 0 (aOp [.ex (aOp [.pl 0, .ex (aC (.str "digits"))] (l2 gIx)), .pl 1] (l2 gFdiv)) (aC (.str "digits")))
    (sRet (aMove 4)))) sNext)
    (sSeq (sSet 2 (aOp [.ex (aOp [.ex (aOp [.pl 0, .ex (aC (.str "fold"))] (l2 gIx)), .ex (aOp [.ex (aOp [.pl 0, .ex (aC (.str "count"))] (l2 gIx)), .ex (aC (.int 8069))] (l2 gMul))] (l2 gAdd)), .ex (aC (.int 41))] (l2 gAdd)))
    (sRet (aOp [.ex (aOp [.ex (aOp [.ex (aOp [.ex (aOp [.pl 2, .ex (aC (.int 17))] (l2 gPow)), .ex (aC (.int 2305843009213693951))] (l2 gMod))] (l1 gInt)), .ex (aC (.int 128))] (l2 gFdiv)), .pl 1] (l2 gMod)))))))
noncomputable def d__law_pick : aF := aDef [true, true] 2
    (sRet (aOp [.pl 1, .ex (aCall 2 [.pl 0, .ex (aOp [.pl 1] (l1 gLen))] [] (d__law_draw))] (l2 gIx)))
noncomputable def d__law_shuffled : aF := aDef [true, true] 5
    (sSeq (sPar 3 4 (aOp [.pl 1] (l1 gList)) (aOp [] gLstS))
    (sSeq (sFor (aRng1 (aOp [.pl 1] (l1 gLen))) (aN 2) (sDrop (aMeth "list" 4 [.ex (aFz (aMeth "list" 3 [.ex (aFz (aCall 2 [.pl 0, .ex (aOp [.pl 3] (l1 gLen))] [] (d__law_draw)))] fPopAt))] fAppend)))
    (sRet (aMove 4))))
noncomputable def d__law_some : aF := aDef [true, true, true] 3
    (sRet (aSl (.ex (aCall 2 [.pl 0, .pl 1] [] (d__law_shuffled))) none (some (aCall 2 [.pl 0, .ex (aOp [.ex (aOp [.pl 2, .ex (aOp [.pl 1] (l1 gLen))] (l2 gMin2)), .ex (aC (.int 1))] (l2 gAdd))] [] (d__law_draw))) gSl))
noncomputable def d__law_name : aF := aDef [true, true] 5
    (sSeq (sSet 2 (aC (.str "")))
    (sSeq (sFor (aRng1 (aOp [.ex (aC (.int 1)), .ex (aCall 2 [.pl 0, .ex (aC (.int 8))] [] (d__law_draw))] (l2 gAdd))) (aN 3) (sSet 2 (aOp [.pl 2, .ex (aOp [.ex (aC (.str "abcdefghijklmnopqrstuvwxyz")), .ex (aCall 2 [.pl 0, .ex (aC (.int 26))] [] (d__law_draw))] (l2 gIx))] (l2 gAdd))))
    (sSeq (sSet 4 (aOp [.ex (aC (.int 1)), .ex (aCall 2 [.pl 0, .ex (aOp [.pl 2] (l1 gLen))] [] (d__law_draw))] (l2 gAdd)))
    (sRet (aOp [.ex (aOp [.ex (aSl (.pl 2) none (some (aVar 4)) gSl), .ex (aOp [.pl 1] (l1 gStr))] (l2 gAdd)), .ex (aSl (.pl 2) (some (aVar 4)) none gSl)] (l2 gAdd))))))
noncomputable def d__law_names : aF := aDef [true, true] 3
    (sRet (aCall 2 [.pl 0, .ex (aLc (aRng1 (aVar 1)) [2] (aN 2) aYes (aCall 2 [.pl 0, .pl 2] [] (d__law_name)))] [] (d__law_shuffled)))
noncomputable def b__law_same (rec : aF) : aF := aDef [true, true] 4
    (sSeq (sIf (aB (aOp [.pl 1] (l1 (gIsi "tuple")))) (sRet (aAndV (aB (aOp [.pl 0] (l1 (gIsi "tuple")))) (aAndV (aB (aOp [.ex (aOp [.pl 0] (l1 gLen)), .ex (aOp [.pl 1] (l1 gLen))] (l2 gEq))) (aOp [.ex (aLc (aZip (aVar 0) (aVar 1)) [2, 3] (aUnp [(aN 2), (aN 3)]) aYes (aCall 2 [.pl 2, .pl 3] [] rec))] (l1 gAll))))) sNext)
    (sSeq (sIf (aB (aOp [.pl 1] (l1 gIsN))) (sRet (aOp [.pl 0] (l1 gIsN))) sNext)
    (sSeq (sIf (aB (aOp [.pl 1] (l1 (gIsB true)))) (sRet (aOp [.pl 0] (l1 (gIsB true)))) sNext)
    (sSeq (sIf (aB (aOp [.pl 1] (l1 (gIsB false)))) (sRet (aOp [.pl 0] (l1 (gIsB false)))) sNext)
    (sSeq (sIf (aB (aOp [.pl 1] (l1 (gIsi "int")))) (sRet (aAndV (aB (aOp [.pl 0] (l1 (gIsi "int")))) (aAndV (aB (aTV (aNot (aB (aOp [.pl 0] (l1 (gIsi "bool"))))))) (aOp [.pl 0, .pl 1] (l2 gEq))))) sNext)
    (sRet (aAndV (aB (aOp [.pl 0] (l1 (gIsi "str")))) (aOp [.pl 0, .pl 1] (l2 gEq)))))))))
noncomputable def d__law_same : Nat → aF
  | 0 => fun _ => .stuck
  | n + 1 => b__law_same (d__law_same n)
noncomputable def d__law_is_whole : aF := aDef [true, true, true] 3
    (sRet (aAndV (aB (aOp [.pl 0] (l1 (gIsi "int")))) (aAndV (aB (aTV (aNot (aB (aOp [.pl 0] (l1 (gIsi "bool"))))))) (aChain gLe gLe (aVar 1) (aVar 0) (aVar 2)))))
noncomputable def d__law_is_name : aF := aDef [true] 2
    (sSeq (sIf (aOr (aNot (aB (aOp [.pl 0] (l1 (gIsi "str"))))) (aOr (aNot (aB (aChain gLe gLe (aC (.int 1)) (aOp [.pl 0] (l1 gLen)) (aC (.int 12))))) (aB (aOp [.ex (aOp [.pl 0, .ex (aC (.int 0))] (l2 gIx)), .ex (aC (.str "abcdefghijklmnopqrstuvwxyz"))] (l2 gNotIn))))) (sRet (aC (.bl false))) sNext)
    (sRet (aOp [.ex (aLc (aItems (aVar 0)) [1] (aN 1) (aB (aOp [.pl 1, .ex (aC (.str "abcdefghijklmnopqrstuvwxyz0123456789"))] (l2 gNotIn))) (aVar 1)), .ex (aOp [] gLstS)] (l2 gEqE))))
noncomputable def d__law_calls : aF := aDef [true, true] 2
    (sRet (aOp [.ex (aOp [.ex (aCall 2 [.pl 0, .pl 1] [] (d__law_names))] (l1 gSortedS))] (l1 gTuple)))
noncomputable def d__law_some_plain : aF := aDef [true, true] 9
    (sSeq (sSet 2 (aIfE (aB (aOp [.ex (aOp [.pl 1] (l1 gLen)), .ex (aC (.int 1))] (l2 gGt))) (aCall 2 [.pl 0, .ex (aC (.int 6))] [] (d__law_draw)) (aCall 2 [.pl 0, .ex (aOp [.ex (aC (.int 0)), .ex (aC (.int 4))] gLstS)] [] (d__law_pick))))
    (sSeq (sAsg (aIfE (aB (aOp [.ex (aOp [.pl 1] (l1 gLen)), .ex (aC (.int 1))] (l2 gGt))) (aSl (.ex (aCall 2 [.pl 0, .pl 1] [] (d__law_shuffled))) none (some (aC (.int 2))) gSl) (aOp [.ex (aFz (aOp [.pl 1, .ex (aC (.int 0))] (l2 gIx))), .ex (aC .non)] gTup)) (aUnp [(aN 5), (aN 6)]))
    (sSeq (sSet 3 (aLc (aItems (aVar 1)) [7] (aN 7) (aB (aOp [.pl 7, .pl 5] (l2 gNe))) (aVar 7)))
    (sSeq (sSet 4 (aOp [.ex (aC (.int 1)), .ex (aCall 2 [.pl 0, .ex (aCall 2 [.pl 0, .ex (aOp [.ex (aC (.int 2)), .ex (aC (.int 3)), .ex (aC (.int 6))] gLstS)] [] (d__law_pick))] [] (d__law_draw))] (l2 gAdd)))
    (sSeq (sIf (aB (aOp [.pl 2, .ex (aC (.int 0))] (l2 gEq))) (sRet (aOp [.ex (aC (.str "never")), .ex (aFz (aOp [.ex (aLc (aRng1 (aOp [.ex (aC (.int 1)), .ex (aCall 2 [.pl 0, .ex (aCall 2 [.pl 0, .ex (aOp [.ex (aC (.int 2)), .ex (aC (.int 3)), .ex (aC (.int 5))] gLstS)] [] (d__law_pick))] [] (d__law_draw))] (l2 gAdd))) [8] (aN 8) aYes (aCall 2 [.pl 0, .pl 1] [] (d__law_pick)))] (l1 gTuple)))] gTup)) sNext)
    (sSeq (sIf (aB (aOp [.pl 2, .ex (aC (.int 1))] (l2 gEq))) (sRet (aOp [.ex (aC (.str "until")), .ex (aVar 5), .ex (aFz (aOp [.ex (aLc (aRng1 (aOp [.ex (aC (.int 1)), .ex (aCall 2 [.pl 0, .ex (aC (.int 3))] [] (d__law_draw))] (l2 gAdd))) [8] (aN 8) aYes (aCall 2 [.pl 0, .pl 3] [] (d__law_pick)))] (l1 gTuple)))] gTup)) sNext)
    (sSeq (sIf (aB (aOp [.pl 2, .ex (aC (.int 4))] (l2 gEq))) (sRet (aOp [.ex (aC (.str "most")), .ex (aVar 4), .ex (aVar 5), .ex (aFz (aOp [.ex (aOp [.ex (aCall 3 [.pl 0, .pl 3, .ex (aC (.int 3))] [] (d__law_some))] (l1 gSortedS))] (l1 gTuple)))] gTup)) sNext)
    (sRet (aOp [.ex (aOp [.ex (aC .non), .ex (aC .non), .ex (aFz (aOp [.ex (aC (.str "after")), .ex (aVar 5), .ex (aVar 6)] gTup)), .ex (aFz (aOp [.ex (aC (.str "turns")), .ex (aVar 5), .ex (aVar 6)] gTup)), .ex (aC .non), .ex (aFz (aOp [.ex (aC (.str "within")), .ex (aVar 4), .ex (aVar 5), .ex (aVar 6)] gTup))] gLstS), .pl 2] (l2 gIx))))))))))
noncomputable def b__law_some_sentence (rec : aF) : aF := aDef [true, true, true, true] 8
    (sSeq (sIf (aOr (aB (aOp [.pl 2, .ex (aC (.int 1))] (l2 gEq))) (aB (aOp [.pl 3, .ex (aC (.int 0))] (l2 gEq)))) (sSeq (sSet 4 (aLc (aRng1 (aOp [.pl 2, .ex (aC (.int 6))] (l2 gMin2))) [7] (aN 7) aYes (aCall 2 [.pl 0, .pl 1] [] (d__law_some_plain))))
    (sRet (aIfE (aB (aOp [.ex (aOp [.pl 4] (l1 gLen)), .ex (aC (.int 1))] (l2 gEq))) (aOp [.pl 4, .ex (aC (.int 0))] (l2 gIx)) (aOp [.ex (aFz (aCall 2 [.pl 0, .ex (aOp [.ex (aC (.str "and")), .ex (aC (.str "or"))] gLstS)] [] (d__law_pick))), .ex (aFz (aOp [.pl 4] (l1 gTuple)))] gTup)))) sNext)
    (sSeq (sPar 4 5 (aOp [] gLstS) (aVar 2))
    (sSeq (sWhile (aB (aOp [.pl 5, .ex (aC (.int 0))] (l2 gGt))) (sSeq (sSet 6 (aIfE (aB (aOp [.ex (aOp [.pl 4] (l1 gLen)), .ex (aC (.int 5))] (l2 gEq))) (aVar 5) (aOp [.ex (aC (.int 1)), .ex (aCall 2 [.pl 0, .ex (aIfE (aB (aOp [.pl 4, .ex (aOp [] gLstS)] (l2 gNeE))) (aVar 5) (aOp [.pl 5, .ex (aC (.int 1))] (l2 gSub)))] [] (d__law_draw))] (l2 gAdd))))
    (sSeq (sDrop (aMeth "list" 4 [.ex (aFz (aCall 4 [.pl 0, .pl 1, .pl 6, .ex (aOp [.pl 3, .ex (aC (.int 1))] (l2 gSub))] [] rec))] fAppend))
    (sSet 5 (aOp [.pl 5, .pl 6] (l2 gSub))))))
    (sRet (aOp [.ex (aFz (aCall 2 [.pl 0, .ex (aOp [.ex (aC (.str "and")), .ex (aC (.str "or"))] gLstS)] [] (d__law_pick))), .ex (aFz (aOp [.pl 4] (l1 gTuple)))] gTup)))))
noncomputable def d__law_some_sentence : Nat → aF
  | 0 => fun _ => .stuck
  | n + 1 => b__law_some_sentence (d__law_some_sentence n)
noncomputable def b__law_plain (rec : aF) : aF := aDef [true] 3
    (sSeq (sIf (aB (aOp [.ex (aOp [.pl 0, .ex (aC (.int 0))] (l2 gIx)), .ex (aOp [.ex (aC (.str "and")), .ex (aC (.str "or"))] gLstS)] (l2 gNotIn))) (sRet (aOp [.ex (aVar 0)] gLstS)) sNext)
    (sSeq (sSet 1 (aOp [] gLstS))
    (sSeq (sFor (aItems (aFz (aOp [.pl 0, .ex (aC (.int 1))] (l2 gIx)))) (aN 2) (sSet 1 (aOp [.pl 1, .ex (aCall 1 [.pl 2] [] rec)] (l2 gAdd))))
    (sRet (aMove 1)))))
noncomputable def d__law_plain : Nat → aF
  | 0 => fun _ => .stuck
  | n + 1 => b__law_plain (d__law_plain n)
noncomputable def d__law_sentence_names : aF := aDef [true] 4
    (sSeq (sSet 1 (aOp [] gLstS))
    (sSeq (sFor (aItems (aFz (aCall 1 [.pl 0] [] (d__law_plain 8)))) (aN 2) (sFor (aItems (aFz (aSl (.pl 2) (some (aC (.int 1))) none gSl))) (aN 3) (sSet 1 (aOp [.pl 1, .ex (aIfE (aB (aOp [.pl 3] (l1 (gIsi "tuple")))) (aOp [.pl 3] (l1 gList)) (aIfE (aB (aOp [.pl 3] (l1 (gIsi "str")))) (aOp [.ex (aVar 3)] gLstS) (aOp [] gLstS)))] (l2 gAdd)))))
    (sRet (aOp [.pl 1] (l1 gSrtSet)))))
noncomputable def d__law_is_row : aF := aDef [true] 2
    (sRet (aAndV (aB (aOp [.pl 0] (l1 (gIsi "tuple")))) (aAndV (aB (aChain gLe gLe (aC (.int 1)) (aOp [.pl 0] (l1 gLen)) (aC (.int 5)))) (aOp [.ex (aLc (aItems (aVar 0)) [1] (aN 1) (aNot (aB (aCall 1 [.pl 1] [] (d__law_is_name)))) (aVar 1)), .ex (aOp [] gLstS)] (l2 gEqE)))))
noncomputable def d__law_is_plain : aF := aDef [true] 5
    (sSeq (sAsg (aOp [.ex (aFz (aOp [.pl 0, .ex (aC (.int 0))] (l2 gIx))), .ex (aFz (aSl (.pl 0) (some (aC (.int 1))) none gSl))] gTup) (aUnp [(aN 1), (aN 2)]))
    (sSeq (sIf (aB (aOp [.pl 1, .ex (aC (.str "never"))] (l2 gEq))) (sRet (aAndV (aB (aOp [.ex (aOp [.pl 2] (l1 gLen)), .ex (aC (.int 1))] (l2 gEq))) (aCall 1 [.ex (aOp [.pl 2, .ex (aC (.int 0))] (l2 gIx))] [] (d__law_is_row)))) sNext)
    (sSeq (sIf (aB (aOp [.pl 1, .ex (aC (.str "until"))] (l2 gEq))) (sRet (aAndV (aB (aOp [.ex (aOp [.pl 2] (l1 gLen)), .ex (aC (.int 2))] (l2 gEq))) (aAndV (aB (aCall 1 [.ex (aOp [.pl 2, .ex (aC (.int 0))] (l2 gIx))] [] (d__law_is_name))) (aAndV (aB (aCall 1 [.ex (aOp [.pl 2, .ex (aC (.int 1))] (l2 gIx))] [] (d__law_is_row))) (aOp [.ex (aOp [.pl 2, .ex (aC (.int 0))] (l2 gIx)), .ex (aOp [.pl 2, .ex (aC (.int 1))] (l2 gIx))] (l2 gNotIn)))))) sNext)
    (sSeq (sIf (aB (aOp [.pl 1, .ex (aOp [.ex (aC (.str "after")), .ex (aC (.str "turns"))] gLstS)] (l2 gIn))) (sRet (aAndV (aB (aOp [.ex (aOp [.pl 2] (l1 gLen)), .ex (aC (.int 2))] (l2 gEq))) (aAndV (aB (aCall 1 [.ex (aOp [.pl 2, .ex (aC (.int 0))] (l2 gIx))] [] (d__law_is_name))) (aAndV (aB (aCall 1 [.ex (aOp [.pl 2, .ex (aC (.int 1))] (l2 gIx))] [] (d__law_is_name))) (aOp [.ex (aOp [.pl 2, .ex (aC (.int 0))] (l2 gIx)), .ex (aOp [.pl 2, .ex (aC (.int 1))] (l2 gIx))] (l2 gNe)))))) sNext)
    (sSeq (sIf (aOr (aB (aOp [.ex (aOp [.pl 2] (l1 gLen)), .ex (aC (.int 3))] (l2 gNe))) (aOr (aNot (aB (aCall 3 [.ex (aOp [.pl 2, .ex (aC (.int 0))] (l2 gIx)), .ex (aC (.int 1)), .ex (aC (.int 6))] [] (d__law_is_whole)))) (aNot (aB (aCall 1 [.ex (aOp [.pl 2, .ex (aC (.int 1))] (l2 gIx))] [] (d__law_is_name)))))) (sRet (aC (.bl false))) sNext)
    (sSeq (sIf (aB (aOp [.pl 1, .ex (aC (.str "within"))] (l2 gEq))) (sRet (aAndV (aB (aCall 1 [.ex (aOp [.pl 2, .ex (aC (.int 2))] (l2 gIx))] [] (d__law_is_name))) (aOp [.ex (aOp [.pl 2, .ex (aC (.int 1))] (l2 gIx)), .ex (aOp [.pl 2, .ex (aC (.int 2))] (l2 gIx))] (l2 gNe)))) sNext)
    (sSeq (sIf (aOr (aB (aOp [.pl 1, .ex (aC (.str "most"))] (l2 gNe))) (aOr (aNot (aB (aOp [.ex (aOp [.pl 2, .ex (aC (.int 2))] (l2 gIx))] (l1 (gIsi "tuple"))))) (aOr (aB (aOp [.ex (aOp [.ex (aOp [.pl 2, .ex (aC (.int 2))] (l2 gIx))] (l1 gLen)), .ex (aC (.int 3))] (l2 gGt))) (aB (aOp [.ex (aLc (aItems (aFz (aOp [.pl 2, .ex (aC (.int 2))] (l2 gIx)))) [3] (aN 3) (aNot (aB (aCall 1 [.pl 3] [] (d__law_is_name)))) (aVar 3)), .ex (aOp [] gLstS)] (l2 gNeE)))))) (sRet (aC (.bl false))) sNext)
    (sRet (aAndV (aB (aOp [.ex (aOp [.pl 2, .ex (aC (.int 1))] (l2 gIx)), .ex (aOp [.pl 2, .ex (aC (.int 2))] (l2 gIx))] (l2 gNotIn))) (aOp [.ex (aLc (aRng2 (.ex (aC (.int 1))) (.ex (aOp [.ex (aOp [.pl 2, .ex (aC (.int 2))] (l2 gIx))] (l1 gLen)))) [4] (aN 4) (aB (aOp [.ex (aOp [.ex (aOp [.pl 2, .ex (aC (.int 2))] (l2 gIx)), .pl 4] (l2 gIx)), .ex (aOp [.ex (aOp [.pl 2, .ex (aC (.int 2))] (l2 gIx)), .ex (aOp [.pl 4, .ex (aC (.int 1))] (l2 gSub))] (l2 gIx))] (l2 gLe))) (aVar 4)), .ex (aOp [] gLstS)] (l2 gEqE)))))))))))
noncomputable def b__law_many (rec : aF) : aF := aDef [true] 2
    (sSeq (sIf (aOr (aNot (aB (aOp [.pl 0] (l1 (gIsi "tuple"))))) (aOr (aB (aOp [.pl 0, .ex (aOp [] gTup)] (l2 gEqE))) (aNot (aB (aOp [.ex (aOp [.pl 0, .ex (aC (.int 0))] (l2 gIx))] (l1 (gIsi "str"))))))) (sRet (aC (.int 100))) sNext)
    (sSeq (sIf (aB (aOp [.ex (aOp [.pl 0, .ex (aC (.int 0))] (l2 gIx)), .ex (aOp [.ex (aC (.str "and")), .ex (aC (.str "or"))] gLstS)] (l2 gNotIn))) (sRet (aIfE (aB (aCall 1 [.pl 0] [] (d__law_is_plain))) (aC (.int 1)) (aC (.int 100)))) sNext)
    (sSeq (sIf (aOr (aB (aOp [.ex (aOp [.pl 0] (l1 gLen)), .ex (aC (.int 2))] (l2 gNe))) (aOr (aNot (aB (aOp [.ex (aOp [.pl 0, .ex (aC (.int 1))] (l2 gIx))] (l1 (gIsi "tuple"))))) (aNot (aB (aChain gLe gLe (aC (.int 2)) (aOp [.ex (aOp [.pl 0, .ex (aC (.int 1))] (l2 gIx))] (l1 gLen)) (aC (.int 6))))))) (sRet (aC (.int 100))) sNext)
    (sRet (aOp [.ex (aLc (aItems (aFz (aOp [.pl 0, .ex (aC (.int 1))] (l2 gIx)))) [1] (aN 1) aYes (aCall 1 [.pl 1] [] rec))] (l1 gSum))))))
noncomputable def d__law_many : Nat → aF
  | 0 => fun _ => .stuck
  | n + 1 => b__law_many (d__law_many n)
noncomputable def b__law_bent (rec : aF) : aF := aDef [true, true, true] 7
    (sSeq (sIf (aAnd (aB (aOp [.ex (aOp [.pl 1, .ex (aC (.int 0))] (l2 gIx)), .ex (aOp [.ex (aC (.str "and")), .ex (aC (.str "or"))] gLstS)] (l2 gIn))) (aB (aOp [.ex (aCall 2 [.pl 0, .ex (aC (.int 3))] [] (d__law_draw)), .ex (aC (.int 0))] (l2 gGt)))) (sSeq (sSet 4 (aCall 2 [.pl 0, .ex (aOp [.ex (aOp [.pl 1, .ex (aC (.int 1))] (l2 gIx))] (l1 gLen))] [] (d__law_draw)))
    (sRet (aOp [.ex (aFz (aOp [.pl 1, .ex (aC (.int 0))] (l2 gIx))), .ex (aFz (aOp [.ex (aOp [.ex (aSl (.ex (aOp [.pl 1, .ex (aC (.int 1))] (l2 gIx))) none (some (aVar 4)) gSl), .ex (aOp [.ex (aFz (aCall 3 [.pl 0, .ex (aOp [.ex (aOp [.pl 1, .ex (aC (.int 1))] (l2 gIx)), .pl 4] (l2 gIx)), .pl 2] [] rec))] gTup)] (l2 gAdd)), .ex (aSl (.ex (aOp [.pl 1, .ex (aC (.int 1))] (l2 gIx))) (some (aOp [.pl 4, .ex (aC (.int 1))] (l2 gAdd))) none gSl)] (l2 gAdd)))] gTup))) sNext)
    (sSeq (sPar 5 6 (aCall 2 [.pl 0, .pl 2] [] (d__law_pick)) (aCall 2 [.pl 0, .pl 2] [] (d__law_pick)))
    (sSeq (sSet 3 (aOp [.ex (aFz (aOp [.ex (aFz (aOp [.pl 1, .ex (aC (.int 0))] (l2 gIx)))] gTup)), .ex (aFz (aOp [.pl 1, .ex (aOp [.ex (aVar 1)] gTup)] (l2 gAdd))), .ex (aFz (aOp [.pl 1] (l1 gList))), .ex (aFz (aOp [.ex (aC (.str "not")), .ex (aVar 1)] gTup)), .ex (aFz (aOp [.ex (aC (.str "and")), .ex (aFz (aOp [.ex (aVar 1)] gTup))] gTup)), .ex (aFz (aOp [.ex (aC (.str "or")), .ex (aFz (aOp [.ex (aVar 1), .ex (aVar 1)] gLstS))] gTup)), .ex (aFz (aOp [.ex (aC (.str "and")), .ex (aFz (aOp [.ex (aVar 1), .ex (aVar 1)] gTup))] gTup)), .ex (aFz (aOp [.ex (aC (.str "or")), .ex (aFz (aOp [.ex (aOp [.ex (aVar 1)] gTup), .ex (aC (.int 7))] (l2 gMulT)))] gTup))] gLstS))
    (sSeq (sSet 3 (aOp [.pl 3, .ex (aOp [.ex (aFz (aOp [.ex (aC (.str "never")), .ex (aFz (aOp [] gTup))] gTup)), .ex (aFz (aOp [.ex (aC (.str "never")), .ex (aFz (aOp [.ex (aOp [.ex (aVar 5)] gTup), .ex (aC (.int 5))] (l2 gMulT)))] gTup)), .ex (aFz (aOp [.ex (aC (.str "never")), .ex (aFz (aOp [.ex (aOp [.ex (aVar 5)] gTup), .ex (aC (.int 6))] (l2 gMulT)))] gTup)), .ex (aFz (aOp [.ex (aC (.str "never")), .ex (aFz (aOp [.ex (aVar 5)] gLstS))] gTup)), .ex (aFz (aOp [.ex (aC (.str "never")), .ex (aVar 5)] gTup)), .ex (aFz (aOp [.ex (aC (.str "never")), .ex (aFz (aOp [.ex (aVar 5), .ex (aC .non)] gTup))] gTup)), .ex (aFz (aOp [.ex (aC (.str "until")), .ex (aVar 5), .ex (aFz (aOp [.ex (aVar 5)] gTup))] gTup)), .ex (aFz (aOp [.ex (aC (.str "until")), .ex (aVar 5), .ex (aFz (aOp [.ex (aVar 6)] gTup))] gTup)), .ex (aFz (aOp [.ex (aC (.str "until")), .ex (aC (.str "zz")), .ex (aFz (aOp [] gTup))] gTup)), .ex (aFz (aOp [.ex (aC (.str "until")), .ex (aC (.str "zz")), .ex (aFz (aOp [.ex (aOp [.ex (aVar 5)] gTup), .ex (aC (.int 5))] (l2 gMulT)))] gTup)), .ex (aFz (aOp [.ex (aC (.str "until")), .ex (aC (.str "zz")), .ex (aFz (aOp [.ex (aOp [.ex (aVar 5)] gTup), .ex (aC (.int 6))] (l2 gMulT)))] gTup)), .ex (aFz (aOp [.ex (aC (.str "until")), .ex (aC (.str "zz")), .ex (aFz (aOp [.ex (aVar 5)] gLstS))] gTup))] gLstS)] (l2 gAdd)))
    (sSeq (sSet 3 (aOp [.pl 3, .ex (aOp [.ex (aFz (aOp [.ex (aC (.str "most")), .ex (aC (.int 0)), .ex (aVar 5), .ex (aFz (aOp [] gTup))] gTup)), .ex (aFz (aOp [.ex (aC (.str "most")), .ex (aC (.int 6)), .ex (aVar 5), .ex (aFz (aOp [] gTup))] gTup)), .ex (aFz (aOp [.ex (aC (.str "most")), .ex (aC (.int 7)), .ex (aVar 5), .ex (aFz (aOp [] gTup))] gTup)), .ex (aFz (aOp [.ex (aC (.str "most")), .ex (aC (.bl true)), .ex (aVar 5), .ex (aFz (aOp [] gTup))] gTup)), .ex (aFz (aOp [.ex (aC (.str "most")), .ex (aC (.int 2)), .ex (aVar 5)] gTup)), .ex (aFz (aOp [.ex (aC (.str "most")), .ex (aC (.int 2)), .ex (aVar 5), .ex (aFz (aOp [.ex (aVar 6)] gTup))] gTup)), .ex (aFz (aOp [.ex (aC (.str "most")), .ex (aC (.int 2)), .ex (aVar 5), .ex (aFz (aOp [.ex (aVar 6)] gLstS))] gTup)), .ex (aFz (aOp [.ex (aC (.str "most")), .ex (aC (.int 1)), .ex (aC (.str "zz")), .ex (aFz (aOp [.ex (aVar 6), .ex (aVar 5)] gTup))] gTup))] gLstS)] (l2 gAdd)))
    (sSeq (sSet 3 (aOp [.pl 3, .ex (aOp [.ex (aFz (aOp [.ex (aC (.str "most")), .ex (aC (.int 1)), .ex (aC (.str "zz")), .ex (aFz (aOp [.ex (aOp [.pl 2] (l1 gSrtSet))] (l1 gTuple)))] gTup)), .ex (aFz (aOp [.ex (aC (.str "within")), .ex (aC (.int 2)), .ex (aVar 5), .ex (aVar 6)] gTup)), .ex (aFz (aOp [.ex (aC (.str "within")), .ex (aC (.int 2)), .ex (aVar 5), .ex (aVar 5)] gTup)), .ex (aFz (aOp [.ex (aC (.str "within")), .ex (aC (.int 7)), .ex (aVar 5), .ex (aVar 6)] gTup)), .ex (aFz (aOp [.ex (aC (.str "within")), .ex (aVar 5), .ex (aVar 6)] gTup)), .ex (aFz (aOp [.ex (aC (.str "within")), .ex (aC (.int 2)), .ex (aVar 5), .ex (aC .non)] gTup))] gLstS)] (l2 gAdd)))
    (sSeq (sSet 3 (aOp [.pl 3, .ex (aOp [.ex (aFz (aOp [.ex (aC (.str "after")), .ex (aVar 5), .ex (aVar 6)] gTup)), .ex (aFz (aOp [.ex (aC (.str "after")), .ex (aVar 5), .ex (aVar 5)] gTup)), .ex (aFz (aOp [.ex (aC (.str "turns")), .ex (aVar 5)] gTup)), .ex (aFz (aOp [.ex (aC (.str "turns")), .ex (aVar 5), .ex (aC (.int 5))] gTup)), .ex (aFz (aOp [.ex (aC (.str "turns")), .ex (aVar 5), .ex (aVar 6), .ex (aVar 5)] gTup)), .ex (aFz (aOp [.ex (aC (.str "then")), .ex (aFz (aOp [.ex (aVar 5)] gTup))] gTup)), .ex (aFz (aOp [.ex (aC .non), .ex (aFz (aOp [.ex (aVar 5)] gTup))] gTup)), .ex (aFz (aOp [] gTup)), .ex (aC .non), .ex (aC (.int 5)), .ex (aFz (aOp [.pl 1, .ex (aC (.int 0))] (l2 gIx)))] gLstS)] (l2 gAdd)))
    (sRet (aCall 2 [.pl 0, .pl 3] [] (d__law_pick))))))))))
noncomputable def d__law_bent : Nat → aF
  | 0 => fun _ => .stuck
  | n + 1 => b__law_bent (d__law_bent n)
noncomputable def d__law_judged : aF := aDef [true] 1
    (sRet (aCall 2 [.ex (aCall 1 [.pl 0] [] (d_is_sentence)), .ex (aOp [.ex (aCall 1 [.pl 0] [] (d__law_many 8)), .ex (aC (.int 8))] (l2 gLe))] [] (d__law_same 8)))
noncomputable def d_law : aF := aDef [true] 9
    (sSeq (sSet 1 (aCall 1 [.pl 0] [] (d__law_pen)))
    (sSeq (sFor (aRng1 (aC (.int 5))) (aN 2) (sSeq (sSet 5 (aCall 2 [.pl 1, .ex (aOp [.ex (aC (.int 1)), .ex (aCall 2 [.pl 1, .ex (aC (.int 5))] [] (d__law_draw))] (l2 gAdd))] [] (d__law_calls)))
    (sSeq (sSet 6 (aCall 4 [.pl 1, .pl 5, .ex (aOp [.ex (aC (.int 1)), .ex (aCall 2 [.pl 1, .ex (aC (.int 10))] [] (d__law_draw))] (l2 gAdd)), .ex (aOp [.ex (aC (.int 1)), .ex (aCall 2 [.pl 1, .ex (aC (.int 3))] [] (d__law_draw))] (l2 gAdd))] [] (d__law_some_sentence 8)))
    (sSeq (sIf (aNot (aB (aCall 1 [.pl 6] [] (d__law_judged)))) (sRet (aC (.bl false))) sNext)
    (sSeq (sIf (aAnd (aB (aOp [.ex (aCall 1 [.pl 6] [] (d__law_many 8)), .ex (aC (.int 8))] (l2 gLe))) (aB (aOp [.ex (aOp [.ex (aCall 1 [.pl 6] [] (d_names_of))] (l1 gRepr)), .ex (aOp [.ex (aOp [.ex (aCall 1 [.pl 6] [] (d__law_sentence_names))] (l1 gTuple))] (l1 gRepr))] (l2 gNe)))) (sRet (aC (.bl false))) sNext)
    (sFor (aRng1 (aC (.int 6))) (aN 7) (sSeq (sSet 8 (aCall 3 [.pl 1, .pl 6, .pl 5] [] (d__law_bent 8)))
    (sIf (aOr (aNot (aB (aCall 1 [.pl 8] [] (d__law_judged)))) (aOr (aNot (aB (aCall 1 [.ex (aOp [.ex (aC (.str "and")), .ex (aFz (aOp [.ex (aVar 8), .ex (aVar 6)] gTup))] gTup)] [] (d__law_judged)))) (aNot (aB (aCall 1 [.ex (aOp [.ex (aC (.str "or")), .ex (aFz (aOp [.ex (aVar 6), .ex (aVar 8), .ex (aVar 8)] gTup))] gTup)] [] (d__law_judged)))))) (sRet (aC (.bl false))) sNext))))))))
    (sSeq (sSet 3 (aOp [.ex (aC (.str "never")), .ex (aFz (aOp [.ex (aC (.str "a"))] gTup))] gTup))
    (sSeq (sFor (aRng1 (aC (.int 3000))) (aN 2) (sSet 3 (aOp [.ex (aC (.str "and")), .ex (aFz (aOp [.ex (aVar 3), .ex (aFz (aOp [.ex (aC (.str "never")), .ex (aFz (aOp [.ex (aC (.str "b"))] gTup))] gTup))] gTup))] gTup)))
    (sSeq (sSet 4 (aOp [.ex (aC (.str "never")), .ex (aFz (aOp [.ex (aC (.str "a"))] gTup))] gTup))
    (sSeq (sFor (aRng1 (aC (.int 50))) (aN 2) (sSet 4 (aOp [.ex (aFz (aCall 2 [.pl 1, .ex (aOp [.ex (aC (.str "and")), .ex (aC (.str "or"))] gLstS)] [] (d__law_pick))), .ex (aFz (aOp [.ex (aVar 4), .ex (aVar 4)] gTup))] gTup)))
    (sRet (aAndV (aB (aOp [.ex (aCall 1 [.pl 4] [] (d_is_sentence))] (l1 (gIsB false)))) (aAndV (aB (aOp [.ex (aCall 1 [.pl 3] [] (d_is_sentence))] (l1 (gIsB false)))) (aCall 1 [.ex (aCall 2 [.pl 1, .ex (aOp [.ex (aC .non), .ex (aC (.int 5)), .ex (aC (.str "never")), .ex (aFz aNewD), .ex (aFz (aOp [.ex (aC (.str "never")), .ex (aFz (aOp [.ex (aC (.str "a"))] gTup))] gLstS)), .ex (aC (.bl true)), .ex (aFz (aOp [.ex (aC (.str "and"))] gTup)), .ex (aFz (aOp [.ex (aFz (aOp [] gTup))] gTup))] gLstS)] [] (d__law_pick))] [] (d__law_judged)))))))))))
section
variable {Γ : Gb} {mg : Str → Option Value} {base : Heap}
abbrev s_is_whole : Stmt := top 1
theorem sc_is_whole : FnScope ["value", "least", "most"] ["value", "least", "most"] (defScope s_is_whole) := ⟨rfl, rfl, rfl, by decide +kernel, rfl, by decide +kernel, by decide +kernel⟩
set_option maxHeartbeats 2000000 in
theorem ok_is_whole {f : Addr} {fd : FuncData} (F : FunD Γ.K "is_whole" "is_whole" (defArgs s_is_whole) (defBody s_is_whole) (defScope s_is_whole) [toV (.non)] [] f fd)
    (z_isinstance : mg "isinstance" = none)
    (z_int : mg "int" = none)
    (z_bool : mg "bool" = none) :
    FnOk Γ.prog Γ.w Γ.K mg base (L2.CX Γ.prog Γ.w) (0 + 1) f fd ["value", "least", "most"] (spD Γ 3 (d_is_whole)) := by
  have S := sc_is_whole
  refine fn_defD (pb := [true, true, true]) (m := 3) F S rfl rfl fun cdv A outer s H E hr tk hp => ?_
  exact ⟨_, (al_cons (as_if (at_w (aw_or (at_not (at_val (ae_isi rfl z_isinstance (ao_pl 0) z_int boot_int))) (aw_or (at_val (ae_isi rfl z_isinstance (ao_pl 0) z_bool boot_bool)) (aw_or1 (at_cmp ok_lt or_lt (ao_pl 0) (ao_pl 1)))))) (al_one (as_ret ae_bl)) al_nil)
      (al_one (as_ret (ae_or2 (ae_isN (ao_pl 2)) (ae_one (ae_cmp ok_le or_le (ao_pl 0) (ao_pl 2)))))))⟩
abbrev s_ascending : Stmt := top 2
theorem sc_ascending : FnScope ["names"] ["names"] (defScope s_ascending) := ⟨rfl, rfl, rfl, by decide +kernel, rfl, by decide +kernel, by decide +kernel⟩
set_option maxHeartbeats 2000000 in
theorem ok_ascending {f : Addr} {fd : FuncData} (F : Fun Γ.K "ascending" "ascending" s_ascending f fd)
    (z_sorted : mg "sorted" = none)
    (z_set : mg "set" = none)
    (z_tuple : mg "tuple" = none) :
    FnOk Γ.prog Γ.w Γ.K mg base (L2.CX Γ.prog Γ.w) (0 + 1) f fd ["names"] (spD Γ 1 (d_ascending)) := by
  have S := sc_ascending
  refine fn_def (pb := [true]) (m := 1) F S rfl rfl fun cdv A outer s H E hr tk hp => ?_
  exact ⟨_, (al_one (as_ret (ae_t1 ok_tuple call_tuple_of z_tuple boot_tuple (ao_ex (ae_srtSet rfl rfl rfl rfl z_sorted z_set (ao_pl 0))))))⟩
abbrev s_is_name : Stmt := top 4
theorem sc_is_name : FnScope ["value"] ["value"] (defScope s_is_name) := ⟨rfl, rfl, rfl, by decide +kernel, rfl, by decide +kernel, by decide +kernel⟩
set_option maxHeartbeats 2000000 in
theorem ok_is_name {f : Addr} {fd : FuncData} (F : Fun Γ.K "is_name" "is_name" s_is_name f fd)
    (z_isinstance : mg "isinstance" = none)
    (z_str : mg "str" = none)
    (z_len : mg "len" = none) :
    FnOk Γ.prog Γ.w Γ.K mg base (L2.CX Γ.prog Γ.w) (0 + 1) f fd ["value"] (spD Γ 1 (d_is_name)) := by
  have S := sc_is_name
  refine fn_def (pb := [true]) (m := 1) F S rfl rfl fun cdv A outer s H E hr tk hp => ?_
  exact ⟨_, (al_cons (as_if (at_w (aw_or (at_not (at_val (ae_isi rfl z_isinstance (ao_pl 0) z_str boot_str))) (aw_or (at_not (at_chain ok_le or_le ok_le or_le ae_int (ae_b1 ok_len or_len z_len PySem.boot_len (ao_pl 0)) ae_int)) (aw_or1 (at_not (at_val (ae_stT PySem.F.slot_str_isascii PySem.F.type_str_isascii m_isascii (ao_pl 0)))))))) (al_one (as_ret ae_bl)) al_nil)
      (al_one (as_ret (ae_and2 (ae_stT PySem.F.slot_str_isalnum PySem.F.type_str_isalnum m_isalnum (ao_pl 0)) (ae_and2 (ae_stT PySem.F.slot_str_islower PySem.F.type_str_islower m_islower (ao_pl 0)) (ae_one (ae_stT PySem.F.slot_str_isalpha PySem.F.type_str_isalpha m_isalpha (ao_ex (ae_ix hr rfl (ao_pl 0) (ao_ex ae_int))))))))))⟩
abbrev s_is_word : Stmt := top 5
theorem sc_is_word : FnScope ["value", "call"] ["value"] (defScope s_is_word) := ⟨rfl, rfl, rfl, by decide +kernel, rfl, by decide +kernel, by decide +kernel⟩
set_option maxHeartbeats 2000000 in
theorem ok_is_word {f : Addr} {fd : FuncData} (F : Fun Γ.K "is_word" "is_word" s_is_word f fd)
    (C_is_name : Cl Γ mg base 1 "is_name" 1 [] (d_is_name))
    (z_isinstance : mg "isinstance" = none)
    (z_tuple : mg "tuple" = none)
    (z_all : mg "all" = none) :
    FnOk Γ.prog Γ.w Γ.K mg base (L2.CX Γ.prog Γ.w) (1 + 1) f fd ["value"] (spD Γ 1 (d_is_word)) := by
  have S := sc_is_word
  refine fn_def (pb := [true]) (m := 2) F S rfl rfl fun cdv A outer s H E hr tk hp => ?_
  exact ⟨_, (al_one (as_ret (ae_and2 (ae_isi rfl z_isinstance (ao_pl 0) z_tuple boot_tuple) (ae_one (ae_b1 ok_all (cr_all rfl) z_all b_all (ao_ex (ae_lc [("call", 1)] S.nd (ai_any rfl (ae_var 0)) (fun _ _ _ _ _ => (ag_name 1 S.nd)) (fun _ _ _ _ _ => apt_nil) (fun _ _ _ _ _ => (ae_call rfl rfl rfl C_is_name (hr.mono (by decide : 1 ≤ 1)) takes0 (aa_cons (ao_pl 1) aa_nil))))))))))⟩
abbrev s_is_short : Stmt := top 13
theorem sc_is_short : FnScope ["value"] ["value"] (defScope s_is_short) := ⟨rfl, rfl, rfl, by decide +kernel, rfl, by decide +kernel, by decide +kernel⟩
set_option maxHeartbeats 2000000 in
theorem ok_is_short {f : Addr} {fd : FuncData} (F : Fun Γ.K "is_short" "is_short" s_is_short f fd)
    (C_is_word : Cl Γ mg base 2 "is_word" 1 [] (d_is_word))
    (z_len : mg "len" = none)
    (g_MOST_CALLS : GC Γ mg "MOST_CALLS" (toV c_MOST_CALLS) c_MOST_CALLS) :
    FnOk Γ.prog Γ.w Γ.K mg base (L2.CX Γ.prog Γ.w) (2 + 1) f fd ["value"] (spD Γ 1 (d_is_short)) := by
  have S := sc_is_short
  refine fn_def (pb := [true]) (m := 1) F S rfl rfl fun cdv A outer s H E hr tk hp => ?_
  exact ⟨_, (al_one (as_ret (ae_and2 (ae_call rfl rfl rfl C_is_word (hr.mono (by decide : 2 ≤ 2)) tk (aa_cons (ao_pl 0) aa_nil)) (ae_one (ae_chain ok_le or_le ok_le or_le ae_int (ae_b1 ok_len or_len z_len PySem.boot_len (ao_pl 0)) (ae_gc g_MOST_CALLS))))))⟩
abbrev s_are_resets : Stmt := top 14
theorem sc_are_resets : FnScope ["value", "call", "one", "two"] ["value", "call"] (defScope s_are_resets) := ⟨rfl, rfl, rfl, by decide +kernel, rfl, by decide +kernel, by decide +kernel⟩
set_option maxHeartbeats 2000000 in
theorem ok_are_resets {f : Addr} {fd : FuncData} (F : Fun Γ.K "are_resets" "are_resets" s_are_resets f fd)
    (C_is_word : Cl Γ mg base 2 "is_word" 1 [] (d_is_word))
    (z_len : mg "len" = none)
    (z_zip : mg "zip" = none)
    (z_all : mg "all" = none)
    (g_MOST_RESETS : GC Γ mg "MOST_RESETS" (toV c_MOST_RESETS) c_MOST_RESETS) :
    FnOk Γ.prog Γ.w Γ.K mg base (L2.CX Γ.prog Γ.w) (2 + 1) f fd ["value", "call"] (spD Γ 2 (d_are_resets)) := by
  have S := sc_are_resets
  refine fn_def (pb := [true, true]) (m := 4) F S rfl rfl fun cdv A outer s H E hr tk hp => ?_
  exact ⟨_, (al_cons (as_if (at_w (aw_or (at_not (at_val (ae_call rfl rfl rfl C_is_word (hr.mono (by decide : 2 ≤ 2)) tk (aa_cons (ao_pl 0) aa_nil)))) (aw_or (at_cmp ok_gt or_gt (ao_ex (ae_b1 ok_len or_len z_len PySem.boot_len (ao_pl 0))) (ao_ex (ae_gc g_MOST_RESETS))) (aw_or1 (at_cmp ok_in (or_in (room65 hr)) (ao_pl 1) (ao_pl 0)))))) (al_one (as_ret ae_bl)) al_nil)
      (al_one (as_ret (ae_b1 ok_all (cr_all rfl) z_all b_all (ao_ex (ae_lc [("one", 2), ("two", 3)] S.nd (ai_zip rfl z_zip (ae_var 0) (ae_fz (ae_sl rfl (ao_pl 0) (ap_some ae_int) ap_none))) (fun _ _ _ _ _ => (ag_unp (n := 2) rfl (ags_cons (ag_name 2 S.nd) (ags_cons (ag_name 3 S.nd) ags_nil)))) (fun _ _ _ _ _ => apt_nil) (fun _ _ _ _ _ => (ae_cmp ok_lt or_lt (ao_pl 2) (ao_pl 3)))))))))⟩
abbrev s_are_two : Stmt := top 15
theorem sc_are_two : FnScope ["value"] ["value"] (defScope s_are_two) := ⟨rfl, rfl, rfl, by decide +kernel, rfl, by decide +kernel, by decide +kernel⟩
set_option maxHeartbeats 2000000 in
theorem ok_are_two {f : Addr} {fd : FuncData} (F : Fun Γ.K "are_two" "are_two" s_are_two f fd)
    (C_is_name : Cl Γ mg base 1 "is_name" 1 [] (d_is_name))
    (z_len : mg "len" = none) :
    FnOk Γ.prog Γ.w Γ.K mg base (L2.CX Γ.prog Γ.w) (1 + 1) f fd ["value"] (spD Γ 1 (d_are_two)) := by
  have S := sc_are_two
  refine fn_def (pb := [true]) (m := 1) F S rfl rfl fun cdv A outer s H E hr tk hp => ?_
  exact ⟨_, (al_one (as_ret (ae_and2 (ae_cmp ok_eq (or_eq hr.units) (ao_ex (ae_b1 ok_len or_len z_len PySem.boot_len (ao_pl 0))) (ao_ex ae_int)) (ae_and2 (ae_call rfl rfl rfl C_is_name (hr.mono (by decide : 1 ≤ 1)) tk (aa_cons (ao_ex (ae_ix hr rfl (ao_pl 0) (ao_ex ae_int))) aa_nil)) (ae_and2 (ae_call rfl rfl rfl C_is_name (hr.mono (by decide : 1 ≤ 1)) tk (aa_cons (ao_ex (ae_ix hr rfl (ao_pl 0) (ao_ex ae_int))) aa_nil)) (ae_one (ae_cmp ok_ne (or_ne hr.units) (ao_ex (ae_ix hr rfl (ao_pl 0) (ao_ex ae_int))) (ao_ex (ae_ix hr rfl (ao_pl 0) (ao_ex ae_int))))))))))⟩
abbrev s_is_plain : Stmt := top 16
theorem sc_is_plain : FnScope ["value", "kind", "rest"] ["value"] (defScope s_is_plain) := ⟨rfl, rfl, rfl, by decide +kernel, rfl, by decide +kernel, by decide +kernel⟩
set_option maxHeartbeats 2000000 in
theorem ok_is_plain {f : Addr} {fd : FuncData} (F : Fun Γ.K "is_plain" "is_plain" s_is_plain f fd)
    (C_is_short : Cl Γ mg base 3 "is_short" 1 [] (d_is_short))
    (C_is_name : Cl Γ mg base 1 "is_name" 1 [] (d_is_name))
    (C_are_two : Cl Γ mg base 2 "are_two" 1 [] (d_are_two))
    (C_is_whole_0 : Cl Γ mg base 1 "is_whole" 3 [] (d_is_whole))
    (C_is_whole_1 : Cl Γ mg base 1 "is_whole" 3 [.non] (d_is_whole))
    (C_are_resets : Cl Γ mg base 3 "are_resets" 2 [] (d_are_resets))
    (z_len : mg "len" = none)
    (g_MOST_MANY : GC Γ mg "MOST_MANY" (toV c_MOST_MANY) c_MOST_MANY) :
    FnOk Γ.prog Γ.w Γ.K mg base (L2.CX Γ.prog Γ.w) (3 + 1) f fd ["value"] (spD Γ 1 (d_is_plain)) := by
  have S := sc_is_plain
  refine fn_def (pb := [true]) (m := 3) F S rfl rfl fun cdv A outer s H E hr tk hp => ?_
  exact ⟨_, (al_cons (as_par 1 2 S.nd (ae_ix hr rfl (ao_pl 0) (ao_ex ae_int)) (ae_sl rfl (ao_pl 0) (ap_some ae_int) ap_none))
      (al_cons (as_if (at_cmp ok_eq (or_eq hr.units) (ao_pl 1) (ao_ex ae_str)) (al_one (as_ret (ae_and2 (ae_cmp ok_eq (or_eq hr.units) (ao_ex (ae_b1 ok_len or_len z_len PySem.boot_len (ao_pl 2))) (ao_ex ae_int)) (ae_one (ae_call rfl rfl rfl C_is_short (hr.mono (by decide : 3 ≤ 3)) tk (aa_cons (ao_ex (ae_ix hr rfl (ao_pl 2) (ao_ex ae_int))) aa_nil)))))) al_nil)
      (al_cons (as_if (at_cmp ok_eq (or_eq hr.units) (ao_pl 1) (ao_ex ae_str)) (al_one (as_ret (ae_and2 (ae_cmp ok_eq (or_eq hr.units) (ao_ex (ae_b1 ok_len or_len z_len PySem.boot_len (ao_pl 2))) (ao_ex ae_int)) (ae_and2 (ae_call rfl rfl rfl C_is_name (hr.mono (by decide : 1 ≤ 3)) tk (aa_cons (ao_ex (ae_ix hr rfl (ao_pl 2) (ao_ex ae_int))) aa_nil)) (ae_and2 (ae_call rfl rfl rfl C_is_short (hr.mono (by decide : 3 ≤ 3)) tk (aa_cons (ao_ex (ae_ix hr rfl (ao_pl 2) (ao_ex ae_int))) aa_nil)) (ae_one (ae_cmp ok_notIn (or_notIn (room65 hr)) (ao_ex (ae_ix hr rfl (ao_pl 2) (ao_ex ae_int))) (ao_ex (ae_ix hr rfl (ao_pl 2) (ao_ex ae_int)))))))))) al_nil)
      (al_cons (as_if (at_cmp ok_in (or_in (room65 hr)) (ao_pl 1) (ao_ex (ae_tup (aa_cons (ao_ex ae_str) (aa_cons (ao_ex ae_str) aa_nil))))) (al_one (as_ret (ae_call rfl rfl rfl C_are_two (hr.mono (by decide : 2 ≤ 3)) tk (aa_cons (ao_pl 2) aa_nil)))) al_nil)
      (al_cons (as_if (at_w (aw_or (at_cmp ok_ne (or_ne hr.units) (ao_ex (ae_b1 ok_len or_len z_len PySem.boot_len (ao_pl 2))) (ao_ex ae_int)) (aw_or1 (at_not (at_val (ae_call rfl rfl rfl C_is_whole_0 (hr.mono (by decide : 1 ≤ 3)) tk (aa_cons (ao_ex (ae_ix hr rfl (ao_pl 2) (ao_ex ae_int))) (aa_cons (ao_ex ae_int) (aa_cons (ao_ex (ae_gc g_MOST_MANY)) aa_nil))))))))) (al_one (as_ret ae_bl)) al_nil)
      (al_cons (as_if (at_cmp ok_eq (or_eq hr.units) (ao_pl 1) (ao_ex ae_str)) (al_one (as_ret (ae_call rfl rfl rfl C_are_two (hr.mono (by decide : 2 ≤ 3)) tk (aa_cons (ao_ex (ae_sl rfl (ao_pl 2) (ap_some ae_int) ap_none)) aa_nil)))) al_nil)
      (al_one (as_ret (ae_and2 (ae_cmp ok_eq (or_eq hr.units) (ao_pl 1) (ao_ex ae_str)) (ae_and2 (ae_call rfl rfl rfl C_is_name (hr.mono (by decide : 1 ≤ 3)) tk (aa_cons (ao_ex (ae_ix hr rfl (ao_pl 2) (ao_ex ae_int))) aa_nil)) (ae_one (ae_call rfl rfl rfl C_are_resets (hr.mono (by decide : 3 ≤ 3)) tk (aa_cons (ao_ex (ae_ix hr rfl (ao_pl 2) (ao_ex ae_int))) (aa_cons (ao_ex (ae_ix hr rfl (ao_pl 2) (ao_ex ae_int))) aa_nil))))))))))))))⟩
abbrev s_plain_among : Stmt := top 17
theorem sc_plain_among : FnScope ["parts", "many", "line", "value"] ["parts"] (defScope s_plain_among) := ⟨rfl, rfl, rfl, by decide +kernel, rfl, by decide +kernel, by decide +kernel⟩
set_option maxHeartbeats 2000000 in
theorem ok_plain_among {f : Addr} {fd : FuncData} (F : Fun Γ.K "plain_among" "plain_among" s_plain_among f fd)
    (C_is_plain : Cl Γ mg base 4 "is_plain" 1 [] (d_is_plain))
    (z_list : mg "list" = none)
    (z_isinstance : mg "isinstance" = none)
    (z_tuple : mg "tuple" = none)
    (z_len : mg "len" = none)
    (z_str : mg "str" = none)
    {a_JOINTS : Addr} (g_JOINTS : GC Γ mg "JOINTS" (.ref a_JOINTS) c_JOINTS)
    (g_MOST_PARTS : GC Γ mg "MOST_PARTS" (toV c_MOST_PARTS) c_MOST_PARTS)
    (g_MOST_PLAIN : GC Γ mg "MOST_PLAIN" (toV c_MOST_PLAIN) c_MOST_PLAIN) :
    FnOk Γ.prog Γ.w Γ.K mg base (L2.CX Γ.prog Γ.w) (4 + 1) f fd ["parts"] (spD Γ 1 (d_plain_among)) := by
  have S := sc_plain_among
  refine fn_def (pb := [true]) (m := 4) F S rfl rfl fun cdv A outer s H E hr tk hp => ?_
  exact ⟨_, (al_cons (as_par 1 2 S.nd ae_int (ae_t1 ok_list (or_list rfl) z_list boot_list (ao_pl 0)))
      (al_cons (as_while hp (at_cmp ok_neE (or_neE hr.units0) (ao_pl 2) (ao_ex (ae_lst aa_nil))) (al_cons (as_set 3 S.nd (ae_meth0 2 rfl m_pop mt_pop PySem.F.plainAttrs_list PySem.F.slot_list_pop PySem.F.type_list_pop))
      (al_cons (as_if (at_w (aw_or (at_not (at_val (ae_isi rfl z_isinstance (ao_pl 3) z_tuple boot_tuple))) (aw_or (at_cmp ok_eq (or_eq hr.units) (ao_ex (ae_b1 ok_len or_len z_len PySem.boot_len (ao_pl 3))) (ao_ex ae_int)) (aw_or1 (at_not (at_val (ae_isi rfl z_isinstance (ao_ex (ae_ix hr rfl (ao_pl 3) (ao_ex ae_int))) z_str boot_str))))))) (al_one (as_ret ae_non)) al_nil)
      (al_cons (as_if (at_cmp ok_notIn (or_notIn (room65 hr)) (ao_ex (ae_ix hr rfl (ao_pl 3) (ao_ex ae_int))) (ao_ex (ae_gc g_JOINTS))) (al_cons (as_if (at_not (at_val (ae_call rfl rfl rfl C_is_plain (hr.mono (by decide : 4 ≤ 4)) tk (aa_cons (ao_pl 3) aa_nil)))) (al_one (as_ret ae_non)) al_nil)
      (al_one (as_aug 1 S.nd ok_addI ip_add ae_int))) (al_one (as_if (at_w (aw_or (at_cmp ok_ne (or_ne hr.units) (ao_ex (ae_b1 ok_len or_len z_len PySem.boot_len (ao_pl 3))) (ao_ex ae_int)) (aw_or (at_not (at_val (ae_isi rfl z_isinstance (ao_ex (ae_ix hr rfl (ao_pl 3) (ao_ex ae_int))) z_tuple boot_tuple))) (aw_or1 (at_not (at_chain ok_le or_le ok_le or_le ae_int (ae_b1 ok_len or_len z_len PySem.boot_len (ao_ex (ae_ix hr rfl (ao_pl 3) (ao_ex ae_int)))) (ae_gc g_MOST_PARTS))))))) (al_one (as_ret ae_non)) (al_one (as_expr (ae_meth 2 rfl m_extA mt_extA PySem.F.plainAttrs_list PySem.F.slot_list_extend PySem.F.type_list_extend (aa_cons (ao_ex (ae_ix hr rfl (ao_pl 3) (ao_ex ae_int))) aa_nil)))))))
      (al_one (as_if (at_cmp ok_gt or_gt (ao_ex (ae_bin ok_add or_add (ao_pl 1) (ao_ex (ae_b1 ok_len or_len z_len PySem.boot_len (ao_pl 2))))) (ao_ex (ae_gc g_MOST_PLAIN))) (al_one (as_ret ae_non)) al_nil))))))
      (al_one (as_ret (ae_move 1)))))⟩
abbrev s_is_sentence : Stmt := top 18
theorem sc_is_sentence : FnScope ["value"] ["value"] (defScope s_is_sentence) := ⟨rfl, rfl, rfl, by decide +kernel, rfl, by decide +kernel, by decide +kernel⟩
set_option maxHeartbeats 2000000 in
theorem ok_is_sentence {f : Addr} {fd : FuncData} (F : Fun Γ.K "is_sentence" "is_sentence" s_is_sentence f fd)
    (C_plain_among : Cl Γ mg base 5 "plain_among" 1 [] (d_plain_among)) :
    FnOk Γ.prog Γ.w Γ.K mg base (L2.CX Γ.prog Γ.w) (5 + 1) f fd ["value"] (spD Γ 1 (d_is_sentence)) := by
  have S := sc_is_sentence
  refine fn_def (pb := [true]) (m := 1) F S rfl rfl fun cdv A outer s H E hr tk hp => ?_
  exact ⟨_, (al_one (as_ret (ae_notN (ao_ex (ae_call rfl rfl rfl C_plain_among (hr.mono (by decide : 5 ≤ 5)) tk (aa_cons (ao_ex (ae_tup (aa_cons (ao_ex (ae_var 0)) aa_nil))) aa_nil))))))⟩
abbrev s_plain_of : Stmt := top 19
theorem sc_plain_of : FnScope ["sentence", "part", "plain"] ["sentence"] (defScope s_plain_of) := ⟨rfl, rfl, rfl, by decide +kernel, rfl, by decide +kernel, by decide +kernel⟩
set_option maxHeartbeats 2000000 in
theorem ok_plain_of {n : Nat} {f : Addr} {fd : FuncData} (F : Fun Γ.K "plain_of" "plain_of" s_plain_of f fd)
    (C_plain_of : Cl Γ mg base (0 + n) "plain_of" 1 [] (d_plain_of n))
    {a_JOINTS : Addr} (g_JOINTS : GC Γ mg "JOINTS" (.ref a_JOINTS) c_JOINTS) :
    FnOk Γ.prog Γ.w Γ.K mg base (L2.CX Γ.prog Γ.w) (0 + n + 1) f fd ["sentence"] (spD Γ 1 (b_plain_of (d_plain_of n))) := by
  have S := sc_plain_of
  refine fn_def (pb := [true]) (m := 3) F S rfl rfl fun cdv A outer s H E hr tk hp => ?_
  exact ⟨_, (al_cons (as_if (at_cmp ok_in (or_in (room65 hr)) (ao_ex (ae_ix hr rfl (ao_pl 0) (ao_ex ae_int))) (ao_ex (ae_gc g_JOINTS))) (al_one (as_ret (ae_lc2 [("part", 1), ("plain", 2)] [2] S.nd (ai_any rfl (ae_fz (ae_ix hr rfl (ao_pl 0) (ao_ex ae_int)))) (fun _ _ _ _ _ => (ag_name 1 S.nd)) (fun _ _ _ _ _ => apt_nil) (fun _ _ _ _ _ => (ai_any rfl (ae_fz (ae_call rfl rfl rfl C_plain_of (hr.mono (Nat.le_refl _)) takes0 (aa_cons (ao_pl 1) aa_nil))))) (fun _ _ _ _ _ => (ag_name 2 S.nd)) (fun _ _ _ _ _ => apt_nil) (fun _ _ _ _ _ => (ae_var 2))))) al_nil)
      (al_one (as_ret (ae_lst (aa_cons (ao_ex (ae_var 0)) aa_nil)))))⟩
abbrev s_names_in : Stmt := top 20
theorem sc_names_in : FnScope ["plain", "found", "part"] ["plain"] (defScope s_names_in) := ⟨rfl, rfl, rfl, by decide +kernel, rfl, by decide +kernel, by decide +kernel⟩
set_option maxHeartbeats 2000000 in
theorem ok_names_in {f : Addr} {fd : FuncData} (F : Fun Γ.K "names_in" "names_in" s_names_in f fd)
    (z_isinstance : mg "isinstance" = none)
    (z_tuple : mg "tuple" = none)
    (z_list : mg "list" = none)
    (z_str : mg "str" = none) :
    FnOk Γ.prog Γ.w Γ.K mg base (L2.CX Γ.prog Γ.w) (0 + 1) f fd ["plain"] (spD Γ 1 (d_names_in)) := by
  have S := sc_names_in
  refine fn_def (pb := [true]) (m := 3) F S rfl rfl fun cdv A outer s H E hr tk hp => ?_
  exact ⟨_, (al_cons (as_set 1 S.nd (ae_lst aa_nil))
      (al_cons (as_for (vs := [2]) hp (ai_any rfl (ae_fz (ae_sl rfl (ao_pl 0) (ap_some ae_int) ap_none))) (ag_name 2 S.nd) (al_one (as_set 1 S.nd (ae_bin ok_add or_add (ao_pl 1) (ao_ex (ae_ifE (at_val (ae_isi rfl z_isinstance (ao_pl 2) z_tuple boot_tuple)) (ae_t1 ok_list (or_list rfl) z_list boot_list (ao_pl 2)) (ae_lst (aa_cons (ao_ex (ae_var 2)) aa_nil))))))))
      (al_one (as_ret (ae_lc [("part", 2)] S.nd (ai_any rfl (ae_var 1)) (fun _ _ _ _ _ => (ag_name 2 S.nd)) (fun _ _ _ _ _ => (apt_one (at_val (ae_isi rfl z_isinstance (ao_pl 2) z_str boot_str)))) (fun _ _ _ _ _ => (ae_var 2)))))))⟩
abbrev s_names_of : Stmt := top 21
theorem sc_names_of : FnScope ["sentence", "plain", "name"] ["sentence"] (defScope s_names_of) := ⟨rfl, rfl, rfl, by decide +kernel, rfl, by decide +kernel, by decide +kernel⟩
set_option maxHeartbeats 2000000 in
theorem ok_names_of {f : Addr} {fd : FuncData} (F : Fun Γ.K "names_of" "names_of" s_names_of f fd)
    (C_ascending : Cl Γ mg base 1 "ascending" 1 [] (d_ascending))
    (C_plain_of : Cl Γ mg base 8 "plain_of" 1 [] (d_plain_of 8))
    (C_names_in : Cl Γ mg base 1 "names_in" 1 [] (d_names_in)) :
    FnOk Γ.prog Γ.w Γ.K mg base (L2.CX Γ.prog Γ.w) (8 + 1) f fd ["sentence"] (spD Γ 1 (d_names_of)) := by
  have S := sc_names_of
  refine fn_def (pb := [true]) (m := 3) F S rfl rfl fun cdv A outer s H E hr tk hp => ?_
  exact ⟨_, (al_one (as_ret (ae_call rfl rfl rfl C_ascending (hr.mono (by decide : 1 ≤ 8)) tk (aa_cons (ao_ex (ae_lc2 [("plain", 1), ("name", 2)] [2] S.nd (ai_any rfl (ae_fz (ae_call rfl rfl rfl C_plain_of (hr.mono (by decide : 8 ≤ 8)) tk (aa_cons (ao_pl 0) aa_nil)))) (fun _ _ _ _ _ => (ag_name 1 S.nd)) (fun _ _ _ _ _ => apt_nil) (fun _ _ _ _ _ => (ai_any rfl (ae_fz (ae_call rfl rfl rfl C_names_in (hr.mono (by decide : 1 ≤ 8)) takes0 (aa_cons (ao_pl 1) aa_nil))))) (fun _ _ _ _ _ => (ag_name 2 S.nd)) (fun _ _ _ _ _ => apt_nil) (fun _ _ _ _ _ => (ae_var 2)))) aa_nil))))⟩
abbrev s__law_pen : Stmt := top 23
theorem sc__law_pen : FnScope ["script", "fold", "cell"] ["script"] (defScope s__law_pen) := ⟨rfl, rfl, rfl, by decide +kernel, rfl, by decide +kernel, by decide +kernel⟩
set_option maxHeartbeats 2000000 in
theorem ok__law_pen {f : Addr} {fd : FuncData} (F : Fun Γ.K "_law_pen" "_law_pen" s__law_pen f fd)
    (z_int : mg "int" = none)
    (z_list : mg "list" = none) :
    FnOk Γ.prog Γ.w Γ.K mg base (L2.CX Γ.prog Γ.w) (0 + 1) f fd ["script"] (spD Γ 1 (d__law_pen)) := by
  have S := sc__law_pen
  refine fn_def (pb := [true]) (m := 3) F S rfl rfl fun cdv A outer s H E hr tk hp => ?_
  exact ⟨_, (al_cons (as_set 1 S.nd ae_int)
      (al_cons (as_for (vs := [2]) hp (ai_any rfl (ae_var 0)) (ag_name 2 S.nd) (al_one (as_set 1 S.nd (ae_bin ok_mod op_mod (ao_ex (ae_t1 ok_int or_int z_int boot_int (ao_ex (ae_bin ok_add or_add (ao_ex (ae_bin ok_mul or_mul (ao_pl 1) (ao_ex ae_int))) (ao_pl 2))))) (ao_ex ae_int)))))
      (al_one (as_ret (ae_disp (app_cons ae_str (ae_t1 ok_list (or_list rfl) z_list boot_list (ao_pl 0)) (app_cons ae_str ae_int (app_cons ae_str ae_int (app_cons ae_str ae_int (app_cons ae_str (ae_var 1) app_nil))))))))))⟩
abbrev s__law_draw : Stmt := top 24
theorem sc__law_draw : FnScope ["pen", "many", "blend", "cell", "digit"] ["pen", "many"] (defScope s__law_draw) := ⟨rfl, rfl, rfl, by decide +kernel, rfl, by decide +kernel, by decide +kernel⟩
set_option maxHeartbeats 2000000 in
theorem ok__law_draw {f : Addr} {fd : FuncData} (F : Fun Γ.K "_law_draw" "_law_draw" s__law_draw f fd)
    (z_len : mg "len" = none)
    (z_int : mg "int" = none) :
    FnOk Γ.prog Γ.w Γ.K mg base (L2.CX Γ.prog Γ.w) (0 + 1) f fd ["pen", "many"] (spD Γ 2 (d__law_draw)) := by
  have S := sc__law_draw
  refine fn_def (pb := [true, true]) (m := 5) F S rfl rfl fun cdv A outer s H E hr tk hp => ?_
  exact ⟨_, (al_cons (as_sub 0 hr (ae_bin ok_add or_add (ao_ex (ae_ix hr rfl (ao_pl 0) (ao_ex ae_str))) (ao_ex ae_int)) ae_str)
      (al_cons (as_if (at_w (aw_and (at_cmp ok_eq (or_eq hr.units) (ao_ex (ae_ix hr rfl (ao_pl 0) (ao_ex ae_str))) (ao_ex ae_int)) (aw_and1 (at_cmp ok_lt or_lt (ao_ex (ae_ix hr rfl (ao_pl 0) (ao_ex ae_str))) (ao_ex (ae_b1 ok_len or_len z_len PySem.boot_len (ao_ex (ae_ix hr rfl (ao_pl 0) (ao_ex ae_str))))))))) (al_cons (as_set 3 S.nd (ae_ix hr rfl (ao_ex (ae_ix hr rfl (ao_pl 0) (ao_ex ae_str))) (ao_ex (ae_ix hr rfl (ao_pl 0) (ao_ex ae_str)))))
      (al_cons (as_sub 0 hr (ae_bin ok_add or_add (ao_ex (ae_ix hr rfl (ao_pl 0) (ao_ex ae_str))) (ao_ex ae_int)) ae_str)
      (al_one (as_if (at_cmp ok_ge or_ge (ao_pl 3) (ao_ex (ae_bin ok_pow op_pow (ao_ex ae_int) (ao_ex ae_int)))) (al_one (as_sub 0 hr (ae_bin ok_sub op_sub (ao_pl 3) (ao_ex (ae_bin ok_pow op_pow (ao_ex ae_int) (ao_ex ae_int)))) ae_str)) (al_one (as_sub 0 hr (ae_bin ok_mod op_mod (ao_ex (ae_t1 ok_int or_int z_int boot_int (ao_ex (ae_bin ok_add or_add (ao_ex (ae_bin ok_mul or_mul (ao_ex (ae_ix hr rfl (ao_pl 0) (ao_ex ae_str))) (ao_ex ae_int))) (ao_pl 3))))) (ao_ex ae_int)) ae_str)))))) al_nil)
      (al_cons (as_if (at_cmp ok_gt or_gt (ao_ex (ae_ix hr rfl (ao_pl 0) (ao_ex ae_str))) (ao_ex ae_int)) (al_cons (as_set 4 S.nd (ae_bin ok_mod op_mod (ao_ex (ae_t1 ok_int or_int z_int boot_int (ao_ex (ae_ix hr rfl (ao_pl 0) (ao_ex ae_str))))) (ao_pl 1)))
      (al_cons (as_sub 0 hr (ae_bin ok_fdiv op_fdiv (ao_ex (ae_ix hr rfl (ao_pl 0) (ao_ex ae_str))) (ao_pl 1)) ae_str)
      (al_one (as_ret (ae_move 4))))) al_nil)
      (al_cons (as_set 2 S.nd (ae_bin ok_add or_add (ao_ex (ae_bin ok_add or_add (ao_ex (ae_ix hr rfl (ao_pl 0) (ao_ex ae_str))) (ao_ex (ae_bin ok_mul or_mul (ao_ex (ae_ix hr rfl (ao_pl 0) (ao_ex ae_str))) (ao_ex ae_int))))) (ao_ex ae_int)))
      (al_one (as_ret (ae_bin ok_mod op_mod (ao_ex (ae_bin ok_fdiv op_fdiv (ao_ex (ae_t1 ok_int or_int z_int boot_int (ao_ex (ae_bin ok_mod op_mod (ao_ex (ae_bin ok_pow op_pow (ao_pl 2) (ao_ex ae_int))) (ao_ex ae_int))))) (ao_ex ae_int))) (ao_pl 1))))))))⟩
abbrev s__law_pick : Stmt := top 25
theorem sc__law_pick : FnScope ["pen", "some"] ["pen", "some"] (defScope s__law_pick) := ⟨rfl, rfl, rfl, by decide +kernel, rfl, by decide +kernel, by decide +kernel⟩
set_option maxHeartbeats 2000000 in
theorem ok__law_pick {f : Addr} {fd : FuncData} (F : Fun Γ.K "_law_pick" "_law_pick" s__law_pick f fd)
    (C__law_draw : Cl Γ mg base 1 "_law_draw" 2 [] (d__law_draw))
    (z_len : mg "len" = none) :
    FnOk Γ.prog Γ.w Γ.K mg base (L2.CX Γ.prog Γ.w) (1 + 1) f fd ["pen", "some"] (spD Γ 2 (d__law_pick)) := by
  have S := sc__law_pick
  refine fn_def (pb := [true, true]) (m := 2) F S rfl rfl fun cdv A outer s H E hr tk hp => ?_
  exact ⟨_, (al_one (as_ret (ae_ix hr rfl (ao_pl 1) (ao_ex (ae_call rfl rfl rfl C__law_draw (hr.mono (by decide : 1 ≤ 1)) tk (aa_cons (ao_pl 0) (aa_cons (ao_ex (ae_b1 ok_len or_len z_len PySem.boot_len (ao_pl 1))) aa_nil)))))))⟩
abbrev s__law_shuffled : Stmt := top 26
theorem sc__law_shuffled : FnScope ["pen", "some", "lap", "left", "found"] ["pen", "some"] (defScope s__law_shuffled) := ⟨rfl, rfl, rfl, by decide +kernel, rfl, by decide +kernel, by decide +kernel⟩
set_option maxHeartbeats 2000000 in
theorem ok__law_shuffled {f : Addr} {fd : FuncData} (F : Fun Γ.K "_law_shuffled" "_law_shuffled" s__law_shuffled f fd)
    (C__law_draw : Cl Γ mg base 1 "_law_draw" 2 [] (d__law_draw))
    (z_list : mg "list" = none)
    (z_range : mg "range" = none)
    (z_len : mg "len" = none) :
    FnOk Γ.prog Γ.w Γ.K mg base (L2.CX Γ.prog Γ.w) (1 + 1) f fd ["pen", "some"] (spD Γ 2 (d__law_shuffled)) := by
  have S := sc__law_shuffled
  refine fn_def (pb := [true, true]) (m := 5) F S rfl rfl fun cdv A outer s H E hr tk hp => ?_
  exact ⟨_, (al_cons (as_par 3 4 S.nd (ae_t1 ok_list (or_list rfl) z_list boot_list (ao_pl 1)) (ae_lst aa_nil))
      (al_cons (as_for (vs := [2]) hp (ai_rng1 z_range (ae_b1 ok_len or_len z_len PySem.boot_len (ao_pl 1))) (ag_name 2 S.nd) (al_one (as_expr (ae_meth 4 rfl m_append mt_append PySem.F.plainAttrs_list PySem.F.slot_list_append PySem.F.type_list_append (aa_cons (ao_fz (ae_meth 3 rfl m_popAt mt_popAt PySem.F.plainAttrs_list PySem.F.slot_list_pop PySem.F.type_list_pop (aa_cons (ao_fz (ae_call rfl rfl rfl C__law_draw (hr.mono (by decide : 1 ≤ 1)) tk (aa_cons (ao_pl 0) (aa_cons (ao_ex (ae_b1 ok_len or_len z_len PySem.boot_len (ao_pl 3))) aa_nil)))) aa_nil))) aa_nil)))))
      (al_one (as_ret (ae_move 4)))))⟩
abbrev s__law_some : Stmt := top 27
theorem sc__law_some : FnScope ["pen", "some", "most"] ["pen", "some", "most"] (defScope s__law_some) := ⟨rfl, rfl, rfl, by decide +kernel, rfl, by decide +kernel, by decide +kernel⟩
set_option maxHeartbeats 2000000 in
theorem ok__law_some {f : Addr} {fd : FuncData} (F : Fun Γ.K "_law_some" "_law_some" s__law_some f fd)
    (C__law_shuffled : Cl Γ mg base 2 "_law_shuffled" 2 [] (d__law_shuffled))
    (C__law_draw : Cl Γ mg base 1 "_law_draw" 2 [] (d__law_draw))
    (z_len : mg "len" = none)
    (z_min : mg "min" = none) :
    FnOk Γ.prog Γ.w Γ.K mg base (L2.CX Γ.prog Γ.w) (2 + 1) f fd ["pen", "some", "most"] (spD Γ 3 (d__law_some)) := by
  have S := sc__law_some
  refine fn_def (pb := [true, true, true]) (m := 3) F S rfl rfl fun cdv A outer s H E hr tk hp => ?_
  exact ⟨_, (al_one (as_ret (ae_sl rfl (ao_ex (ae_call rfl rfl rfl C__law_shuffled (hr.mono (by decide : 2 ≤ 2)) tk (aa_cons (ao_pl 0) (aa_cons (ao_pl 1) aa_nil)))) ap_none (ap_some (ae_call rfl rfl rfl C__law_draw (hr.mono (by decide : 1 ≤ 2)) tk (aa_cons (ao_pl 0) (aa_cons (ao_ex (ae_bin ok_add or_add (ao_ex (ae_b2 ok_min2 (call_min2 rfl) z_min b_min (ao_pl 2) (ao_ex (ae_b1 ok_len or_len z_len PySem.boot_len (ao_pl 1))))) (ao_ex ae_int))) aa_nil)))))))⟩
abbrev s__law_name : Stmt := top 28
theorem sc__law_name : FnScope ["pen", "index", "word", "spot", "place"] ["pen", "index"] (defScope s__law_name) := ⟨rfl, rfl, rfl, by decide +kernel, rfl, by decide +kernel, by decide +kernel⟩
set_option maxHeartbeats 2000000 in
theorem ok__law_name {f : Addr} {fd : FuncData} (F : Fun Γ.K "_law_name" "_law_name" s__law_name f fd)
    (C__law_draw : Cl Γ mg base 1 "_law_draw" 2 [] (d__law_draw))
    (z_range : mg "range" = none)
    (z_len : mg "len" = none)
    (z_str : mg "str" = none) :
    FnOk Γ.prog Γ.w Γ.K mg base (L2.CX Γ.prog Γ.w) (1 + 1) f fd ["pen", "index"] (spD Γ 2 (d__law_name)) := by
  have S := sc__law_name
  refine fn_def (pb := [true, true]) (m := 5) F S rfl rfl fun cdv A outer s H E hr tk hp => ?_
  exact ⟨_, (al_cons (as_set 2 S.nd ae_str)
      (al_cons (as_for (vs := [3]) hp (ai_rng1 z_range (ae_bin ok_add or_add (ao_ex ae_int) (ao_ex (ae_call rfl rfl rfl C__law_draw (hr.mono (by decide : 1 ≤ 1)) tk (aa_cons (ao_pl 0) (aa_cons (ao_ex ae_int) aa_nil)))))) (ag_name 3 S.nd) (al_one (as_set 2 S.nd (ae_bin ok_add or_add (ao_pl 2) (ao_ex (ae_ix hr rfl (ao_ex ae_str) (ao_ex (ae_call rfl rfl rfl C__law_draw (hr.mono (by decide : 1 ≤ 1)) tk (aa_cons (ao_pl 0) (aa_cons (ao_ex ae_int) aa_nil))))))))))
      (al_cons (as_set 4 S.nd (ae_bin ok_add or_add (ao_ex ae_int) (ao_ex (ae_call rfl rfl rfl C__law_draw (hr.mono (by decide : 1 ≤ 1)) tk (aa_cons (ao_pl 0) (aa_cons (ao_ex (ae_b1 ok_len or_len z_len PySem.boot_len (ao_pl 2))) aa_nil))))))
      (al_one (as_ret (ae_bin ok_add or_add (ao_ex (ae_bin ok_add or_add (ao_ex (ae_sl rfl (ao_pl 2) ap_none (ap_some (ae_var 4)))) (ao_ex (ae_t1 ok_str or_str z_str boot_str (ao_pl 1))))) (ao_ex (ae_sl rfl (ao_pl 2) (ap_some (ae_var 4)) ap_none))))))))⟩
abbrev s__law_names : Stmt := top 29
theorem sc__law_names : FnScope ["pen", "many", "index"] ["pen", "many"] (defScope s__law_names) := ⟨rfl, rfl, rfl, by decide +kernel, rfl, by decide +kernel, by decide +kernel⟩
set_option maxHeartbeats 2000000 in
theorem ok__law_names {f : Addr} {fd : FuncData} (F : Fun Γ.K "_law_names" "_law_names" s__law_names f fd)
    (C__law_shuffled : Cl Γ mg base 2 "_law_shuffled" 2 [] (d__law_shuffled))
    (C__law_name : Cl Γ mg base 2 "_law_name" 2 [] (d__law_name))
    (z_range : mg "range" = none) :
    FnOk Γ.prog Γ.w Γ.K mg base (L2.CX Γ.prog Γ.w) (2 + 1) f fd ["pen", "many"] (spD Γ 2 (d__law_names)) := by
  have S := sc__law_names
  refine fn_def (pb := [true, true]) (m := 3) F S rfl rfl fun cdv A outer s H E hr tk hp => ?_
  exact ⟨_, (al_one (as_ret (ae_call rfl rfl rfl C__law_shuffled (hr.mono (by decide : 2 ≤ 2)) tk (aa_cons (ao_pl 0) (aa_cons (ao_ex (ae_lc [("index", 2)] S.nd (ai_rng1 z_range (ae_var 1)) (fun _ _ _ _ _ => (ag_name 2 S.nd)) (fun _ _ _ _ _ => apt_nil) (fun _ _ _ _ _ => (ae_call rfl rfl rfl C__law_name (hr.mono (by decide : 2 ≤ 2)) takes0 (aa_cons (ao_pl 0) (aa_cons (ao_pl 2) aa_nil)))))) aa_nil)))))⟩
abbrev s__law_same : Stmt := top 30
theorem sc__law_same : FnScope ["told", "due", "one", "two"] ["told", "due"] (defScope s__law_same) := ⟨rfl, rfl, rfl, by decide +kernel, rfl, by decide +kernel, by decide +kernel⟩
set_option maxHeartbeats 2000000 in
theorem ok__law_same {n : Nat} {f : Addr} {fd : FuncData} (F : Fun Γ.K "_law_same" "_law_same" s__law_same f fd)
    (C__law_same : Cl Γ mg base (0 + n) "_law_same" 2 [] (d__law_same n))
    (z_isinstance : mg "isinstance" = none)
    (z_tuple : mg "tuple" = none)
    (z_len : mg "len" = none)
    (z_zip : mg "zip" = none)
    (z_all : mg "all" = none)
    (z_int : mg "int" = none)
    (z_bool : mg "bool" = none)
    (z_str : mg "str" = none) :
    FnOk Γ.prog Γ.w Γ.K mg base (L2.CX Γ.prog Γ.w) (0 + n + 1) f fd ["told", "due"] (spD Γ 2 (b__law_same (d__law_same n))) := by
  have S := sc__law_same
  refine fn_def (pb := [true, true]) (m := 4) F S rfl rfl fun cdv A outer s H E hr tk hp => ?_
  exact ⟨_, (al_cons (as_if (at_val (ae_isi rfl z_isinstance (ao_pl 1) z_tuple boot_tuple)) (al_one (as_ret (ae_and2 (ae_isi rfl z_isinstance (ao_pl 0) z_tuple boot_tuple) (ae_and2 (ae_cmp ok_eq (or_eq hr.units) (ao_ex (ae_b1 ok_len or_len z_len PySem.boot_len (ao_pl 0))) (ao_ex (ae_b1 ok_len or_len z_len PySem.boot_len (ao_pl 1)))) (ae_one (ae_b1 ok_all (cr_all rfl) z_all b_all (ao_ex (ae_lc [("one", 2), ("two", 3)] S.nd (ai_zip rfl z_zip (ae_var 0) (ae_var 1)) (fun _ _ _ _ _ => (ag_unp (n := 2) rfl (ags_cons (ag_name 2 S.nd) (ags_cons (ag_name 3 S.nd) ags_nil)))) (fun _ _ _ _ _ => apt_nil) (fun _ _ _ _ _ => (ae_call rfl rfl rfl C__law_same (hr.mono (Nat.le_refl _)) takes0 (aa_cons (ao_pl 2) (aa_cons (ao_pl 3) aa_nil)))))))))))) al_nil)
      (al_cons (as_if (at_isN (ao_pl 1)) (al_one (as_ret (ae_isN (ao_pl 0)))) al_nil)
      (al_cons (as_if (at_isB (ao_pl 1)) (al_one (as_ret (ae_isB (ao_pl 0)))) al_nil)
      (al_cons (as_if (at_isB (ao_pl 1)) (al_one (as_ret (ae_isB (ao_pl 0)))) al_nil)
      (al_cons (as_if (at_val (ae_isi rfl z_isinstance (ao_pl 1) z_int boot_int)) (al_one (as_ret (ae_and2 (ae_isi rfl z_isinstance (ao_pl 0) z_int boot_int) (ae_and2 (ae_not (ae_isi rfl z_isinstance (ao_pl 0) z_bool boot_bool)) (ae_one (ae_cmp ok_eq (or_eq hr.units) (ao_pl 0) (ao_pl 1))))))) al_nil)
      (al_one (as_ret (ae_and2 (ae_isi rfl z_isinstance (ao_pl 0) z_str boot_str) (ae_one (ae_cmp ok_eq (or_eq hr.units) (ao_pl 0) (ao_pl 1)))))))))))⟩
abbrev s__law_is_whole : Stmt := top 31
theorem sc__law_is_whole : FnScope ["value", "least", "most"] ["value", "least", "most"] (defScope s__law_is_whole) := ⟨rfl, rfl, rfl, by decide +kernel, rfl, by decide +kernel, by decide +kernel⟩
set_option maxHeartbeats 2000000 in
theorem ok__law_is_whole {f : Addr} {fd : FuncData} (F : Fun Γ.K "_law_is_whole" "_law_is_whole" s__law_is_whole f fd)
    (z_isinstance : mg "isinstance" = none)
    (z_int : mg "int" = none)
    (z_bool : mg "bool" = none) :
    FnOk Γ.prog Γ.w Γ.K mg base (L2.CX Γ.prog Γ.w) (0 + 1) f fd ["value", "least", "most"] (spD Γ 3 (d__law_is_whole)) := by
  have S := sc__law_is_whole
  refine fn_def (pb := [true, true, true]) (m := 3) F S rfl rfl fun cdv A outer s H E hr tk hp => ?_
  exact ⟨_, (al_one (as_ret (ae_and2 (ae_isi rfl z_isinstance (ao_pl 0) z_int boot_int) (ae_and2 (ae_not (ae_isi rfl z_isinstance (ao_pl 0) z_bool boot_bool)) (ae_one (ae_chain ok_le or_le ok_le or_le (ae_var 1) (ae_var 0) (ae_var 2)))))))⟩
abbrev s__law_is_name : Stmt := top 32
theorem sc__law_is_name : FnScope ["value", "sign"] ["value"] (defScope s__law_is_name) := ⟨rfl, rfl, rfl, by decide +kernel, rfl, by decide +kernel, by decide +kernel⟩
set_option maxHeartbeats 2000000 in
theorem ok__law_is_name {f : Addr} {fd : FuncData} (F : Fun Γ.K "_law_is_name" "_law_is_name" s__law_is_name f fd)
    (z_isinstance : mg "isinstance" = none)
    (z_str : mg "str" = none)
    (z_len : mg "len" = none) :
    FnOk Γ.prog Γ.w Γ.K mg base (L2.CX Γ.prog Γ.w) (0 + 1) f fd ["value"] (spD Γ 1 (d__law_is_name)) := by
  have S := sc__law_is_name
  refine fn_def (pb := [true]) (m := 2) F S rfl rfl fun cdv A outer s H E hr tk hp => ?_
  exact ⟨_, (al_cons (as_if (at_w (aw_or (at_not (at_val (ae_isi rfl z_isinstance (ao_pl 0) z_str boot_str))) (aw_or (at_not (at_chain ok_le or_le ok_le or_le ae_int (ae_b1 ok_len or_len z_len PySem.boot_len (ao_pl 0)) ae_int)) (aw_or1 (at_cmp ok_notIn (or_notIn (room65 hr)) (ao_ex (ae_ix hr rfl (ao_pl 0) (ao_ex ae_int))) (ao_ex ae_str)))))) (al_one (as_ret ae_bl)) al_nil)
      (al_one (as_ret (ae_cmp ok_eqE (or_eqE hr.units0) (ao_ex (ae_lc [("sign", 1)] S.nd (ai_any rfl (ae_var 0)) (fun _ _ _ _ _ => (ag_name 1 S.nd)) (fun _ _ _ _ _ => (apt_one (at_cmp ok_notIn (or_notIn (room65 hr)) (ao_pl 1) (ao_ex ae_str)))) (fun _ _ _ _ _ => (ae_var 1)))) (ao_ex (ae_lst aa_nil))))))⟩
abbrev s__law_calls : Stmt := top 33
theorem sc__law_calls : FnScope ["pen", "many"] ["pen", "many"] (defScope s__law_calls) := ⟨rfl, rfl, rfl, by decide +kernel, rfl, by decide +kernel, by decide +kernel⟩
set_option maxHeartbeats 2000000 in
theorem ok__law_calls {f : Addr} {fd : FuncData} (F : Fun Γ.K "_law_calls" "_law_calls" s__law_calls f fd)
    (C__law_names : Cl Γ mg base 3 "_law_names" 2 [] (d__law_names))
    (z_sorted : mg "sorted" = none)
    (z_tuple : mg "tuple" = none) :
    FnOk Γ.prog Γ.w Γ.K mg base (L2.CX Γ.prog Γ.w) (3 + 1) f fd ["pen", "many"] (spD Γ 2 (d__law_calls)) := by
  have S := sc__law_calls
  refine fn_def (pb := [true, true]) (m := 2) F S rfl rfl fun cdv A outer s H E hr tk hp => ?_
  exact ⟨_, (al_one (as_ret (ae_t1 ok_tuple call_tuple_of z_tuple boot_tuple (ao_ex (ae_b1 ok_sortedS cr_sortedS z_sorted b_sorted (ao_ex (ae_call rfl rfl rfl C__law_names (hr.mono (by decide : 3 ≤ 3)) tk (aa_cons (ao_pl 0) (aa_cons (ao_pl 1) aa_nil)))))))))⟩
abbrev s__law_some_plain : Stmt := top 34
theorem sc__law_some_plain : FnScope ["pen", "calls", "way", "rest", "many", "one", "other", "call", "spot"] ["pen", "calls"] (defScope s__law_some_plain) := ⟨rfl, rfl, rfl, by decide +kernel, rfl, by decide +kernel, by decide +kernel⟩
set_option maxHeartbeats 2000000 in
theorem ok__law_some_plain {f : Addr} {fd : FuncData} (F : Fun Γ.K "_law_some_plain" "_law_some_plain" s__law_some_plain f fd)
    (C__law_draw : Cl Γ mg base 1 "_law_draw" 2 [] (d__law_draw))
    (C__law_pick : Cl Γ mg base 2 "_law_pick" 2 [] (d__law_pick))
    (C__law_shuffled : Cl Γ mg base 2 "_law_shuffled" 2 [] (d__law_shuffled))
    (C__law_some : Cl Γ mg base 3 "_law_some" 3 [] (d__law_some))
    (z_len : mg "len" = none)
    (z_range : mg "range" = none)
    (z_tuple : mg "tuple" = none)
    (z_sorted : mg "sorted" = none) :
    FnOk Γ.prog Γ.w Γ.K mg base (L2.CX Γ.prog Γ.w) (3 + 1) f fd ["pen", "calls"] (spD Γ 2 (d__law_some_plain)) := by
  have S := sc__law_some_plain
  refine fn_def (pb := [true, true]) (m := 9) F S rfl rfl fun cdv A outer s H E hr tk hp => ?_
  exact ⟨_, (al_cons (as_set 2 S.nd (ae_ifE (at_cmp ok_gt or_gt (ao_ex (ae_b1 ok_len or_len z_len PySem.boot_len (ao_pl 1))) (ao_ex ae_int)) (ae_call rfl rfl rfl C__law_draw (hr.mono (by decide : 1 ≤ 3)) tk (aa_cons (ao_pl 0) (aa_cons (ao_ex ae_int) aa_nil))) (ae_call rfl rfl rfl C__law_pick (hr.mono (by decide : 2 ≤ 3)) tk (aa_cons (ao_pl 0) (aa_cons (ao_ex (ae_lst (aa_cons (ao_ex ae_int) (aa_cons (ao_ex ae_int) aa_nil)))) aa_nil)))))
      (al_cons (as_asg (vs := [5, 6]) (ae_ifE (at_cmp ok_gt or_gt (ao_ex (ae_b1 ok_len or_len z_len PySem.boot_len (ao_pl 1))) (ao_ex ae_int)) (ae_sl rfl (ao_ex (ae_call rfl rfl rfl C__law_shuffled (hr.mono (by decide : 2 ≤ 3)) tk (aa_cons (ao_pl 0) (aa_cons (ao_pl 1) aa_nil)))) ap_none (ap_some ae_int)) (ae_tup (aa_cons (ao_fz (ae_ix hr rfl (ao_pl 1) (ao_ex ae_int))) (aa_cons (ao_ex ae_non) aa_nil)))) (ag_unp (n := 2) rfl (ags_cons (ag_name 5 S.nd) (ags_cons (ag_name 6 S.nd) ags_nil))))
      (al_cons (as_set 3 S.nd (ae_lc [("call", 7)] S.nd (ai_any rfl (ae_var 1)) (fun _ _ _ _ _ => (ag_name 7 S.nd)) (fun _ _ _ _ _ => (apt_one (at_cmp ok_ne (or_ne hr.units) (ao_pl 7) (ao_pl 5)))) (fun _ _ _ _ _ => (ae_var 7))))
      (al_cons (as_set 4 S.nd (ae_bin ok_add or_add (ao_ex ae_int) (ao_ex (ae_call rfl rfl rfl C__law_draw (hr.mono (by decide : 1 ≤ 3)) tk (aa_cons (ao_pl 0) (aa_cons (ao_ex (ae_call rfl rfl rfl C__law_pick (hr.mono (by decide : 2 ≤ 3)) tk (aa_cons (ao_pl 0) (aa_cons (ao_ex (ae_lst (aa_cons (ao_ex ae_int) (aa_cons (ao_ex ae_int) (aa_cons (ao_ex ae_int) aa_nil))))) aa_nil)))) aa_nil))))))
      (al_cons (as_if (at_cmp ok_eq (or_eq hr.units) (ao_pl 2) (ao_ex ae_int)) (al_one (as_ret (ae_tup (aa_cons (ao_ex ae_str) (aa_cons (ao_fz (ae_t1 ok_tuple call_tuple_of z_tuple boot_tuple (ao_ex (ae_lc [("spot", 8)] S.nd (ai_rng1 z_range (ae_bin ok_add or_add (ao_ex ae_int) (ao_ex (ae_call rfl rfl rfl C__law_draw (hr.mono (by decide : 1 ≤ 3)) tk (aa_cons (ao_pl 0) (aa_cons (ao_ex (ae_call rfl rfl rfl C__law_pick (hr.mono (by decide : 2 ≤ 3)) tk (aa_cons (ao_pl 0) (aa_cons (ao_ex (ae_lst (aa_cons (ao_ex ae_int) (aa_cons (ao_ex ae_int) (aa_cons (ao_ex ae_int) aa_nil))))) aa_nil)))) aa_nil)))))) (fun _ _ _ _ _ => (ag_name 8 S.nd)) (fun _ _ _ _ _ => apt_nil) (fun _ _ _ _ _ => (ae_call rfl rfl rfl C__law_pick (hr.mono (by decide : 2 ≤ 3)) takes0 (aa_cons (ao_pl 0) (aa_cons (ao_pl 1) aa_nil)))))))) aa_nil))))) al_nil)
      (al_cons (as_if (at_cmp ok_eq (or_eq hr.units) (ao_pl 2) (ao_ex ae_int)) (al_one (as_ret (ae_tup (aa_cons (ao_ex ae_str) (aa_cons (ao_ex (ae_var 5)) (aa_cons (ao_fz (ae_t1 ok_tuple call_tuple_of z_tuple boot_tuple (ao_ex (ae_lc [("spot", 8)] S.nd (ai_rng1 z_range (ae_bin ok_add or_add (ao_ex ae_int) (ao_ex (ae_call rfl rfl rfl C__law_draw (hr.mono (by decide : 1 ≤ 3)) tk (aa_cons (ao_pl 0) (aa_cons (ao_ex ae_int) aa_nil)))))) (fun _ _ _ _ _ => (ag_name 8 S.nd)) (fun _ _ _ _ _ => apt_nil) (fun _ _ _ _ _ => (ae_call rfl rfl rfl C__law_pick (hr.mono (by decide : 2 ≤ 3)) takes0 (aa_cons (ao_pl 0) (aa_cons (ao_pl 3) aa_nil)))))))) aa_nil)))))) al_nil)
      (al_cons (as_if (at_cmp ok_eq (or_eq hr.units) (ao_pl 2) (ao_ex ae_int)) (al_one (as_ret (ae_tup (aa_cons (ao_ex ae_str) (aa_cons (ao_ex (ae_var 4)) (aa_cons (ao_ex (ae_var 5)) (aa_cons (ao_fz (ae_t1 ok_tuple call_tuple_of z_tuple boot_tuple (ao_ex (ae_b1 ok_sortedS cr_sortedS z_sorted b_sorted (ao_ex (ae_call rfl rfl rfl C__law_some (hr.mono (by decide : 3 ≤ 3)) tk (aa_cons (ao_pl 0) (aa_cons (ao_pl 3) (aa_cons (ao_ex ae_int) aa_nil))))))))) aa_nil))))))) al_nil)
      (al_one (as_ret (ae_ix hr rfl (ao_ex (ae_lst (aa_cons (ao_ex ae_non) (aa_cons (ao_ex ae_non) (aa_cons (ao_fz (ae_tup (aa_cons (ao_ex ae_str) (aa_cons (ao_ex (ae_var 5)) (aa_cons (ao_ex (ae_var 6)) aa_nil))))) (aa_cons (ao_fz (ae_tup (aa_cons (ao_ex ae_str) (aa_cons (ao_ex (ae_var 5)) (aa_cons (ao_ex (ae_var 6)) aa_nil))))) (aa_cons (ao_ex ae_non) (aa_cons (ao_fz (ae_tup (aa_cons (ao_ex ae_str) (aa_cons (ao_ex (ae_var 4)) (aa_cons (ao_ex (ae_var 5)) (aa_cons (ao_ex (ae_var 6)) aa_nil)))))) aa_nil)))))))) (ao_pl 2)))))))))))⟩
abbrev s__law_some_sentence : Stmt := top 35
theorem sc__law_some_sentence : FnScope ["pen", "calls", "many", "deep", "parts", "left", "size", "spot"] ["pen", "calls", "many", "deep"] (defScope s__law_some_sentence) := ⟨rfl, rfl, rfl, by decide +kernel, rfl, by decide +kernel, by decide +kernel⟩
set_option maxHeartbeats 2000000 in
theorem ok__law_some_sentence {n : Nat} {f : Addr} {fd : FuncData} (F : Fun Γ.K "_law_some_sentence" "_law_some_sentence" s__law_some_sentence f fd)
    (C__law_some_plain : Cl Γ mg base 4 "_law_some_plain" 2 [] (d__law_some_plain))
    (C__law_pick : Cl Γ mg base 2 "_law_pick" 2 [] (d__law_pick))
    (C__law_draw : Cl Γ mg base 1 "_law_draw" 2 [] (d__law_draw))
    (C__law_some_sentence : Cl Γ mg base (4 + n) "_law_some_sentence" 4 [] (d__law_some_sentence n))
    (z_range : mg "range" = none)
    (z_min : mg "min" = none)
    (z_len : mg "len" = none)
    (z_tuple : mg "tuple" = none) :
    FnOk Γ.prog Γ.w Γ.K mg base (L2.CX Γ.prog Γ.w) (4 + n + 1) f fd ["pen", "calls", "many", "deep"] (spD Γ 4 (b__law_some_sentence (d__law_some_sentence n))) := by
  have S := sc__law_some_sentence
  refine fn_def (pb := [true, true, true, true]) (m := 8) F S rfl rfl fun cdv A outer s H E hr tk hp => ?_
  exact ⟨_, (al_cons (as_if (at_w (aw_or (at_cmp ok_eq (or_eq hr.units) (ao_pl 2) (ao_ex ae_int)) (aw_or1 (at_cmp ok_eq (or_eq hr.units) (ao_pl 3) (ao_ex ae_int))))) (al_cons (as_setLc 4 [("spot", 7)] S.nd (ai_rng1 z_range (ae_b2 ok_min2 (call_min2 rfl) z_min b_min (ao_pl 2) (ao_ex ae_int))) (fun _ _ _ _ _ => (ag_name 7 S.nd)) (fun _ _ _ _ _ => apt_nil) (fun _ _ _ _ _ => (ae_call rfl rfl rfl C__law_some_plain (hr.mono (Nat.le_trans (by decide : 4 ≤ 4) (Nat.le_add_right _ _))) takes0 (aa_cons (ao_pl 0) (aa_cons (ao_pl 1) aa_nil)))))
      (al_one (as_ret (ae_ifE (at_cmp ok_eq (or_eq hr.units) (ao_ex (ae_b1 ok_len or_len z_len PySem.boot_len (ao_pl 4))) (ao_ex ae_int)) (ae_ix hr rfl (ao_pl 4) (ao_ex ae_int)) (ae_tup (aa_cons (ao_fz (ae_call rfl rfl rfl C__law_pick (hr.mono (Nat.le_trans (by decide : 2 ≤ 4) (Nat.le_add_right _ _))) tk (aa_cons (ao_pl 0) (aa_cons (ao_ex (ae_lst (aa_cons (ao_ex ae_str) (aa_cons (ao_ex ae_str) aa_nil)))) aa_nil)))) (aa_cons (ao_fz (ae_t1 ok_tuple call_tuple_of z_tuple boot_tuple (ao_pl 4))) aa_nil))))))) al_nil)
      (al_cons (as_par 4 5 S.nd (ae_lst aa_nil) (ae_var 2))
      (al_cons (as_while hp (at_cmp ok_gt or_gt (ao_pl 5) (ao_ex ae_int)) (al_cons (as_set 6 S.nd (ae_ifE (at_cmp ok_eq (or_eq hr.units) (ao_ex (ae_b1 ok_len or_len z_len PySem.boot_len (ao_pl 4))) (ao_ex ae_int)) (ae_var 5) (ae_bin ok_add or_add (ao_ex ae_int) (ao_ex (ae_call rfl rfl rfl C__law_draw (hr.mono (Nat.le_trans (by decide : 1 ≤ 4) (Nat.le_add_right _ _))) tk (aa_cons (ao_pl 0) (aa_cons (ao_ex (ae_ifE (at_cmp ok_neE (or_neE hr.units0) (ao_pl 4) (ao_ex (ae_lst aa_nil))) (ae_var 5) (ae_bin ok_sub op_sub (ao_pl 5) (ao_ex ae_int)))) aa_nil)))))))
      (al_cons (as_expr (ae_meth 4 rfl m_append mt_append PySem.F.plainAttrs_list PySem.F.slot_list_append PySem.F.type_list_append (aa_cons (ao_fz (ae_call rfl rfl rfl C__law_some_sentence (hr.mono (Nat.le_refl _)) tk (aa_cons (ao_pl 0) (aa_cons (ao_pl 1) (aa_cons (ao_pl 6) (aa_cons (ao_ex (ae_bin ok_sub op_sub (ao_pl 3) (ao_ex ae_int))) aa_nil)))))) aa_nil)))
      (al_one (as_set 5 S.nd (ae_bin ok_sub op_sub (ao_pl 5) (ao_pl 6)))))))
      (al_one (as_ret (ae_tup (aa_cons (ao_fz (ae_call rfl rfl rfl C__law_pick (hr.mono (Nat.le_trans (by decide : 2 ≤ 4) (Nat.le_add_right _ _))) tk (aa_cons (ao_pl 0) (aa_cons (ao_ex (ae_lst (aa_cons (ao_ex ae_str) (aa_cons (ao_ex ae_str) aa_nil)))) aa_nil)))) (aa_cons (ao_fz (ae_t1 ok_tuple call_tuple_of z_tuple boot_tuple (ao_pl 4))) aa_nil))))))))⟩
abbrev s__law_plain : Stmt := top 36
theorem sc__law_plain : FnScope ["sentence", "found", "part"] ["sentence"] (defScope s__law_plain) := ⟨rfl, rfl, rfl, by decide +kernel, rfl, by decide +kernel, by decide +kernel⟩
set_option maxHeartbeats 2000000 in
theorem ok__law_plain {n : Nat} {f : Addr} {fd : FuncData} (F : Fun Γ.K "_law_plain" "_law_plain" s__law_plain f fd)
    (C__law_plain : Cl Γ mg base (0 + n) "_law_plain" 1 [] (d__law_plain n)) :
    FnOk Γ.prog Γ.w Γ.K mg base (L2.CX Γ.prog Γ.w) (0 + n + 1) f fd ["sentence"] (spD Γ 1 (b__law_plain (d__law_plain n))) := by
  have S := sc__law_plain
  refine fn_def (pb := [true]) (m := 3) F S rfl rfl fun cdv A outer s H E hr tk hp => ?_
  exact ⟨_, (al_cons (as_if (at_cmp ok_notIn (or_notIn (room65 hr)) (ao_ex (ae_ix hr rfl (ao_pl 0) (ao_ex ae_int))) (ao_ex (ae_lst (aa_cons (ao_ex ae_str) (aa_cons (ao_ex ae_str) aa_nil))))) (al_one (as_ret (ae_lst (aa_cons (ao_ex (ae_var 0)) aa_nil)))) al_nil)
      (al_cons (as_set 1 S.nd (ae_lst aa_nil))
      (al_cons (as_for (vs := [2]) hp (ai_any rfl (ae_fz (ae_ix hr rfl (ao_pl 0) (ao_ex ae_int)))) (ag_name 2 S.nd) (al_one (as_set 1 S.nd (ae_bin ok_add or_add (ao_pl 1) (ao_ex (ae_call rfl rfl rfl C__law_plain (hr.mono (Nat.le_refl _)) tk (aa_cons (ao_pl 2) aa_nil)))))))
      (al_one (as_ret (ae_move 1))))))⟩
abbrev s__law_sentence_names : Stmt := top 37
theorem sc__law_sentence_names : FnScope ["sentence", "found", "plain", "part"] ["sentence"] (defScope s__law_sentence_names) := ⟨rfl, rfl, rfl, by decide +kernel, rfl, by decide +kernel, by decide +kernel⟩
set_option maxHeartbeats 2000000 in
theorem ok__law_sentence_names {f : Addr} {fd : FuncData} (F : Fun Γ.K "_law_sentence_names" "_law_sentence_names" s__law_sentence_names f fd)
    (C__law_plain : Cl Γ mg base 8 "_law_plain" 1 [] (d__law_plain 8))
    (z_isinstance : mg "isinstance" = none)
    (z_tuple : mg "tuple" = none)
    (z_list : mg "list" = none)
    (z_str : mg "str" = none)
    (z_sorted : mg "sorted" = none)
    (z_set : mg "set" = none) :
    FnOk Γ.prog Γ.w Γ.K mg base (L2.CX Γ.prog Γ.w) (8 + 1) f fd ["sentence"] (spD Γ 1 (d__law_sentence_names)) := by
  have S := sc__law_sentence_names
  refine fn_def (pb := [true]) (m := 4) F S rfl rfl fun cdv A outer s H E hr tk hp => ?_
  exact ⟨_, (al_cons (as_set 1 S.nd (ae_lst aa_nil))
      (al_cons (as_for (vs := [2]) hp (ai_any rfl (ae_fz (ae_call rfl rfl rfl C__law_plain (hr.mono (by decide : 8 ≤ 8)) tk (aa_cons (ao_pl 0) aa_nil)))) (ag_name 2 S.nd) (al_one (as_for (vs := [3]) hp (ai_any rfl (ae_fz (ae_sl rfl (ao_pl 2) (ap_some ae_int) ap_none))) (ag_name 3 S.nd) (al_one (as_set 1 S.nd (ae_bin ok_add or_add (ao_pl 1) (ao_ex (ae_ifE (at_val (ae_isi rfl z_isinstance (ao_pl 3) z_tuple boot_tuple)) (ae_t1 ok_list (or_list rfl) z_list boot_list (ao_pl 3)) (ae_ifE (at_val (ae_isi rfl z_isinstance (ao_pl 3) z_str boot_str)) (ae_lst (aa_cons (ao_ex (ae_var 3)) aa_nil)) (ae_lst aa_nil))))))))))
      (al_one (as_ret (ae_srtSet rfl rfl rfl rfl z_sorted z_set (ao_pl 1))))))⟩
abbrev s__law_is_row : Stmt := top 38
theorem sc__law_is_row : FnScope ["value", "one"] ["value"] (defScope s__law_is_row) := ⟨rfl, rfl, rfl, by decide +kernel, rfl, by decide +kernel, by decide +kernel⟩
set_option maxHeartbeats 2000000 in
theorem ok__law_is_row {f : Addr} {fd : FuncData} (F : Fun Γ.K "_law_is_row" "_law_is_row" s__law_is_row f fd)
    (C__law_is_name : Cl Γ mg base 1 "_law_is_name" 1 [] (d__law_is_name))
    (z_isinstance : mg "isinstance" = none)
    (z_tuple : mg "tuple" = none)
    (z_len : mg "len" = none) :
    FnOk Γ.prog Γ.w Γ.K mg base (L2.CX Γ.prog Γ.w) (1 + 1) f fd ["value"] (spD Γ 1 (d__law_is_row)) := by
  have S := sc__law_is_row
  refine fn_def (pb := [true]) (m := 2) F S rfl rfl fun cdv A outer s H E hr tk hp => ?_
  exact ⟨_, (al_one (as_ret (ae_and2 (ae_isi rfl z_isinstance (ao_pl 0) z_tuple boot_tuple) (ae_and2 (ae_chain ok_le or_le ok_le or_le ae_int (ae_b1 ok_len or_len z_len PySem.boot_len (ao_pl 0)) ae_int) (ae_one (ae_cmp ok_eqE (or_eqE hr.units0) (ao_ex (ae_lc [("one", 1)] S.nd (ai_any rfl (ae_var 0)) (fun _ _ _ _ _ => (ag_name 1 S.nd)) (fun _ _ _ _ _ => (apt_one (at_not (at_val (ae_call rfl rfl rfl C__law_is_name (hr.mono (by decide : 1 ≤ 1)) takes0 (aa_cons (ao_pl 1) aa_nil)))))) (fun _ _ _ _ _ => (ae_var 1)))) (ao_ex (ae_lst aa_nil))))))))⟩
abbrev s__law_is_plain : Stmt := top 39
theorem sc__law_is_plain : FnScope ["value", "kind", "rest", "one", "at"] ["value"] (defScope s__law_is_plain) := ⟨rfl, rfl, rfl, by decide +kernel, rfl, by decide +kernel, by decide +kernel⟩
set_option maxHeartbeats 2000000 in
theorem ok__law_is_plain {f : Addr} {fd : FuncData} (F : Fun Γ.K "_law_is_plain" "_law_is_plain" s__law_is_plain f fd)
    (C__law_is_row : Cl Γ mg base 2 "_law_is_row" 1 [] (d__law_is_row))
    (C__law_is_name : Cl Γ mg base 1 "_law_is_name" 1 [] (d__law_is_name))
    (C__law_is_whole : Cl Γ mg base 1 "_law_is_whole" 3 [] (d__law_is_whole))
    (z_len : mg "len" = none)
    (z_isinstance : mg "isinstance" = none)
    (z_tuple : mg "tuple" = none)
    (z_range : mg "range" = none) :
    FnOk Γ.prog Γ.w Γ.K mg base (L2.CX Γ.prog Γ.w) (2 + 1) f fd ["value"] (spD Γ 1 (d__law_is_plain)) := by
  have S := sc__law_is_plain
  refine fn_def (pb := [true]) (m := 5) F S rfl rfl fun cdv A outer s H E hr tk hp => ?_
  exact ⟨_, (al_cons (as_asg (vs := [1, 2]) (ae_tup (aa_cons (ao_fz (ae_ix hr rfl (ao_pl 0) (ao_ex ae_int))) (aa_cons (ao_fz (ae_sl rfl (ao_pl 0) (ap_some ae_int) ap_none)) aa_nil))) (ag_unp (n := 2) rfl (ags_cons (ag_name 1 S.nd) (ags_cons (ag_name 2 S.nd) ags_nil))))
      (al_cons (as_if (at_cmp ok_eq (or_eq hr.units) (ao_pl 1) (ao_ex ae_str)) (al_one (as_ret (ae_and2 (ae_cmp ok_eq (or_eq hr.units) (ao_ex (ae_b1 ok_len or_len z_len PySem.boot_len (ao_pl 2))) (ao_ex ae_int)) (ae_one (ae_call rfl rfl rfl C__law_is_row (hr.mono (by decide : 2 ≤ 2)) tk (aa_cons (ao_ex (ae_ix hr rfl (ao_pl 2) (ao_ex ae_int))) aa_nil)))))) al_nil)
      (al_cons (as_if (at_cmp ok_eq (or_eq hr.units) (ao_pl 1) (ao_ex ae_str)) (al_one (as_ret (ae_and2 (ae_cmp ok_eq (or_eq hr.units) (ao_ex (ae_b1 ok_len or_len z_len PySem.boot_len (ao_pl 2))) (ao_ex ae_int)) (ae_and2 (ae_call rfl rfl rfl C__law_is_name (hr.mono (by decide : 1 ≤ 2)) tk (aa_cons (ao_ex (ae_ix hr rfl (ao_pl 2) (ao_ex ae_int))) aa_nil)) (ae_and2 (ae_call rfl rfl rfl C__law_is_row (hr.mono (by decide : 2 ≤ 2)) tk (aa_cons (ao_ex (ae_ix hr rfl (ao_pl 2) (ao_ex ae_int))) aa_nil)) (ae_one (ae_cmp ok_notIn (or_notIn (room65 hr)) (ao_ex (ae_ix hr rfl (ao_pl 2) (ao_ex ae_int))) (ao_ex (ae_ix hr rfl (ao_pl 2) (ao_ex ae_int)))))))))) al_nil)
      (al_cons (as_if (at_cmp ok_in (or_in (room65 hr)) (ao_pl 1) (ao_ex (ae_lst (aa_cons (ao_ex ae_str) (aa_cons (ao_ex ae_str) aa_nil))))) (al_one (as_ret (ae_and2 (ae_cmp ok_eq (or_eq hr.units) (ao_ex (ae_b1 ok_len or_len z_len PySem.boot_len (ao_pl 2))) (ao_ex ae_int)) (ae_and2 (ae_call rfl rfl rfl C__law_is_name (hr.mono (by decide : 1 ≤ 2)) tk (aa_cons (ao_ex (ae_ix hr rfl (ao_pl 2) (ao_ex ae_int))) aa_nil)) (ae_and2 (ae_call rfl rfl rfl C__law_is_name (hr.mono (by decide : 1 ≤ 2)) tk (aa_cons (ao_ex (ae_ix hr rfl (ao_pl 2) (ao_ex ae_int))) aa_nil)) (ae_one (ae_cmp ok_ne (or_ne hr.units) (ao_ex (ae_ix hr rfl (ao_pl 2) (ao_ex ae_int))) (ao_ex (ae_ix hr rfl (ao_pl 2) (ao_ex ae_int)))))))))) al_nil)
      (al_cons (as_if (at_w (aw_or (at_cmp ok_ne (or_ne hr.units) (ao_ex (ae_b1 ok_len or_len z_len PySem.boot_len (ao_pl 2))) (ao_ex ae_int)) (aw_or (at_not (at_val (ae_call rfl rfl rfl C__law_is_whole (hr.mono (by decide : 1 ≤ 2)) tk (aa_cons (ao_ex (ae_ix hr rfl (ao_pl 2) (ao_ex ae_int))) (aa_cons (ao_ex ae_int) (aa_cons (ao_ex ae_int) aa_nil)))))) (aw_or1 (at_not (at_val (ae_call rfl rfl rfl C__law_is_name (hr.mono (by decide : 1 ≤ 2)) tk (aa_cons (ao_ex (ae_ix hr rfl (ao_pl 2) (ao_ex ae_int))) aa_nil)))))))) (al_one (as_ret ae_bl)) al_nil)
      (al_cons (as_if (at_cmp ok_eq (or_eq hr.units) (ao_pl 1) (ao_ex ae_str)) (al_one (as_ret (ae_and2 (ae_call rfl rfl rfl C__law_is_name (hr.mono (by decide : 1 ≤ 2)) tk (aa_cons (ao_ex (ae_ix hr rfl (ao_pl 2) (ao_ex ae_int))) aa_nil)) (ae_one (ae_cmp ok_ne (or_ne hr.units) (ao_ex (ae_ix hr rfl (ao_pl 2) (ao_ex ae_int))) (ao_ex (ae_ix hr rfl (ao_pl 2) (ao_ex ae_int)))))))) al_nil)
      (al_cons (as_if (at_w (aw_or (at_cmp ok_ne (or_ne hr.units) (ao_pl 1) (ao_ex ae_str)) (aw_or (at_not (at_val (ae_isi rfl z_isinstance (ao_ex (ae_ix hr rfl (ao_pl 2) (ao_ex ae_int))) z_tuple boot_tuple))) (aw_or (at_cmp ok_gt or_gt (ao_ex (ae_b1 ok_len or_len z_len PySem.boot_len (ao_ex (ae_ix hr rfl (ao_pl 2) (ao_ex ae_int))))) (ao_ex ae_int)) (aw_or1 (at_cmp ok_neE (or_neE hr.units0) (ao_ex (ae_lc [("one", 3)] S.nd (ai_any rfl (ae_fz (ae_ix hr rfl (ao_pl 2) (ao_ex ae_int)))) (fun _ _ _ _ _ => (ag_name 3 S.nd)) (fun _ _ _ _ _ => (apt_one (at_not (at_val (ae_call rfl rfl rfl C__law_is_name (hr.mono (by decide : 1 ≤ 2)) takes0 (aa_cons (ao_pl 3) aa_nil)))))) (fun _ _ _ _ _ => (ae_var 3)))) (ao_ex (ae_lst aa_nil)))))))) (al_one (as_ret ae_bl)) al_nil)
      (al_one (as_ret (ae_and2 (ae_cmp ok_notIn (or_notIn (room65 hr)) (ao_ex (ae_ix hr rfl (ao_pl 2) (ao_ex ae_int))) (ao_ex (ae_ix hr rfl (ao_pl 2) (ao_ex ae_int)))) (ae_one (ae_cmp ok_eqE (or_eqE hr.units0) (ao_ex (ae_lc [("at", 4)] S.nd (ai_rng2 z_range (ao_ex ae_int) (ao_ex (ae_b1 ok_len or_len z_len PySem.boot_len (ao_ex (ae_ix hr rfl (ao_pl 2) (ao_ex ae_int)))))) (fun _ _ _ _ _ => (ag_name 4 S.nd)) (fun _ _ _ _ _ => (apt_one (at_cmp ok_le or_le (ao_ex (ae_ix hr rfl (ao_ex (ae_ix hr rfl (ao_pl 2) (ao_ex ae_int))) (ao_pl 4))) (ao_ex (ae_ix hr rfl (ao_ex (ae_ix hr rfl (ao_pl 2) (ao_ex ae_int))) (ao_ex (ae_bin ok_sub op_sub (ao_pl 4) (ao_ex ae_int)))))))) (fun _ _ _ _ _ => (ae_var 4)))) (ao_ex (ae_lst aa_nil))))))))))))))⟩
abbrev s__law_many : Stmt := top 40
theorem sc__law_many : FnScope ["value", "part"] ["value"] (defScope s__law_many) := ⟨rfl, rfl, rfl, by decide +kernel, rfl, by decide +kernel, by decide +kernel⟩
set_option maxHeartbeats 2000000 in
theorem ok__law_many {n : Nat} {f : Addr} {fd : FuncData} (F : Fun Γ.K "_law_many" "_law_many" s__law_many f fd)
    (C__law_is_plain : Cl Γ mg base 3 "_law_is_plain" 1 [] (d__law_is_plain))
    (C__law_many : Cl Γ mg base (3 + n) "_law_many" 1 [] (d__law_many n))
    (z_isinstance : mg "isinstance" = none)
    (z_tuple : mg "tuple" = none)
    (z_str : mg "str" = none)
    (z_len : mg "len" = none)
    (z_sum : mg "sum" = none) :
    FnOk Γ.prog Γ.w Γ.K mg base (L2.CX Γ.prog Γ.w) (3 + n + 1) f fd ["value"] (spD Γ 1 (b__law_many (d__law_many n))) := by
  have S := sc__law_many
  refine fn_def (pb := [true]) (m := 2) F S rfl rfl fun cdv A outer s H E hr tk hp => ?_
  exact ⟨_, (al_cons (as_if (at_w (aw_or (at_not (at_val (ae_isi rfl z_isinstance (ao_pl 0) z_tuple boot_tuple))) (aw_or (at_cmp ok_eqE (or_eqE hr.units0) (ao_pl 0) (ao_ex (ae_tup aa_nil))) (aw_or1 (at_not (at_val (ae_isi rfl z_isinstance (ao_ex (ae_ix hr rfl (ao_pl 0) (ao_ex ae_int))) z_str boot_str))))))) (al_one (as_ret ae_int)) al_nil)
      (al_cons (as_if (at_cmp ok_notIn (or_notIn (room65 hr)) (ao_ex (ae_ix hr rfl (ao_pl 0) (ao_ex ae_int))) (ao_ex (ae_lst (aa_cons (ao_ex ae_str) (aa_cons (ao_ex ae_str) aa_nil))))) (al_one (as_ret (ae_ifE (at_val (ae_call rfl rfl rfl C__law_is_plain (hr.mono (Nat.le_trans (by decide : 3 ≤ 3) (Nat.le_add_right _ _))) tk (aa_cons (ao_pl 0) aa_nil))) ae_int ae_int))) al_nil)
      (al_cons (as_if (at_w (aw_or (at_cmp ok_ne (or_ne hr.units) (ao_ex (ae_b1 ok_len or_len z_len PySem.boot_len (ao_pl 0))) (ao_ex ae_int)) (aw_or (at_not (at_val (ae_isi rfl z_isinstance (ao_ex (ae_ix hr rfl (ao_pl 0) (ao_ex ae_int))) z_tuple boot_tuple))) (aw_or1 (at_not (at_chain ok_le or_le ok_le or_le ae_int (ae_b1 ok_len or_len z_len PySem.boot_len (ao_ex (ae_ix hr rfl (ao_pl 0) (ao_ex ae_int)))) ae_int)))))) (al_one (as_ret ae_int)) al_nil)
      (al_one (as_ret (ae_b1 ok_sum (cr_sum rfl) z_sum b_sum (ao_ex (ae_lc [("part", 1)] S.nd (ai_any rfl (ae_fz (ae_ix hr rfl (ao_pl 0) (ao_ex ae_int)))) (fun _ _ _ _ _ => (ag_name 1 S.nd)) (fun _ _ _ _ _ => apt_nil) (fun _ _ _ _ _ => (ae_call rfl rfl rfl C__law_many (hr.mono (Nat.le_refl _)) takes0 (aa_cons (ao_pl 1) aa_nil)))))))))))⟩
abbrev s__law_bent : Stmt := top 41
theorem sc__law_bent : FnScope ["pen", "sentence", "calls", "some", "at", "one", "two"] ["pen", "sentence", "calls"] (defScope s__law_bent) := ⟨rfl, rfl, rfl, by decide +kernel, rfl, by decide +kernel, by decide +kernel⟩
set_option maxHeartbeats 2000000 in
theorem ok__law_bent {n : Nat} {f : Addr} {fd : FuncData} (F : Fun Γ.K "_law_bent" "_law_bent" s__law_bent f fd)
    (C__law_draw : Cl Γ mg base 1 "_law_draw" 2 [] (d__law_draw))
    (C__law_bent : Cl Γ mg base (2 + n) "_law_bent" 3 [] (d__law_bent n))
    (C__law_pick : Cl Γ mg base 2 "_law_pick" 2 [] (d__law_pick))
    (z_len : mg "len" = none)
    (z_list : mg "list" = none)
    (z_sorted : mg "sorted" = none)
    (z_set : mg "set" = none)
    (z_tuple : mg "tuple" = none) :
    FnOk Γ.prog Γ.w Γ.K mg base (L2.CX Γ.prog Γ.w) (2 + n + 1) f fd ["pen", "sentence", "calls"] (spD Γ 3 (b__law_bent (d__law_bent n))) := by
  have S := sc__law_bent
  refine fn_def (pb := [true, true, true]) (m := 7) F S rfl rfl fun cdv A outer s H E hr tk hp => ?_
  exact ⟨_, (al_cons (as_if (at_w (aw_and (at_cmp ok_in (or_in (room65 hr)) (ao_ex (ae_ix hr rfl (ao_pl 1) (ao_ex ae_int))) (ao_ex (ae_lst (aa_cons (ao_ex ae_str) (aa_cons (ao_ex ae_str) aa_nil))))) (aw_and1 (at_cmp ok_gt or_gt (ao_ex (ae_call rfl rfl rfl C__law_draw (hr.mono (Nat.le_trans (by decide : 1 ≤ 2) (Nat.le_add_right _ _))) tk (aa_cons (ao_pl 0) (aa_cons (ao_ex ae_int) aa_nil)))) (ao_ex ae_int))))) (al_cons (as_set 4 S.nd (ae_call rfl rfl rfl C__law_draw (hr.mono (Nat.le_trans (by decide : 1 ≤ 2) (Nat.le_add_right _ _))) tk (aa_cons (ao_pl 0) (aa_cons (ao_ex (ae_b1 ok_len or_len z_len PySem.boot_len (ao_ex (ae_ix hr rfl (ao_pl 1) (ao_ex ae_int))))) aa_nil))))
      (al_one (as_ret (ae_tup (aa_cons (ao_fz (ae_ix hr rfl (ao_pl 1) (ao_ex ae_int))) (aa_cons (ao_fz (ae_bin ok_add or_add (ao_ex (ae_bin ok_add or_add (ao_ex (ae_sl rfl (ao_ex (ae_ix hr rfl (ao_pl 1) (ao_ex ae_int))) ap_none (ap_some (ae_var 4)))) (ao_ex (ae_tup (aa_cons (ao_fz (ae_call rfl rfl rfl C__law_bent (hr.mono (Nat.le_refl _)) tk (aa_cons (ao_pl 0) (aa_cons (ao_ex (ae_ix hr rfl (ao_ex (ae_ix hr rfl (ao_pl 1) (ao_ex ae_int))) (ao_pl 4))) (aa_cons (ao_pl 2) aa_nil))))) aa_nil))))) (ao_ex (ae_sl rfl (ao_ex (ae_ix hr rfl (ao_pl 1) (ao_ex ae_int))) (ap_some (ae_bin ok_add or_add (ao_pl 4) (ao_ex ae_int))) ap_none)))) aa_nil)))))) al_nil)
      (al_cons (as_par 5 6 S.nd (ae_call rfl rfl rfl C__law_pick (hr.mono (Nat.le_trans (by decide : 2 ≤ 2) (Nat.le_add_right _ _))) tk (aa_cons (ao_pl 0) (aa_cons (ao_pl 2) aa_nil))) (ae_call rfl rfl rfl C__law_pick (hr.mono (Nat.le_trans (by decide : 2 ≤ 2) (Nat.le_add_right _ _))) tk (aa_cons (ao_pl 0) (aa_cons (ao_pl 2) aa_nil))))
      (al_cons (as_set 3 S.nd (ae_lst (aa_cons (ao_fz (ae_tup (aa_cons (ao_fz (ae_ix hr rfl (ao_pl 1) (ao_ex ae_int))) aa_nil))) (aa_cons (ao_fz (ae_bin ok_add or_add (ao_pl 1) (ao_ex (ae_tup (aa_cons (ao_ex (ae_var 1)) aa_nil))))) (aa_cons (ao_fz (ae_t1 ok_list (or_list rfl) z_list boot_list (ao_pl 1))) (aa_cons (ao_fz (ae_tup (aa_cons (ao_ex ae_str) (aa_cons (ao_ex (ae_var 1)) aa_nil)))) (aa_cons (ao_fz (ae_tup (aa_cons (ao_ex ae_str) (aa_cons (ao_fz (ae_tup (aa_cons (ao_ex (ae_var 1)) aa_nil))) aa_nil)))) (aa_cons (ao_fz (ae_tup (aa_cons (ao_ex ae_str) (aa_cons (ao_fz (ae_lst (aa_cons (ao_ex (ae_var 1)) (aa_cons (ao_ex (ae_var 1)) aa_nil)))) aa_nil)))) (aa_cons (ao_fz (ae_tup (aa_cons (ao_ex ae_str) (aa_cons (ao_fz (ae_tup (aa_cons (ao_ex (ae_var 1)) (aa_cons (ao_ex (ae_var 1)) aa_nil)))) aa_nil)))) (aa_cons (ao_fz (ae_tup (aa_cons (ao_ex ae_str) (aa_cons (ao_fz (ae_bin ok_mulT op_repT (ao_ex (ae_tup (aa_cons (ao_ex (ae_var 1)) aa_nil))) (ao_ex ae_int))) aa_nil)))) aa_nil))))))))))
      (al_cons (as_set 3 S.nd (ae_bin ok_add or_add (ao_pl 3) (ao_ex (ae_lst (aa_cons (ao_fz (ae_tup (aa_cons (ao_ex ae_str) (aa_cons (ao_fz (ae_tup aa_nil)) aa_nil)))) (aa_cons (ao_fz (ae_tup (aa_cons (ao_ex ae_str) (aa_cons (ao_fz (ae_bin ok_mulT op_repT (ao_ex (ae_tup (aa_cons (ao_ex (ae_var 5)) aa_nil))) (ao_ex ae_int))) aa_nil)))) (aa_cons (ao_fz (ae_tup (aa_cons (ao_ex ae_str) (aa_cons (ao_fz (ae_bin ok_mulT op_repT (ao_ex (ae_tup (aa_cons (ao_ex (ae_var 5)) aa_nil))) (ao_ex ae_int))) aa_nil)))) (aa_cons (ao_fz (ae_tup (aa_cons (ao_ex ae_str) (aa_cons (ao_fz (ae_lst (aa_cons (ao_ex (ae_var 5)) aa_nil))) aa_nil)))) (aa_cons (ao_fz (ae_tup (aa_cons (ao_ex ae_str) (aa_cons (ao_ex (ae_var 5)) aa_nil)))) (aa_cons (ao_fz (ae_tup (aa_cons (ao_ex ae_str) (aa_cons (ao_fz (ae_tup (aa_cons (ao_ex (ae_var 5)) (aa_cons (ao_ex ae_non) aa_nil)))) aa_nil)))) (aa_cons (ao_fz (ae_tup (aa_cons (ao_ex ae_str) (aa_cons (ao_ex (ae_var 5)) (aa_cons (ao_fz (ae_tup (aa_cons (ao_ex (ae_var 5)) aa_nil))) aa_nil))))) (aa_cons (ao_fz (ae_tup (aa_cons (ao_ex ae_str) (aa_cons (ao_ex (ae_var 5)) (aa_cons (ao_fz (ae_tup (aa_cons (ao_ex (ae_var 6)) aa_nil))) aa_nil))))) (aa_cons (ao_fz (ae_tup (aa_cons (ao_ex ae_str) (aa_cons (ao_ex ae_str) (aa_cons (ao_fz (ae_tup aa_nil)) aa_nil))))) (aa_cons (ao_fz (ae_tup (aa_cons (ao_ex ae_str) (aa_cons (ao_ex ae_str) (aa_cons (ao_fz (ae_bin ok_mulT op_repT (ao_ex (ae_tup (aa_cons (ao_ex (ae_var 5)) aa_nil))) (ao_ex ae_int))) aa_nil))))) (aa_cons (ao_fz (ae_tup (aa_cons (ao_ex ae_str) (aa_cons (ao_ex ae_str) (aa_cons (ao_fz (ae_bin ok_mulT op_repT (ao_ex (ae_tup (aa_cons (ao_ex (ae_var 5)) aa_nil))) (ao_ex ae_int))) aa_nil))))) (aa_cons (ao_fz (ae_tup (aa_cons (ao_ex ae_str) (aa_cons (ao_ex ae_str) (aa_cons (ao_fz (ae_lst (aa_cons (ao_ex (ae_var 5)) aa_nil))) aa_nil))))) aa_nil))))))))))))))))
      (al_cons (as_set 3 S.nd (ae_bin ok_add or_add (ao_pl 3) (ao_ex (ae_lst (aa_cons (ao_fz (ae_tup (aa_cons (ao_ex ae_str) (aa_cons (ao_ex ae_int) (aa_cons (ao_ex (ae_var 5)) (aa_cons (ao_fz (ae_tup aa_nil)) aa_nil)))))) (aa_cons (ao_fz (ae_tup (aa_cons (ao_ex ae_str) (aa_cons (ao_ex ae_int) (aa_cons (ao_ex (ae_var 5)) (aa_cons (ao_fz (ae_tup aa_nil)) aa_nil)))))) (aa_cons (ao_fz (ae_tup (aa_cons (ao_ex ae_str) (aa_cons (ao_ex ae_int) (aa_cons (ao_ex (ae_var 5)) (aa_cons (ao_fz (ae_tup aa_nil)) aa_nil)))))) (aa_cons (ao_fz (ae_tup (aa_cons (ao_ex ae_str) (aa_cons (ao_ex ae_bl) (aa_cons (ao_ex (ae_var 5)) (aa_cons (ao_fz (ae_tup aa_nil)) aa_nil)))))) (aa_cons (ao_fz (ae_tup (aa_cons (ao_ex ae_str) (aa_cons (ao_ex ae_int) (aa_cons (ao_ex (ae_var 5)) aa_nil))))) (aa_cons (ao_fz (ae_tup (aa_cons (ao_ex ae_str) (aa_cons (ao_ex ae_int) (aa_cons (ao_ex (ae_var 5)) (aa_cons (ao_fz (ae_tup (aa_cons (ao_ex (ae_var 6)) aa_nil))) aa_nil)))))) (aa_cons (ao_fz (ae_tup (aa_cons (ao_ex ae_str) (aa_cons (ao_ex ae_int) (aa_cons (ao_ex (ae_var 5)) (aa_cons (ao_fz (ae_lst (aa_cons (ao_ex (ae_var 6)) aa_nil))) aa_nil)))))) (aa_cons (ao_fz (ae_tup (aa_cons (ao_ex ae_str) (aa_cons (ao_ex ae_int) (aa_cons (ao_ex ae_str) (aa_cons (ao_fz (ae_tup (aa_cons (ao_ex (ae_var 6)) (aa_cons (ao_ex (ae_var 5)) aa_nil)))) aa_nil)))))) aa_nil))))))))))))
      (al_cons (as_set 3 S.nd (ae_bin ok_add or_add (ao_pl 3) (ao_ex (ae_lst (aa_cons (ao_fz (ae_tup (aa_cons (ao_ex ae_str) (aa_cons (ao_ex ae_int) (aa_cons (ao_ex ae_str) (aa_cons (ao_fz (ae_t1 ok_tuple call_tuple_of z_tuple boot_tuple (ao_ex (ae_srtSet rfl rfl rfl rfl z_sorted z_set (ao_pl 2))))) aa_nil)))))) (aa_cons (ao_fz (ae_tup (aa_cons (ao_ex ae_str) (aa_cons (ao_ex ae_int) (aa_cons (ao_ex (ae_var 5)) (aa_cons (ao_ex (ae_var 6)) aa_nil)))))) (aa_cons (ao_fz (ae_tup (aa_cons (ao_ex ae_str) (aa_cons (ao_ex ae_int) (aa_cons (ao_ex (ae_var 5)) (aa_cons (ao_ex (ae_var 5)) aa_nil)))))) (aa_cons (ao_fz (ae_tup (aa_cons (ao_ex ae_str) (aa_cons (ao_ex ae_int) (aa_cons (ao_ex (ae_var 5)) (aa_cons (ao_ex (ae_var 6)) aa_nil)))))) (aa_cons (ao_fz (ae_tup (aa_cons (ao_ex ae_str) (aa_cons (ao_ex (ae_var 5)) (aa_cons (ao_ex (ae_var 6)) aa_nil))))) (aa_cons (ao_fz (ae_tup (aa_cons (ao_ex ae_str) (aa_cons (ao_ex ae_int) (aa_cons (ao_ex (ae_var 5)) (aa_cons (ao_ex ae_non) aa_nil)))))) aa_nil))))))))))
      (al_cons (as_set 3 S.nd (ae_bin ok_add or_add (ao_pl 3) (ao_ex (ae_lst (aa_cons (ao_fz (ae_tup (aa_cons (ao_ex ae_str) (aa_cons (ao_ex (ae_var 5)) (aa_cons (ao_ex (ae_var 6)) aa_nil))))) (aa_cons (ao_fz (ae_tup (aa_cons (ao_ex ae_str) (aa_cons (ao_ex (ae_var 5)) (aa_cons (ao_ex (ae_var 5)) aa_nil))))) (aa_cons (ao_fz (ae_tup (aa_cons (ao_ex ae_str) (aa_cons (ao_ex (ae_var 5)) aa_nil)))) (aa_cons (ao_fz (ae_tup (aa_cons (ao_ex ae_str) (aa_cons (ao_ex (ae_var 5)) (aa_cons (ao_ex ae_int) aa_nil))))) (aa_cons (ao_fz (ae_tup (aa_cons (ao_ex ae_str) (aa_cons (ao_ex (ae_var 5)) (aa_cons (ao_ex (ae_var 6)) (aa_cons (ao_ex (ae_var 5)) aa_nil)))))) (aa_cons (ao_fz (ae_tup (aa_cons (ao_ex ae_str) (aa_cons (ao_fz (ae_tup (aa_cons (ao_ex (ae_var 5)) aa_nil))) aa_nil)))) (aa_cons (ao_fz (ae_tup (aa_cons (ao_ex ae_non) (aa_cons (ao_fz (ae_tup (aa_cons (ao_ex (ae_var 5)) aa_nil))) aa_nil)))) (aa_cons (ao_fz (ae_tup aa_nil)) (aa_cons (ao_ex ae_non) (aa_cons (ao_ex ae_int) (aa_cons (ao_fz (ae_ix hr rfl (ao_pl 1) (ao_ex ae_int))) aa_nil)))))))))))))))
      (al_one (as_ret (ae_call rfl rfl rfl C__law_pick (hr.mono (Nat.le_trans (by decide : 2 ≤ 2) (Nat.le_add_right _ _))) tk (aa_cons (ao_pl 0) (aa_cons (ao_pl 3) aa_nil))))))))))))⟩
abbrev s__law_judged : Stmt := top 42
theorem sc__law_judged : FnScope ["value"] ["value"] (defScope s__law_judged) := ⟨rfl, rfl, rfl, by decide +kernel, rfl, by decide +kernel, by decide +kernel⟩
set_option maxHeartbeats 2000000 in
theorem ok__law_judged {f : Addr} {fd : FuncData} (F : Fun Γ.K "_law_judged" "_law_judged" s__law_judged f fd)
    (C__law_same : Cl Γ mg base 8 "_law_same" 2 [] (d__law_same 8))
    (C_is_sentence : Cl Γ mg base 6 "is_sentence" 1 [] (d_is_sentence))
    (C__law_many : Cl Γ mg base 11 "_law_many" 1 [] (d__law_many 8)) :
    FnOk Γ.prog Γ.w Γ.K mg base (L2.CX Γ.prog Γ.w) (11 + 1) f fd ["value"] (spD Γ 1 (d__law_judged)) := by
  have S := sc__law_judged
  refine fn_def (pb := [true]) (m := 1) F S rfl rfl fun cdv A outer s H E hr tk hp => ?_
  exact ⟨_, (al_one (as_ret (ae_call rfl rfl rfl C__law_same (hr.mono (by decide : 8 ≤ 11)) tk (aa_cons (ao_ex (ae_call rfl rfl rfl C_is_sentence (hr.mono (by decide : 6 ≤ 11)) tk (aa_cons (ao_pl 0) aa_nil))) (aa_cons (ao_ex (ae_cmp ok_le or_le (ao_ex (ae_call rfl rfl rfl C__law_many (hr.mono (by decide : 11 ≤ 11)) tk (aa_cons (ao_pl 0) aa_nil))) (ao_ex ae_int))) aa_nil)))))⟩
abbrev s_law : Stmt := top 43
theorem sc_law : FnScope ["script", "pen", "lap", "deep", "wide", "calls", "sentence", "turn", "bent"] ["script"] (defScope s_law) := ⟨rfl, rfl, rfl, by decide +kernel, rfl, by decide +kernel, by decide +kernel⟩
set_option maxHeartbeats 2000000 in
theorem ok_law {f : Addr} {fd : FuncData} (F : Fun Γ.K "law" "law" s_law f fd)
    (C__law_pen : Cl Γ mg base 1 "_law_pen" 1 [] (d__law_pen))
    (C__law_calls : Cl Γ mg base 4 "_law_calls" 2 [] (d__law_calls))
    (C__law_draw : Cl Γ mg base 1 "_law_draw" 2 [] (d__law_draw))
    (C__law_some_sentence : Cl Γ mg base 12 "_law_some_sentence" 4 [] (d__law_some_sentence 8))
    (C__law_judged : Cl Γ mg base 12 "_law_judged" 1 [] (d__law_judged))
    (C__law_many : Cl Γ mg base 11 "_law_many" 1 [] (d__law_many 8))
    (C_names_of : Cl Γ mg base 9 "names_of" 1 [] (d_names_of))
    (C__law_sentence_names : Cl Γ mg base 9 "_law_sentence_names" 1 [] (d__law_sentence_names))
    (C__law_bent : Cl Γ mg base 10 "_law_bent" 3 [] (d__law_bent 8))
    (C__law_pick : Cl Γ mg base 2 "_law_pick" 2 [] (d__law_pick))
    (C_is_sentence : Cl Γ mg base 6 "is_sentence" 1 [] (d_is_sentence))
    (z_range : mg "range" = none)
    (z_repr : mg "repr" = none)
    (z_tuple : mg "tuple" = none) :
    FnG Γ mg base (12 + 1) f fd ["script"] (spD Γ 1 (d_law)) := by
  have S := sc_law
  refine fn_defG (pb := [true]) (m := 9) F S rfl rfl fun cdv A hG outer s H E hr tk hp => ?_
  exact ⟨_, (al_cons (as_set 1 S.nd (ae_call rfl rfl rfl C__law_pen (hr.mono (by decide : 1 ≤ 12)) tk (aa_cons (ao_pl 0) aa_nil)))
      (al_cons (as_for (vs := [2]) hp (ai_rng1 z_range ae_int) (ag_name 2 S.nd) (al_cons (as_set 5 S.nd (ae_call rfl rfl rfl C__law_calls (hr.mono (by decide : 4 ≤ 12)) tk (aa_cons (ao_pl 1) (aa_cons (ao_ex (ae_bin ok_add or_add (ao_ex ae_int) (ao_ex (ae_call rfl rfl rfl C__law_draw (hr.mono (by decide : 1 ≤ 12)) tk (aa_cons (ao_pl 1) (aa_cons (ao_ex ae_int) aa_nil)))))) aa_nil))))
      (al_cons (as_set 6 S.nd (ae_call rfl rfl rfl C__law_some_sentence (hr.mono (by decide : 12 ≤ 12)) tk (aa_cons (ao_pl 1) (aa_cons (ao_pl 5) (aa_cons (ao_ex (ae_bin ok_add or_add (ao_ex ae_int) (ao_ex (ae_call rfl rfl rfl C__law_draw (hr.mono (by decide : 1 ≤ 12)) tk (aa_cons (ao_pl 1) (aa_cons (ao_ex ae_int) aa_nil)))))) (aa_cons (ao_ex (ae_bin ok_add or_add (ao_ex ae_int) (ao_ex (ae_call rfl rfl rfl C__law_draw (hr.mono (by decide : 1 ≤ 12)) tk (aa_cons (ao_pl 1) (aa_cons (ao_ex ae_int) aa_nil)))))) aa_nil))))))
      (al_cons (as_if (at_not (at_val (ae_call rfl rfl rfl C__law_judged (hr.mono (by decide : 12 ≤ 12)) tk (aa_cons (ao_pl 6) aa_nil)))) (al_one (as_ret ae_bl)) al_nil)
      (al_cons (as_if (at_w (aw_and (at_cmp ok_le or_le (ao_ex (ae_call rfl rfl rfl C__law_many (hr.mono (by decide : 11 ≤ 12)) tk (aa_cons (ao_pl 6) aa_nil))) (ao_ex ae_int)) (aw_and1 (at_cmp ok_ne (or_ne hr.units) (ao_ex (ae_b1 ok_repr (cr_repr hG hr.units) z_repr Den.b_repr (ao_ex (ae_call rfl rfl rfl C_names_of (hr.mono (by decide : 9 ≤ 12)) tk (aa_cons (ao_pl 6) aa_nil))))) (ao_ex (ae_b1 ok_repr (cr_repr hG hr.units) z_repr Den.b_repr (ao_ex (ae_t1 ok_tuple call_tuple_of z_tuple boot_tuple (ao_ex (ae_call rfl rfl rfl C__law_sentence_names (hr.mono (by decide : 9 ≤ 12)) tk (aa_cons (ao_pl 6) aa_nil))))))))))) (al_one (as_ret ae_bl)) al_nil)
      (al_one (as_for (vs := [7]) hp (ai_rng1 z_range ae_int) (ag_name 7 S.nd) (al_cons (as_set 8 S.nd (ae_call rfl rfl rfl C__law_bent (hr.mono (by decide : 10 ≤ 12)) tk (aa_cons (ao_pl 1) (aa_cons (ao_pl 6) (aa_cons (ao_pl 5) aa_nil)))))
      (al_one (as_if (at_w (aw_or (at_not (at_val (ae_call rfl rfl rfl C__law_judged (hr.mono (by decide : 12 ≤ 12)) tk (aa_cons (ao_pl 8) aa_nil)))) (aw_or (at_not (at_val (ae_call rfl rfl rfl C__law_judged (hr.mono (by decide : 12 ≤ 12)) tk (aa_cons (ao_ex (ae_tup (aa_cons (ao_ex ae_str) (aa_cons (ao_fz (ae_tup (aa_cons (ao_ex (ae_var 8)) (aa_cons (ao_ex (ae_var 6)) aa_nil)))) aa_nil)))) aa_nil)))) (aw_or1 (at_not (at_val (ae_call rfl rfl rfl C__law_judged (hr.mono (by decide : 12 ≤ 12)) tk (aa_cons (ao_ex (ae_tup (aa_cons (ao_ex ae_str) (aa_cons (ao_fz (ae_tup (aa_cons (ao_ex (ae_var 6)) (aa_cons (ao_ex (ae_var 8)) (aa_cons (ao_ex (ae_var 8)) aa_nil))))) aa_nil)))) aa_nil)))))))) (al_one (as_ret ae_bl)) al_nil))))))))))
      (al_cons (as_set 3 S.nd (ae_tup (aa_cons (ao_ex ae_str) (aa_cons (ao_fz (ae_tup (aa_cons (ao_ex ae_str) aa_nil))) aa_nil))))
      (al_cons (as_for (vs := [2]) hp (ai_rng1 z_range ae_int) (ag_name 2 S.nd) (al_one (as_set 3 S.nd (ae_tup (aa_cons (ao_ex ae_str) (aa_cons (ao_fz (ae_tup (aa_cons (ao_ex (ae_var 3)) (aa_cons (ao_fz (ae_tup (aa_cons (ao_ex ae_str) (aa_cons (ao_fz (ae_tup (aa_cons (ao_ex ae_str) aa_nil))) aa_nil)))) aa_nil)))) aa_nil))))))
      (al_cons (as_set 4 S.nd (ae_tup (aa_cons (ao_ex ae_str) (aa_cons (ao_fz (ae_tup (aa_cons (ao_ex ae_str) aa_nil))) aa_nil))))
      (al_cons (as_for (vs := [2]) hp (ai_rng1 z_range ae_int) (ag_name 2 S.nd) (al_one (as_set 4 S.nd (ae_tup (aa_cons (ao_fz (ae_call rfl rfl rfl C__law_pick (hr.mono (by decide : 2 ≤ 12)) tk (aa_cons (ao_pl 1) (aa_cons (ao_ex (ae_lst (aa_cons (ao_ex ae_str) (aa_cons (ao_ex ae_str) aa_nil)))) aa_nil)))) (aa_cons (ao_fz (ae_tup (aa_cons (ao_ex (ae_var 4)) (aa_cons (ao_ex (ae_var 4)) aa_nil)))) aa_nil))))))
      (al_one (as_ret (ae_and2 (ae_isB (ao_ex (ae_call rfl rfl rfl C_is_sentence (hr.mono (by decide : 6 ≤ 12)) tk (aa_cons (ao_pl 4) aa_nil)))) (ae_and2 (ae_isB (ao_ex (ae_call rfl rfl rfl C_is_sentence (hr.mono (by decide : 6 ≤ 12)) tk (aa_cons (ao_pl 3) aa_nil)))) (ae_one (ae_call rfl rfl rfl C__law_judged (hr.mono (by decide : 12 ≤ 12)) tk (aa_cons (ao_ex (ae_call rfl rfl rfl C__law_pick (hr.mono (by decide : 2 ≤ 12)) tk (aa_cons (ao_pl 1) (aa_cons (ao_ex (ae_lst (aa_cons (ao_ex ae_non) (aa_cons (ao_ex ae_int) (aa_cons (ao_ex ae_str) (aa_cons (ao_fz ae_newD) (aa_cons (ao_fz (ae_lst (aa_cons (ao_ex ae_str) (aa_cons (ao_fz (ae_tup (aa_cons (ao_ex ae_str) aa_nil))) aa_nil)))) (aa_cons (ao_ex ae_bl) (aa_cons (ao_fz (ae_tup (aa_cons (ao_ex ae_str) aa_nil))) (aa_cons (ao_fz (ae_tup (aa_cons (ao_fz (ae_tup aa_nil)) aa_nil))) aa_nil)))))))))) aa_nil)))) aa_nil)))))))))))))⟩
set_option maxHeartbeats 8000000 in
theorem all_mk {l : PySem.W.OpenLaw} {w : World} {K : PySem.W.Frag} {h : Heap} {mg : Str → Option Value} {fa : Addr} (X : K.In h) (G : h.Ns mainGlobals mg) (hfa : mg "law" = some (.ref fa))
    {f_is_whole : Addr} {od_is_whole an_is_whole : Option Addr} {sl_is_whole : Array (Option Value)} {oc_is_whole kV_is_whole dc_is_whole pm_is_whole cd_is_whole ct_is_whole : Value}
    (a_is_whole : PySem.W.nsIn K mainGlobals "is_whole" = some (some (.ref f_is_whole)))
    {T_is_whole : Addr} {dT_is_whole : Option Addr} {nT_is_whole : Nat} {sT_is_whole : Array (Option Value)} 
    (u_is_whole : K.lookup T_is_whole = some ⟨.type "tuple", dT_is_whole, .seq #[Value.none] nT_is_whole, sT_is_whole⟩)
    (l_is_whole : K.lookup f_is_whole = some ⟨oc_is_whole, od_is_whole, .func (PySem.W.fnOf "is_whole" "is_whole" (defArgs s_is_whole) (defBody s_is_whole) (defScope s_is_whole) (.ref T_is_whole) kV_is_whole dc_is_whole pm_is_whole an_is_whole cd_is_whole ct_is_whole), sl_is_whole⟩)
    (c_is_whole : PySem.W.codeIn K cd_is_whole "is_whole" = true) (k_is_whole : PySem.W.keepIn K (.ref f_is_whole) = true)
    {f_ascending : Addr} {od_ascending an_ascending : Option Addr} {sl_ascending : Array (Option Value)} {oc_ascending kV_ascending dc_ascending pm_ascending cd_ascending ct_ascending : Value}
    (a_ascending : PySem.W.nsIn K mainGlobals "ascending" = some (some (.ref f_ascending)))
    (l_ascending : K.lookup f_ascending = some ⟨oc_ascending, od_ascending, .func (PySem.W.fnOf "ascending" "ascending" (defArgs s_ascending) (defBody s_ascending) (defScope s_ascending) .none kV_ascending dc_ascending pm_ascending an_ascending cd_ascending ct_ascending), sl_ascending⟩)
    (c_ascending : PySem.W.codeIn K cd_ascending "ascending" = true) (k_ascending : PySem.W.keepIn K (.ref f_ascending) = true)
    {f_is_name : Addr} {od_is_name an_is_name : Option Addr} {sl_is_name : Array (Option Value)} {oc_is_name kV_is_name dc_is_name pm_is_name cd_is_name ct_is_name : Value}
    (a_is_name : PySem.W.nsIn K mainGlobals "is_name" = some (some (.ref f_is_name)))
    (l_is_name : K.lookup f_is_name = some ⟨oc_is_name, od_is_name, .func (PySem.W.fnOf "is_name" "is_name" (defArgs s_is_name) (defBody s_is_name) (defScope s_is_name) .none kV_is_name dc_is_name pm_is_name an_is_name cd_is_name ct_is_name), sl_is_name⟩)
    (c_is_name : PySem.W.codeIn K cd_is_name "is_name" = true) (k_is_name : PySem.W.keepIn K (.ref f_is_name) = true)
    {f_is_word : Addr} {od_is_word an_is_word : Option Addr} {sl_is_word : Array (Option Value)} {oc_is_word kV_is_word dc_is_word pm_is_word cd_is_word ct_is_word : Value}
    (a_is_word : PySem.W.nsIn K mainGlobals "is_word" = some (some (.ref f_is_word)))
    (l_is_word : K.lookup f_is_word = some ⟨oc_is_word, od_is_word, .func (PySem.W.fnOf "is_word" "is_word" (defArgs s_is_word) (defBody s_is_word) (defScope s_is_word) .none kV_is_word dc_is_word pm_is_word an_is_word cd_is_word ct_is_word), sl_is_word⟩)
    (c_is_word : PySem.W.codeIn K cd_is_word "is_word" = true) (k_is_word : PySem.W.keepIn K (.ref f_is_word) = true)
    {f_is_short : Addr} {od_is_short an_is_short : Option Addr} {sl_is_short : Array (Option Value)} {oc_is_short kV_is_short dc_is_short pm_is_short cd_is_short ct_is_short : Value}
    (a_is_short : PySem.W.nsIn K mainGlobals "is_short" = some (some (.ref f_is_short)))
    (l_is_short : K.lookup f_is_short = some ⟨oc_is_short, od_is_short, .func (PySem.W.fnOf "is_short" "is_short" (defArgs s_is_short) (defBody s_is_short) (defScope s_is_short) .none kV_is_short dc_is_short pm_is_short an_is_short cd_is_short ct_is_short), sl_is_short⟩)
    (c_is_short : PySem.W.codeIn K cd_is_short "is_short" = true) (k_is_short : PySem.W.keepIn K (.ref f_is_short) = true)
    {f_are_resets : Addr} {od_are_resets an_are_resets : Option Addr} {sl_are_resets : Array (Option Value)} {oc_are_resets kV_are_resets dc_are_resets pm_are_resets cd_are_resets ct_are_resets : Value}
    (a_are_resets : PySem.W.nsIn K mainGlobals "are_resets" = some (some (.ref f_are_resets)))
    (l_are_resets : K.lookup f_are_resets = some ⟨oc_are_resets, od_are_resets, .func (PySem.W.fnOf "are_resets" "are_resets" (defArgs s_are_resets) (defBody s_are_resets) (defScope s_are_resets) .none kV_are_resets dc_are_resets pm_are_resets an_are_resets cd_are_resets ct_are_resets), sl_are_resets⟩)
    (c_are_resets : PySem.W.codeIn K cd_are_resets "are_resets" = true) (k_are_resets : PySem.W.keepIn K (.ref f_are_resets) = true)
    {f_are_two : Addr} {od_are_two an_are_two : Option Addr} {sl_are_two : Array (Option Value)} {oc_are_two kV_are_two dc_are_two pm_are_two cd_are_two ct_are_two : Value}
    (a_are_two : PySem.W.nsIn K mainGlobals "are_two" = some (some (.ref f_are_two)))
    (l_are_two : K.lookup f_are_two = some ⟨oc_are_two, od_are_two, .func (PySem.W.fnOf "are_two" "are_two" (defArgs s_are_two) (defBody s_are_two) (defScope s_are_two) .none kV_are_two dc_are_two pm_are_two an_are_two cd_are_two ct_are_two), sl_are_two⟩)
    (c_are_two : PySem.W.codeIn K cd_are_two "are_two" = true) (k_are_two : PySem.W.keepIn K (.ref f_are_two) = true)
    {f_is_plain : Addr} {od_is_plain an_is_plain : Option Addr} {sl_is_plain : Array (Option Value)} {oc_is_plain kV_is_plain dc_is_plain pm_is_plain cd_is_plain ct_is_plain : Value}
    (a_is_plain : PySem.W.nsIn K mainGlobals "is_plain" = some (some (.ref f_is_plain)))
    (l_is_plain : K.lookup f_is_plain = some ⟨oc_is_plain, od_is_plain, .func (PySem.W.fnOf "is_plain" "is_plain" (defArgs s_is_plain) (defBody s_is_plain) (defScope s_is_plain) .none kV_is_plain dc_is_plain pm_is_plain an_is_plain cd_is_plain ct_is_plain), sl_is_plain⟩)
    (c_is_plain : PySem.W.codeIn K cd_is_plain "is_plain" = true) (k_is_plain : PySem.W.keepIn K (.ref f_is_plain) = true)
    {f_plain_among : Addr} {od_plain_among an_plain_among : Option Addr} {sl_plain_among : Array (Option Value)} {oc_plain_among kV_plain_among dc_plain_among pm_plain_among cd_plain_among ct_plain_among : Value}
    (a_plain_among : PySem.W.nsIn K mainGlobals "plain_among" = some (some (.ref f_plain_among)))
    (l_plain_among : K.lookup f_plain_among = some ⟨oc_plain_among, od_plain_among, .func (PySem.W.fnOf "plain_among" "plain_among" (defArgs s_plain_among) (defBody s_plain_among) (defScope s_plain_among) .none kV_plain_among dc_plain_among pm_plain_among an_plain_among cd_plain_among ct_plain_among), sl_plain_among⟩)
    (c_plain_among : PySem.W.codeIn K cd_plain_among "plain_among" = true) (k_plain_among : PySem.W.keepIn K (.ref f_plain_among) = true)
    {f_is_sentence : Addr} {od_is_sentence an_is_sentence : Option Addr} {sl_is_sentence : Array (Option Value)} {oc_is_sentence kV_is_sentence dc_is_sentence pm_is_sentence cd_is_sentence ct_is_sentence : Value}
    (a_is_sentence : PySem.W.nsIn K mainGlobals "is_sentence" = some (some (.ref f_is_sentence)))
    (l_is_sentence : K.lookup f_is_sentence = some ⟨oc_is_sentence, od_is_sentence, .func (PySem.W.fnOf "is_sentence" "is_sentence" (defArgs s_is_sentence) (defBody s_is_sentence) (defScope s_is_sentence) .none kV_is_sentence dc_is_sentence pm_is_sentence an_is_sentence cd_is_sentence ct_is_sentence), sl_is_sentence⟩)
    (c_is_sentence : PySem.W.codeIn K cd_is_sentence "is_sentence" = true) (k_is_sentence : PySem.W.keepIn K (.ref f_is_sentence) = true)
    {f_plain_of : Addr} {od_plain_of an_plain_of : Option Addr} {sl_plain_of : Array (Option Value)} {oc_plain_of kV_plain_of dc_plain_of pm_plain_of cd_plain_of ct_plain_of : Value}
    (a_plain_of : PySem.W.nsIn K mainGlobals "plain_of" = some (some (.ref f_plain_of)))
    (l_plain_of : K.lookup f_plain_of = some ⟨oc_plain_of, od_plain_of, .func (PySem.W.fnOf "plain_of" "plain_of" (defArgs s_plain_of) (defBody s_plain_of) (defScope s_plain_of) .none kV_plain_of dc_plain_of pm_plain_of an_plain_of cd_plain_of ct_plain_of), sl_plain_of⟩)
    (c_plain_of : PySem.W.codeIn K cd_plain_of "plain_of" = true) (k_plain_of : PySem.W.keepIn K (.ref f_plain_of) = true)
    {f_names_in : Addr} {od_names_in an_names_in : Option Addr} {sl_names_in : Array (Option Value)} {oc_names_in kV_names_in dc_names_in pm_names_in cd_names_in ct_names_in : Value}
    (a_names_in : PySem.W.nsIn K mainGlobals "names_in" = some (some (.ref f_names_in)))
    (l_names_in : K.lookup f_names_in = some ⟨oc_names_in, od_names_in, .func (PySem.W.fnOf "names_in" "names_in" (defArgs s_names_in) (defBody s_names_in) (defScope s_names_in) .none kV_names_in dc_names_in pm_names_in an_names_in cd_names_in ct_names_in), sl_names_in⟩)
    (c_names_in : PySem.W.codeIn K cd_names_in "names_in" = true) (k_names_in : PySem.W.keepIn K (.ref f_names_in) = true)
    {f_names_of : Addr} {od_names_of an_names_of : Option Addr} {sl_names_of : Array (Option Value)} {oc_names_of kV_names_of dc_names_of pm_names_of cd_names_of ct_names_of : Value}
    (a_names_of : PySem.W.nsIn K mainGlobals "names_of" = some (some (.ref f_names_of)))
    (l_names_of : K.lookup f_names_of = some ⟨oc_names_of, od_names_of, .func (PySem.W.fnOf "names_of" "names_of" (defArgs s_names_of) (defBody s_names_of) (defScope s_names_of) .none kV_names_of dc_names_of pm_names_of an_names_of cd_names_of ct_names_of), sl_names_of⟩)
    (c_names_of : PySem.W.codeIn K cd_names_of "names_of" = true) (k_names_of : PySem.W.keepIn K (.ref f_names_of) = true)
    {f__law_pen : Addr} {od__law_pen an__law_pen : Option Addr} {sl__law_pen : Array (Option Value)} {oc__law_pen kV__law_pen dc__law_pen pm__law_pen cd__law_pen ct__law_pen : Value}
    (a__law_pen : PySem.W.nsIn K mainGlobals "_law_pen" = some (some (.ref f__law_pen)))
    (l__law_pen : K.lookup f__law_pen = some ⟨oc__law_pen, od__law_pen, .func (PySem.W.fnOf "_law_pen" "_law_pen" (defArgs s__law_pen) (defBody s__law_pen) (defScope s__law_pen) .none kV__law_pen dc__law_pen pm__law_pen an__law_pen cd__law_pen ct__law_pen), sl__law_pen⟩)
    (c__law_pen : PySem.W.codeIn K cd__law_pen "_law_pen" = true) (k__law_pen : PySem.W.keepIn K (.ref f__law_pen) = true)
    {f__law_draw : Addr} {od__law_draw an__law_draw : Option Addr} {sl__law_draw : Array (Option Value)} {oc__law_draw kV__law_draw dc__law_draw pm__law_draw cd__law_draw ct__law_draw : Value}
    (a__law_draw : PySem.W.nsIn K mainGlobals "_law_draw" = some (some (.ref f__law_draw)))
    (l__law_draw : K.lookup f__law_draw = some ⟨oc__law_draw, od__law_draw, .func (PySem.W.fnOf "_law_draw" "_law_draw" (defArgs s__law_draw) (defBody s__law_draw) (defScope s__law_draw) .none kV__law_draw dc__law_draw pm__law_draw an__law_draw cd__law_draw ct__law_draw), sl__law_draw⟩)
    (c__law_draw : PySem.W.codeIn K cd__law_draw "_law_draw" = true) (k__law_draw : PySem.W.keepIn K (.ref f__law_draw) = true)
    {f__law_pick : Addr} {od__law_pick an__law_pick : Option Addr} {sl__law_pick : Array (Option Value)} {oc__law_pick kV__law_pick dc__law_pick pm__law_pick cd__law_pick ct__law_pick : Value}
    (a__law_pick : PySem.W.nsIn K mainGlobals "_law_pick" = some (some (.ref f__law_pick)))
    (l__law_pick : K.lookup f__law_pick = some ⟨oc__law_pick, od__law_pick, .func (PySem.W.fnOf "_law_pick" "_law_pick" (defArgs s__law_pick) (defBody s__law_pick) (defScope s__law_pick) .none kV__law_pick dc__law_pick pm__law_pick an__law_pick cd__law_pick ct__law_pick), sl__law_pick⟩)
    (c__law_pick : PySem.W.codeIn K cd__law_pick "_law_pick" = true) (k__law_pick : PySem.W.keepIn K (.ref f__law_pick) = true)
    {f__law_shuffled : Addr} {od__law_shuffled an__law_shuffled : Option Addr} {sl__law_shuffled : Array (Option Value)} {oc__law_shuffled kV__law_shuffled dc__law_shuffled pm__law_shuffled cd__law_shuffled ct__law_shuffled : Value}
    (a__law_shuffled : PySem.W.nsIn K mainGlobals "_law_shuffled" = some (some (.ref f__law_shuffled)))
    (l__law_shuffled : K.lookup f__law_shuffled = some ⟨oc__law_shuffled, od__law_shuffled, .func (PySem.W.fnOf "_law_shuffled" "_law_shuffled" (defArgs s__law_shuffled) (defBody s__law_shuffled) (defScope s__law_shuffled) .none kV__law_shuffled dc__law_shuffled pm__law_shuffled an__law_shuffled cd__law_shuffled ct__law_shuffled), sl__law_shuffled⟩)
    (c__law_shuffled : PySem.W.codeIn K cd__law_shuffled "_law_shuffled" = true) (k__law_shuffled : PySem.W.keepIn K (.ref f__law_shuffled) = true)
    {f__law_some : Addr} {od__law_some an__law_some : Option Addr} {sl__law_some : Array (Option Value)} {oc__law_some kV__law_some dc__law_some pm__law_some cd__law_some ct__law_some : Value}
    (a__law_some : PySem.W.nsIn K mainGlobals "_law_some" = some (some (.ref f__law_some)))
    (l__law_some : K.lookup f__law_some = some ⟨oc__law_some, od__law_some, .func (PySem.W.fnOf "_law_some" "_law_some" (defArgs s__law_some) (defBody s__law_some) (defScope s__law_some) .none kV__law_some dc__law_some pm__law_some an__law_some cd__law_some ct__law_some), sl__law_some⟩)
    (c__law_some : PySem.W.codeIn K cd__law_some "_law_some" = true) (k__law_some : PySem.W.keepIn K (.ref f__law_some) = true)
    {f__law_name : Addr} {od__law_name an__law_name : Option Addr} {sl__law_name : Array (Option Value)} {oc__law_name kV__law_name dc__law_name pm__law_name cd__law_name ct__law_name : Value}
    (a__law_name : PySem.W.nsIn K mainGlobals "_law_name" = some (some (.ref f__law_name)))
    (l__law_name : K.lookup f__law_name = some ⟨oc__law_name, od__law_name, .func (PySem.W.fnOf "_law_name" "_law_name" (defArgs s__law_name) (defBody s__law_name) (defScope s__law_name) .none kV__law_name dc__law_name pm__law_name an__law_name cd__law_name ct__law_name), sl__law_name⟩)
    (c__law_name : PySem.W.codeIn K cd__law_name "_law_name" = true) (k__law_name : PySem.W.keepIn K (.ref f__law_name) = true)
    {f__law_names : Addr} {od__law_names an__law_names : Option Addr} {sl__law_names : Array (Option Value)} {oc__law_names kV__law_names dc__law_names pm__law_names cd__law_names ct__law_names : Value}
    (a__law_names : PySem.W.nsIn K mainGlobals "_law_names" = some (some (.ref f__law_names)))
    (l__law_names : K.lookup f__law_names = some ⟨oc__law_names, od__law_names, .func (PySem.W.fnOf "_law_names" "_law_names" (defArgs s__law_names) (defBody s__law_names) (defScope s__law_names) .none kV__law_names dc__law_names pm__law_names an__law_names cd__law_names ct__law_names), sl__law_names⟩)
    (c__law_names : PySem.W.codeIn K cd__law_names "_law_names" = true) (k__law_names : PySem.W.keepIn K (.ref f__law_names) = true)
    {f__law_same : Addr} {od__law_same an__law_same : Option Addr} {sl__law_same : Array (Option Value)} {oc__law_same kV__law_same dc__law_same pm__law_same cd__law_same ct__law_same : Value}
    (a__law_same : PySem.W.nsIn K mainGlobals "_law_same" = some (some (.ref f__law_same)))
    (l__law_same : K.lookup f__law_same = some ⟨oc__law_same, od__law_same, .func (PySem.W.fnOf "_law_same" "_law_same" (defArgs s__law_same) (defBody s__law_same) (defScope s__law_same) .none kV__law_same dc__law_same pm__law_same an__law_same cd__law_same ct__law_same), sl__law_same⟩)
    (c__law_same : PySem.W.codeIn K cd__law_same "_law_same" = true) (k__law_same : PySem.W.keepIn K (.ref f__law_same) = true)
    {f__law_is_whole : Addr} {od__law_is_whole an__law_is_whole : Option Addr} {sl__law_is_whole : Array (Option Value)} {oc__law_is_whole kV__law_is_whole dc__law_is_whole pm__law_is_whole cd__law_is_whole ct__law_is_whole : Value}
    (a__law_is_whole : PySem.W.nsIn K mainGlobals "_law_is_whole" = some (some (.ref f__law_is_whole)))
    (l__law_is_whole : K.lookup f__law_is_whole = some ⟨oc__law_is_whole, od__law_is_whole, .func (PySem.W.fnOf "_law_is_whole" "_law_is_whole" (defArgs s__law_is_whole) (defBody s__law_is_whole) (defScope s__law_is_whole) .none kV__law_is_whole dc__law_is_whole pm__law_is_whole an__law_is_whole cd__law_is_whole ct__law_is_whole), sl__law_is_whole⟩)
    (c__law_is_whole : PySem.W.codeIn K cd__law_is_whole "_law_is_whole" = true) (k__law_is_whole : PySem.W.keepIn K (.ref f__law_is_whole) = true)
    {f__law_is_name : Addr} {od__law_is_name an__law_is_name : Option Addr} {sl__law_is_name : Array (Option Value)} {oc__law_is_name kV__law_is_name dc__law_is_name pm__law_is_name cd__law_is_name ct__law_is_name : Value}
    (a__law_is_name : PySem.W.nsIn K mainGlobals "_law_is_name" = some (some (.ref f__law_is_name)))
    (l__law_is_name : K.lookup f__law_is_name = some ⟨oc__law_is_name, od__law_is_name, .func (PySem.W.fnOf "_law_is_name" "_law_is_name" (defArgs s__law_is_name) (defBody s__law_is_name) (defScope s__law_is_name) .none kV__law_is_name dc__law_is_name pm__law_is_name an__law_is_name cd__law_is_name ct__law_is_name), sl__law_is_name⟩)
    (c__law_is_name : PySem.W.codeIn K cd__law_is_name "_law_is_name" = true) (k__law_is_name : PySem.W.keepIn K (.ref f__law_is_name) = true)
    {f__law_calls : Addr} {od__law_calls an__law_calls : Option Addr} {sl__law_calls : Array (Option Value)} {oc__law_calls kV__law_calls dc__law_calls pm__law_calls cd__law_calls ct__law_calls : Value}
    (a__law_calls : PySem.W.nsIn K mainGlobals "_law_calls" = some (some (.ref f__law_calls)))
    (l__law_calls : K.lookup f__law_calls = some ⟨oc__law_calls, od__law_calls, .func (PySem.W.fnOf "_law_calls" "_law_calls" (defArgs s__law_calls) (defBody s__law_calls) (defScope s__law_calls) .none kV__law_calls dc__law_calls pm__law_calls an__law_calls cd__law_calls ct__law_calls), sl__law_calls⟩)
    (c__law_calls : PySem.W.codeIn K cd__law_calls "_law_calls" = true) (k__law_calls : PySem.W.keepIn K (.ref f__law_calls) = true)
    {f__law_some_plain : Addr} {od__law_some_plain an__law_some_plain : Option Addr} {sl__law_some_plain : Array (Option Value)} {oc__law_some_plain kV__law_some_plain dc__law_some_plain pm__law_some_plain cd__law_some_plain ct__law_some_plain : Value}
    (a__law_some_plain : PySem.W.nsIn K mainGlobals "_law_some_plain" = some (some (.ref f__law_some_plain)))
    (l__law_some_plain : K.lookup f__law_some_plain = some ⟨oc__law_some_plain, od__law_some_plain, .func (PySem.W.fnOf "_law_some_plain" "_law_some_plain" (defArgs s__law_some_plain) (defBody s__law_some_plain) (defScope s__law_some_plain) .none kV__law_some_plain dc__law_some_plain pm__law_some_plain an__law_some_plain cd__law_some_plain ct__law_some_plain), sl__law_some_plain⟩)
    (c__law_some_plain : PySem.W.codeIn K cd__law_some_plain "_law_some_plain" = true) (k__law_some_plain : PySem.W.keepIn K (.ref f__law_some_plain) = true)
    {f__law_some_sentence : Addr} {od__law_some_sentence an__law_some_sentence : Option Addr} {sl__law_some_sentence : Array (Option Value)} {oc__law_some_sentence kV__law_some_sentence dc__law_some_sentence pm__law_some_sentence cd__law_some_sentence ct__law_some_sentence : Value}
    (a__law_some_sentence : PySem.W.nsIn K mainGlobals "_law_some_sentence" = some (some (.ref f__law_some_sentence)))
    (l__law_some_sentence : K.lookup f__law_some_sentence = some ⟨oc__law_some_sentence, od__law_some_sentence, .func (PySem.W.fnOf "_law_some_sentence" "_law_some_sentence" (defArgs s__law_some_sentence) (defBody s__law_some_sentence) (defScope s__law_some_sentence) .none kV__law_some_sentence dc__law_some_sentence pm__law_some_sentence an__law_some_sentence cd__law_some_sentence ct__law_some_sentence), sl__law_some_sentence⟩)
    (c__law_some_sentence : PySem.W.codeIn K cd__law_some_sentence "_law_some_sentence" = true) (k__law_some_sentence : PySem.W.keepIn K (.ref f__law_some_sentence) = true)
    {f__law_plain : Addr} {od__law_plain an__law_plain : Option Addr} {sl__law_plain : Array (Option Value)} {oc__law_plain kV__law_plain dc__law_plain pm__law_plain cd__law_plain ct__law_plain : Value}
    (a__law_plain : PySem.W.nsIn K mainGlobals "_law_plain" = some (some (.ref f__law_plain)))
    (l__law_plain : K.lookup f__law_plain = some ⟨oc__law_plain, od__law_plain, .func (PySem.W.fnOf "_law_plain" "_law_plain" (defArgs s__law_plain) (defBody s__law_plain) (defScope s__law_plain) .none kV__law_plain dc__law_plain pm__law_plain an__law_plain cd__law_plain ct__law_plain), sl__law_plain⟩)
    (c__law_plain : PySem.W.codeIn K cd__law_plain "_law_plain" = true) (k__law_plain : PySem.W.keepIn K (.ref f__law_plain) = true)
    {f__law_sentence_names : Addr} {od__law_sentence_names an__law_sentence_names : Option Addr} {sl__law_sentence_names : Array (Option Value)} {oc__law_sentence_names kV__law_sentence_names dc__law_sentence_names pm__law_sentence_names cd__law_sentence_names ct__law_sentence_names : Value}
    (a__law_sentence_names : PySem.W.nsIn K mainGlobals "_law_sentence_names" = some (some (.ref f__law_sentence_names)))
    (l__law_sentence_names : K.lookup f__law_sentence_names = some ⟨oc__law_sentence_names, od__law_sentence_names, .func (PySem.W.fnOf "_law_sentence_names" "_law_sentence_names" (defArgs s__law_sentence_names) (defBody s__law_sentence_names) (defScope s__law_sentence_names) .none kV__law_sentence_names dc__law_sentence_names pm__law_sentence_names an__law_sentence_names cd__law_sentence_names ct__law_sentence_names), sl__law_sentence_names⟩)
    (c__law_sentence_names : PySem.W.codeIn K cd__law_sentence_names "_law_sentence_names" = true) (k__law_sentence_names : PySem.W.keepIn K (.ref f__law_sentence_names) = true)
    {f__law_is_row : Addr} {od__law_is_row an__law_is_row : Option Addr} {sl__law_is_row : Array (Option Value)} {oc__law_is_row kV__law_is_row dc__law_is_row pm__law_is_row cd__law_is_row ct__law_is_row : Value}
    (a__law_is_row : PySem.W.nsIn K mainGlobals "_law_is_row" = some (some (.ref f__law_is_row)))
    (l__law_is_row : K.lookup f__law_is_row = some ⟨oc__law_is_row, od__law_is_row, .func (PySem.W.fnOf "_law_is_row" "_law_is_row" (defArgs s__law_is_row) (defBody s__law_is_row) (defScope s__law_is_row) .none kV__law_is_row dc__law_is_row pm__law_is_row an__law_is_row cd__law_is_row ct__law_is_row), sl__law_is_row⟩)
    (c__law_is_row : PySem.W.codeIn K cd__law_is_row "_law_is_row" = true) (k__law_is_row : PySem.W.keepIn K (.ref f__law_is_row) = true)
    {f__law_is_plain : Addr} {od__law_is_plain an__law_is_plain : Option Addr} {sl__law_is_plain : Array (Option Value)} {oc__law_is_plain kV__law_is_plain dc__law_is_plain pm__law_is_plain cd__law_is_plain ct__law_is_plain : Value}
    (a__law_is_plain : PySem.W.nsIn K mainGlobals "_law_is_plain" = some (some (.ref f__law_is_plain)))
    (l__law_is_plain : K.lookup f__law_is_plain = some ⟨oc__law_is_plain, od__law_is_plain, .func (PySem.W.fnOf "_law_is_plain" "_law_is_plain" (defArgs s__law_is_plain) (defBody s__law_is_plain) (defScope s__law_is_plain) .none kV__law_is_plain dc__law_is_plain pm__law_is_plain an__law_is_plain cd__law_is_plain ct__law_is_plain), sl__law_is_plain⟩)
    (c__law_is_plain : PySem.W.codeIn K cd__law_is_plain "_law_is_plain" = true) (k__law_is_plain : PySem.W.keepIn K (.ref f__law_is_plain) = true)
    {f__law_many : Addr} {od__law_many an__law_many : Option Addr} {sl__law_many : Array (Option Value)} {oc__law_many kV__law_many dc__law_many pm__law_many cd__law_many ct__law_many : Value}
    (a__law_many : PySem.W.nsIn K mainGlobals "_law_many" = some (some (.ref f__law_many)))
    (l__law_many : K.lookup f__law_many = some ⟨oc__law_many, od__law_many, .func (PySem.W.fnOf "_law_many" "_law_many" (defArgs s__law_many) (defBody s__law_many) (defScope s__law_many) .none kV__law_many dc__law_many pm__law_many an__law_many cd__law_many ct__law_many), sl__law_many⟩)
    (c__law_many : PySem.W.codeIn K cd__law_many "_law_many" = true) (k__law_many : PySem.W.keepIn K (.ref f__law_many) = true)
    {f__law_bent : Addr} {od__law_bent an__law_bent : Option Addr} {sl__law_bent : Array (Option Value)} {oc__law_bent kV__law_bent dc__law_bent pm__law_bent cd__law_bent ct__law_bent : Value}
    (a__law_bent : PySem.W.nsIn K mainGlobals "_law_bent" = some (some (.ref f__law_bent)))
    (l__law_bent : K.lookup f__law_bent = some ⟨oc__law_bent, od__law_bent, .func (PySem.W.fnOf "_law_bent" "_law_bent" (defArgs s__law_bent) (defBody s__law_bent) (defScope s__law_bent) .none kV__law_bent dc__law_bent pm__law_bent an__law_bent cd__law_bent ct__law_bent), sl__law_bent⟩)
    (c__law_bent : PySem.W.codeIn K cd__law_bent "_law_bent" = true) (k__law_bent : PySem.W.keepIn K (.ref f__law_bent) = true)
    {f__law_judged : Addr} {od__law_judged an__law_judged : Option Addr} {sl__law_judged : Array (Option Value)} {oc__law_judged kV__law_judged dc__law_judged pm__law_judged cd__law_judged ct__law_judged : Value}
    (a__law_judged : PySem.W.nsIn K mainGlobals "_law_judged" = some (some (.ref f__law_judged)))
    (l__law_judged : K.lookup f__law_judged = some ⟨oc__law_judged, od__law_judged, .func (PySem.W.fnOf "_law_judged" "_law_judged" (defArgs s__law_judged) (defBody s__law_judged) (defScope s__law_judged) .none kV__law_judged dc__law_judged pm__law_judged an__law_judged cd__law_judged ct__law_judged), sl__law_judged⟩)
    (c__law_judged : PySem.W.codeIn K cd__law_judged "_law_judged" = true) (k__law_judged : PySem.W.keepIn K (.ref f__law_judged) = true)
    {f_law : Addr} {od_law an_law : Option Addr} {sl_law : Array (Option Value)} {oc_law kV_law dc_law pm_law cd_law ct_law : Value}
    (a_law : PySem.W.nsIn K mainGlobals "law" = some (some (.ref f_law)))
    (l_law : K.lookup f_law = some ⟨oc_law, od_law, .func (PySem.W.fnOf "law" "law" (defArgs s_law) (defBody s_law) (defScope s_law) .none kV_law dc_law pm_law an_law cd_law ct_law), sl_law⟩)
    (c_law : PySem.W.codeIn K cd_law "law" = true) (k_law : PySem.W.keepIn K (.ref f_law) = true)
    (n_isinstance : PySem.W.nsIn K mainGlobals "isinstance" = some none)
    (n_int : PySem.W.nsIn K mainGlobals "int" = some none)
    (n_bool : PySem.W.nsIn K mainGlobals "bool" = some none)
    (n_sorted : PySem.W.nsIn K mainGlobals "sorted" = some none)
    (n_set : PySem.W.nsIn K mainGlobals "set" = some none)
    (n_tuple : PySem.W.nsIn K mainGlobals "tuple" = some none)
    (n_str : PySem.W.nsIn K mainGlobals "str" = some none)
    (n_len : PySem.W.nsIn K mainGlobals "len" = some none)
    (n_all : PySem.W.nsIn K mainGlobals "all" = some none)
    (n_zip : PySem.W.nsIn K mainGlobals "zip" = some none)
    (n_list : PySem.W.nsIn K mainGlobals "list" = some none)
    (n_range : PySem.W.nsIn K mainGlobals "range" = some none)
    (n_min : PySem.W.nsIn K mainGlobals "min" = some none)
    (n_sum : PySem.W.nsIn K mainGlobals "sum" = some none)
    (n_repr : PySem.W.nsIn K mainGlobals "repr" = some none)
    {t_MOST_CALLS : Tok} (q_MOST_CALLS : PySem.W.nsIn K mainGlobals "MOST_CALLS" = some (some (Value.int 5 t_MOST_CALLS)))
    {t_MOST_RESETS : Tok} (q_MOST_RESETS : PySem.W.nsIn K mainGlobals "MOST_RESETS" = some (some (Value.int 3 t_MOST_RESETS)))
    {t_MOST_MANY : Tok} (q_MOST_MANY : PySem.W.nsIn K mainGlobals "MOST_MANY" = some (some (Value.int 6 t_MOST_MANY)))
    {a_JOINTS : Addr} {dd_JOINTS : Option Addr} {n_JOINTS : Nat} {sl_JOINTS : Array (Option Value)} {t_JOINTS_0 t_JOINTS_1 : Tok} (q_JOINTS : PySem.W.nsIn K mainGlobals "JOINTS" = some (some (.ref a_JOINTS)))
    (w_JOINTS : K.lookup a_JOINTS = some ⟨.type "tuple", dd_JOINTS, .seq #[(Value.str "and" t_JOINTS_0), (Value.str "or" t_JOINTS_1)] n_JOINTS, sl_JOINTS⟩)
    {t_MOST_PARTS : Tok} (q_MOST_PARTS : PySem.W.nsIn K mainGlobals "MOST_PARTS" = some (some (Value.int 6 t_MOST_PARTS)))
    {t_MOST_PLAIN : Tok} (q_MOST_PLAIN : PySem.W.nsIn K mainGlobals "MOST_PLAIN" = some (some (Value.int 8 t_MOST_PLAIN)))
    {cls : Nat → Addr} : ∃ fd : FuncData, (∀ (s : Shared) (v : Value), BindsTo s fd ⟨[v], []⟩ [("script", v)]) ∧ ∀ base : Heap, K.In base → base.Ns mainGlobals mg → FnG ⟨l.prog, w, K, cls⟩ mg base 13 fa fd ["script"] (spD ⟨l.prog, w, K, cls⟩ 1 d_law) := by
  have e := hfa.symm.trans (PySem.W.mg_of X G a_law)
  cases e
  let Γ : Gb := ⟨l.prog, w, K, cls⟩
  have g_MOST_CALLS : GC Γ mg "MOST_CALLS" (toV c_MOST_CALLS) c_MOST_CALLS := gc_scal (PySem.W.mg_of X G q_MOST_CALLS) rfl (by exact ⟨_, rfl⟩)
  have g_MOST_RESETS : GC Γ mg "MOST_RESETS" (toV c_MOST_RESETS) c_MOST_RESETS := gc_scal (PySem.W.mg_of X G q_MOST_RESETS) rfl (by exact ⟨_, rfl⟩)
  have g_MOST_MANY : GC Γ mg "MOST_MANY" (toV c_MOST_MANY) c_MOST_MANY := gc_scal (PySem.W.mg_of X G q_MOST_MANY) rfl (by exact ⟨_, rfl⟩)
  have g_JOINTS : GC Γ mg "JOINTS" (.ref a_JOINTS) c_JOINTS := gc_tup (PySem.W.mg_of X G q_JOINTS) w_JOINTS rfl (by exact (.cons ⟨_, rfl⟩ (.cons ⟨_, rfl⟩ .nil))) (by rw [sizeLine_eq]; exact (by decide : 2 ≤ 16777216))
  have g_MOST_PARTS : GC Γ mg "MOST_PARTS" (toV c_MOST_PARTS) c_MOST_PARTS := gc_scal (PySem.W.mg_of X G q_MOST_PARTS) rfl (by exact ⟨_, rfl⟩)
  have g_MOST_PLAIN : GC Γ mg "MOST_PLAIN" (toV c_MOST_PLAIN) c_MOST_PLAIN := gc_scal (PySem.W.mg_of X G q_MOST_PLAIN) rfl (by exact ⟨_, rfl⟩)
  have z_isinstance : mg "isinstance" = none := PySem.W.mg_none_of X G n_isinstance
  have z_int : mg "int" = none := PySem.W.mg_none_of X G n_int
  have z_bool : mg "bool" = none := PySem.W.mg_none_of X G n_bool
  have z_sorted : mg "sorted" = none := PySem.W.mg_none_of X G n_sorted
  have z_set : mg "set" = none := PySem.W.mg_none_of X G n_set
  have z_tuple : mg "tuple" = none := PySem.W.mg_none_of X G n_tuple
  have z_str : mg "str" = none := PySem.W.mg_none_of X G n_str
  have z_len : mg "len" = none := PySem.W.mg_none_of X G n_len
  have z_all : mg "all" = none := PySem.W.mg_none_of X G n_all
  have z_zip : mg "zip" = none := PySem.W.mg_none_of X G n_zip
  have z_list : mg "list" = none := PySem.W.mg_none_of X G n_list
  have z_range : mg "range" = none := PySem.W.mg_none_of X G n_range
  have z_min : mg "min" = none := PySem.W.mg_none_of X G n_min
  have z_sum : mg "sum" = none := PySem.W.mg_none_of X G n_sum
  have z_repr : mg "repr" = none := PySem.W.mg_none_of X G n_repr
  have F_is_whole : FunD Γ.K "is_whole" "is_whole" (defArgs s_is_whole) (defBody s_is_whole) (defScope s_is_whole) [toV (.non)] [] _ _ := funD_mk (st := s_is_whole) (its := [Value.none]) l_is_whole u_is_whole (by simp) (by exact (.cons (rfl) .nil)) c_is_whole k_is_whole
  have B_is_whole_0 := F_is_whole.binds1 (ps := ["value", "least", "most"]) 3 1 (by simp) rfl fun _ _ _ _ _ _ _ us its hu hi => match us, its, hu, hi with | [_, _, _], [_], _, _ => ⟨_, rfl, rfl⟩
  have B_is_whole_1 := F_is_whole.binds1 (ps := ["value", "least", "most"]) 2 0 (by simp) rfl fun _ _ _ _ _ _ _ us its hu hi => match us, its, hu, hi with | [_, _], [_], _, _ => ⟨_, rfl, rfl⟩
  have F_ascending : Fun Γ.K "ascending" "ascending" s_ascending _ _ := fun_mk (st := s_ascending) l_ascending c_ascending k_ascending
  have B_ascending := F_ascending.binds (ps := ["names"]) fun _ _ _ _ _ _ us hl => match us, hl with | [_], _ => rfl
  have F_is_name : Fun Γ.K "is_name" "is_name" s_is_name _ _ := fun_mk (st := s_is_name) l_is_name c_is_name k_is_name
  have B_is_name := F_is_name.binds (ps := ["value"]) fun _ _ _ _ _ _ us hl => match us, hl with | [_], _ => rfl
  have F_is_word : Fun Γ.K "is_word" "is_word" s_is_word _ _ := fun_mk (st := s_is_word) l_is_word c_is_word k_is_word
  have B_is_word := F_is_word.binds (ps := ["value"]) fun _ _ _ _ _ _ us hl => match us, hl with | [_], _ => rfl
  have F_is_short : Fun Γ.K "is_short" "is_short" s_is_short _ _ := fun_mk (st := s_is_short) l_is_short c_is_short k_is_short
  have B_is_short := F_is_short.binds (ps := ["value"]) fun _ _ _ _ _ _ us hl => match us, hl with | [_], _ => rfl
  have F_are_resets : Fun Γ.K "are_resets" "are_resets" s_are_resets _ _ := fun_mk (st := s_are_resets) l_are_resets c_are_resets k_are_resets
  have B_are_resets := F_are_resets.binds (ps := ["value", "call"]) fun _ _ _ _ _ _ us hl => match us, hl with | [_, _], _ => rfl
  have F_are_two : Fun Γ.K "are_two" "are_two" s_are_two _ _ := fun_mk (st := s_are_two) l_are_two c_are_two k_are_two
  have B_are_two := F_are_two.binds (ps := ["value"]) fun _ _ _ _ _ _ us hl => match us, hl with | [_], _ => rfl
  have F_is_plain : Fun Γ.K "is_plain" "is_plain" s_is_plain _ _ := fun_mk (st := s_is_plain) l_is_plain c_is_plain k_is_plain
  have B_is_plain := F_is_plain.binds (ps := ["value"]) fun _ _ _ _ _ _ us hl => match us, hl with | [_], _ => rfl
  have F_plain_among : Fun Γ.K "plain_among" "plain_among" s_plain_among _ _ := fun_mk (st := s_plain_among) l_plain_among c_plain_among k_plain_among
  have B_plain_among := F_plain_among.binds (ps := ["parts"]) fun _ _ _ _ _ _ us hl => match us, hl with | [_], _ => rfl
  have F_is_sentence : Fun Γ.K "is_sentence" "is_sentence" s_is_sentence _ _ := fun_mk (st := s_is_sentence) l_is_sentence c_is_sentence k_is_sentence
  have B_is_sentence := F_is_sentence.binds (ps := ["value"]) fun _ _ _ _ _ _ us hl => match us, hl with | [_], _ => rfl
  have F_plain_of : Fun Γ.K "plain_of" "plain_of" s_plain_of _ _ := fun_mk (st := s_plain_of) l_plain_of c_plain_of k_plain_of
  have B_plain_of := F_plain_of.binds (ps := ["sentence"]) fun _ _ _ _ _ _ us hl => match us, hl with | [_], _ => rfl
  have F_names_in : Fun Γ.K "names_in" "names_in" s_names_in _ _ := fun_mk (st := s_names_in) l_names_in c_names_in k_names_in
  have B_names_in := F_names_in.binds (ps := ["plain"]) fun _ _ _ _ _ _ us hl => match us, hl with | [_], _ => rfl
  have F_names_of : Fun Γ.K "names_of" "names_of" s_names_of _ _ := fun_mk (st := s_names_of) l_names_of c_names_of k_names_of
  have B_names_of := F_names_of.binds (ps := ["sentence"]) fun _ _ _ _ _ _ us hl => match us, hl with | [_], _ => rfl
  have F__law_pen : Fun Γ.K "_law_pen" "_law_pen" s__law_pen _ _ := fun_mk (st := s__law_pen) l__law_pen c__law_pen k__law_pen
  have B__law_pen := F__law_pen.binds (ps := ["script"]) fun _ _ _ _ _ _ us hl => match us, hl with | [_], _ => rfl
  have F__law_draw : Fun Γ.K "_law_draw" "_law_draw" s__law_draw _ _ := fun_mk (st := s__law_draw) l__law_draw c__law_draw k__law_draw
  have B__law_draw := F__law_draw.binds (ps := ["pen", "many"]) fun _ _ _ _ _ _ us hl => match us, hl with | [_, _], _ => rfl
  have F__law_pick : Fun Γ.K "_law_pick" "_law_pick" s__law_pick _ _ := fun_mk (st := s__law_pick) l__law_pick c__law_pick k__law_pick
  have B__law_pick := F__law_pick.binds (ps := ["pen", "some"]) fun _ _ _ _ _ _ us hl => match us, hl with | [_, _], _ => rfl
  have F__law_shuffled : Fun Γ.K "_law_shuffled" "_law_shuffled" s__law_shuffled _ _ := fun_mk (st := s__law_shuffled) l__law_shuffled c__law_shuffled k__law_shuffled
  have B__law_shuffled := F__law_shuffled.binds (ps := ["pen", "some"]) fun _ _ _ _ _ _ us hl => match us, hl with | [_, _], _ => rfl
  have F__law_some : Fun Γ.K "_law_some" "_law_some" s__law_some _ _ := fun_mk (st := s__law_some) l__law_some c__law_some k__law_some
  have B__law_some := F__law_some.binds (ps := ["pen", "some", "most"]) fun _ _ _ _ _ _ us hl => match us, hl with | [_, _, _], _ => rfl
  have F__law_name : Fun Γ.K "_law_name" "_law_name" s__law_name _ _ := fun_mk (st := s__law_name) l__law_name c__law_name k__law_name
  have B__law_name := F__law_name.binds (ps := ["pen", "index"]) fun _ _ _ _ _ _ us hl => match us, hl with | [_, _], _ => rfl
  have F__law_names : Fun Γ.K "_law_names" "_law_names" s__law_names _ _ := fun_mk (st := s__law_names) l__law_names c__law_names k__law_names
  have B__law_names := F__law_names.binds (ps := ["pen", "many"]) fun _ _ _ _ _ _ us hl => match us, hl with | [_, _], _ => rfl
  have F__law_same : Fun Γ.K "_law_same" "_law_same" s__law_same _ _ := fun_mk (st := s__law_same) l__law_same c__law_same k__law_same
  have B__law_same := F__law_same.binds (ps := ["told", "due"]) fun _ _ _ _ _ _ us hl => match us, hl with | [_, _], _ => rfl
  have F__law_is_whole : Fun Γ.K "_law_is_whole" "_law_is_whole" s__law_is_whole _ _ := fun_mk (st := s__law_is_whole) l__law_is_whole c__law_is_whole k__law_is_whole
  have B__law_is_whole := F__law_is_whole.binds (ps := ["value", "least", "most"]) fun _ _ _ _ _ _ us hl => match us, hl with | [_, _, _], _ => rfl
  have F__law_is_name : Fun Γ.K "_law_is_name" "_law_is_name" s__law_is_name _ _ := fun_mk (st := s__law_is_name) l__law_is_name c__law_is_name k__law_is_name
  have B__law_is_name := F__law_is_name.binds (ps := ["value"]) fun _ _ _ _ _ _ us hl => match us, hl with | [_], _ => rfl
  have F__law_calls : Fun Γ.K "_law_calls" "_law_calls" s__law_calls _ _ := fun_mk (st := s__law_calls) l__law_calls c__law_calls k__law_calls
  have B__law_calls := F__law_calls.binds (ps := ["pen", "many"]) fun _ _ _ _ _ _ us hl => match us, hl with | [_, _], _ => rfl
  have F__law_some_plain : Fun Γ.K "_law_some_plain" "_law_some_plain" s__law_some_plain _ _ := fun_mk (st := s__law_some_plain) l__law_some_plain c__law_some_plain k__law_some_plain
  have B__law_some_plain := F__law_some_plain.binds (ps := ["pen", "calls"]) fun _ _ _ _ _ _ us hl => match us, hl with | [_, _], _ => rfl
  have F__law_some_sentence : Fun Γ.K "_law_some_sentence" "_law_some_sentence" s__law_some_sentence _ _ := fun_mk (st := s__law_some_sentence) l__law_some_sentence c__law_some_sentence k__law_some_sentence
  have B__law_some_sentence := F__law_some_sentence.binds (ps := ["pen", "calls", "many", "deep"]) fun _ _ _ _ _ _ us hl => match us, hl with | [_, _, _, _], _ => rfl
  have F__law_plain : Fun Γ.K "_law_plain" "_law_plain" s__law_plain _ _ := fun_mk (st := s__law_plain) l__law_plain c__law_plain k__law_plain
  have B__law_plain := F__law_plain.binds (ps := ["sentence"]) fun _ _ _ _ _ _ us hl => match us, hl with | [_], _ => rfl
  have F__law_sentence_names : Fun Γ.K "_law_sentence_names" "_law_sentence_names" s__law_sentence_names _ _ := fun_mk (st := s__law_sentence_names) l__law_sentence_names c__law_sentence_names k__law_sentence_names
  have B__law_sentence_names := F__law_sentence_names.binds (ps := ["sentence"]) fun _ _ _ _ _ _ us hl => match us, hl with | [_], _ => rfl
  have F__law_is_row : Fun Γ.K "_law_is_row" "_law_is_row" s__law_is_row _ _ := fun_mk (st := s__law_is_row) l__law_is_row c__law_is_row k__law_is_row
  have B__law_is_row := F__law_is_row.binds (ps := ["value"]) fun _ _ _ _ _ _ us hl => match us, hl with | [_], _ => rfl
  have F__law_is_plain : Fun Γ.K "_law_is_plain" "_law_is_plain" s__law_is_plain _ _ := fun_mk (st := s__law_is_plain) l__law_is_plain c__law_is_plain k__law_is_plain
  have B__law_is_plain := F__law_is_plain.binds (ps := ["value"]) fun _ _ _ _ _ _ us hl => match us, hl with | [_], _ => rfl
  have F__law_many : Fun Γ.K "_law_many" "_law_many" s__law_many _ _ := fun_mk (st := s__law_many) l__law_many c__law_many k__law_many
  have B__law_many := F__law_many.binds (ps := ["value"]) fun _ _ _ _ _ _ us hl => match us, hl with | [_], _ => rfl
  have F__law_bent : Fun Γ.K "_law_bent" "_law_bent" s__law_bent _ _ := fun_mk (st := s__law_bent) l__law_bent c__law_bent k__law_bent
  have B__law_bent := F__law_bent.binds (ps := ["pen", "sentence", "calls"]) fun _ _ _ _ _ _ us hl => match us, hl with | [_, _, _], _ => rfl
  have F__law_judged : Fun Γ.K "_law_judged" "_law_judged" s__law_judged _ _ := fun_mk (st := s__law_judged) l__law_judged c__law_judged k__law_judged
  have B__law_judged := F__law_judged.binds (ps := ["value"]) fun _ _ _ _ _ _ us hl => match us, hl with | [_], _ => rfl
  have F_law : Fun Γ.K "law" "law" s_law _ _ := fun_mk (st := s_law) l_law c_law k_law
  refine ⟨PySem.W.fnOf "law" "law" (defArgs s_law) (defBody s_law) (defScope s_law) .none kV_law dc_law pm_law an_law cd_law ct_law, fun s v => .of_eq rfl, fun base _ _ => ?_⟩
  have C_is_whole_0 : Cl Γ mg base 1 "is_whole" 3 [] (d_is_whole) := cl_mkD (dds := []) (ok_is_whole (Γ := Γ) (base := base) F_is_whole z_isinstance z_int z_bool) (PySem.W.mg_of X G a_is_whole) k_is_whole B_is_whole_0 rfl
  have C_is_whole_1 : Cl Γ mg base 1 "is_whole" 3 [.non] (d_is_whole) := cl_mkD (dds := [.non]) (ok_is_whole (Γ := Γ) (base := base) F_is_whole z_isinstance z_int z_bool) (PySem.W.mg_of X G a_is_whole) k_is_whole B_is_whole_1 rfl
  have C_ascending : Cl Γ mg base 1 "ascending" 1 [] (d_ascending) := cl_mk0 (ok_ascending (Γ := Γ) (base := base) F_ascending z_sorted z_set z_tuple) (PySem.W.mg_of X G a_ascending) k_ascending B_ascending
  have C_is_name : Cl Γ mg base 1 "is_name" 1 [] (d_is_name) := cl_mk0 (ok_is_name (Γ := Γ) (base := base) F_is_name z_isinstance z_str z_len) (PySem.W.mg_of X G a_is_name) k_is_name B_is_name
  have C_is_word : Cl Γ mg base 2 "is_word" 1 [] (d_is_word) := cl_mk0 (ok_is_word (Γ := Γ) (base := base) F_is_word C_is_name z_isinstance z_tuple z_all) (PySem.W.mg_of X G a_is_word) k_is_word B_is_word
  have C_is_short : Cl Γ mg base 3 "is_short" 1 [] (d_is_short) := cl_mk0 (ok_is_short (Γ := Γ) (base := base) F_is_short C_is_word z_len g_MOST_CALLS) (PySem.W.mg_of X G a_is_short) k_is_short B_is_short
  have C_are_resets : Cl Γ mg base 3 "are_resets" 2 [] (d_are_resets) := cl_mk0 (ok_are_resets (Γ := Γ) (base := base) F_are_resets C_is_word z_len z_zip z_all g_MOST_RESETS) (PySem.W.mg_of X G a_are_resets) k_are_resets B_are_resets
  have C_are_two : Cl Γ mg base 2 "are_two" 1 [] (d_are_two) := cl_mk0 (ok_are_two (Γ := Γ) (base := base) F_are_two C_is_name z_len) (PySem.W.mg_of X G a_are_two) k_are_two B_are_two
  have C_is_plain : Cl Γ mg base 4 "is_plain" 1 [] (d_is_plain) := cl_mk0 (ok_is_plain (Γ := Γ) (base := base) F_is_plain C_is_short C_is_name C_are_two C_is_whole_0 C_is_whole_1 C_are_resets z_len g_MOST_MANY) (PySem.W.mg_of X G a_is_plain) k_is_plain B_is_plain
  have C_plain_among : Cl Γ mg base 5 "plain_among" 1 [] (d_plain_among) := cl_mk0 (ok_plain_among (Γ := Γ) (base := base) F_plain_among C_is_plain z_list z_isinstance z_tuple z_len z_str g_JOINTS g_MOST_PARTS g_MOST_PLAIN) (PySem.W.mg_of X G a_plain_among) k_plain_among B_plain_among
  have C_is_sentence : Cl Γ mg base 6 "is_sentence" 1 [] (d_is_sentence) := cl_mk0 (ok_is_sentence (Γ := Γ) (base := base) F_is_sentence C_plain_among) (PySem.W.mg_of X G a_is_sentence) k_is_sentence B_is_sentence
  have C_plain_of : Cl Γ mg base 8 "plain_of" 1 [] (d_plain_of 8) := by
    have all : ∀ n, Cl Γ mg base (0 + n) "plain_of" 1 [] (d_plain_of n) := fun n => by
      induction n with
      | zero => exact cl_mk0 (ps := ["sentence"]) (fn_stuck rfl) (PySem.W.mg_of X G a_plain_of) k_plain_of B_plain_of
      | succ n ih => exact cl_mk0 (ok_plain_of (Γ := Γ) (base := base) F_plain_of ih g_JOINTS) (PySem.W.mg_of X G a_plain_of) k_plain_of B_plain_of
    exact all 8
  have C_names_in : Cl Γ mg base 1 "names_in" 1 [] (d_names_in) := cl_mk0 (ok_names_in (Γ := Γ) (base := base) F_names_in z_isinstance z_tuple z_list z_str) (PySem.W.mg_of X G a_names_in) k_names_in B_names_in
  have C_names_of : Cl Γ mg base 9 "names_of" 1 [] (d_names_of) := cl_mk0 (ok_names_of (Γ := Γ) (base := base) F_names_of C_ascending C_plain_of C_names_in) (PySem.W.mg_of X G a_names_of) k_names_of B_names_of
  have C__law_pen : Cl Γ mg base 1 "_law_pen" 1 [] (d__law_pen) := cl_mk0 (ok__law_pen (Γ := Γ) (base := base) F__law_pen z_int z_list) (PySem.W.mg_of X G a__law_pen) k__law_pen B__law_pen
  have C__law_draw : Cl Γ mg base 1 "_law_draw" 2 [] (d__law_draw) := cl_mk0 (ok__law_draw (Γ := Γ) (base := base) F__law_draw z_len z_int) (PySem.W.mg_of X G a__law_draw) k__law_draw B__law_draw
  have C__law_pick : Cl Γ mg base 2 "_law_pick" 2 [] (d__law_pick) := cl_mk0 (ok__law_pick (Γ := Γ) (base := base) F__law_pick C__law_draw z_len) (PySem.W.mg_of X G a__law_pick) k__law_pick B__law_pick
  have C__law_shuffled : Cl Γ mg base 2 "_law_shuffled" 2 [] (d__law_shuffled) := cl_mk0 (ok__law_shuffled (Γ := Γ) (base := base) F__law_shuffled C__law_draw z_list z_range z_len) (PySem.W.mg_of X G a__law_shuffled) k__law_shuffled B__law_shuffled
  have C__law_some : Cl Γ mg base 3 "_law_some" 3 [] (d__law_some) := cl_mk0 (ok__law_some (Γ := Γ) (base := base) F__law_some C__law_shuffled C__law_draw z_len z_min) (PySem.W.mg_of X G a__law_some) k__law_some B__law_some
  have C__law_name : Cl Γ mg base 2 "_law_name" 2 [] (d__law_name) := cl_mk0 (ok__law_name (Γ := Γ) (base := base) F__law_name C__law_draw z_range z_len z_str) (PySem.W.mg_of X G a__law_name) k__law_name B__law_name
  have C__law_names : Cl Γ mg base 3 "_law_names" 2 [] (d__law_names) := cl_mk0 (ok__law_names (Γ := Γ) (base := base) F__law_names C__law_shuffled C__law_name z_range) (PySem.W.mg_of X G a__law_names) k__law_names B__law_names
  have C__law_same : Cl Γ mg base 8 "_law_same" 2 [] (d__law_same 8) := by
    have all : ∀ n, Cl Γ mg base (0 + n) "_law_same" 2 [] (d__law_same n) := fun n => by
      induction n with
      | zero => exact cl_mk0 (ps := ["told", "due"]) (fn_stuck rfl) (PySem.W.mg_of X G a__law_same) k__law_same B__law_same
      | succ n ih => exact cl_mk0 (ok__law_same (Γ := Γ) (base := base) F__law_same ih z_isinstance z_tuple z_len z_zip z_all z_int z_bool z_str) (PySem.W.mg_of X G a__law_same) k__law_same B__law_same
    exact all 8
  have C__law_is_whole : Cl Γ mg base 1 "_law_is_whole" 3 [] (d__law_is_whole) := cl_mk0 (ok__law_is_whole (Γ := Γ) (base := base) F__law_is_whole z_isinstance z_int z_bool) (PySem.W.mg_of X G a__law_is_whole) k__law_is_whole B__law_is_whole
  have C__law_is_name : Cl Γ mg base 1 "_law_is_name" 1 [] (d__law_is_name) := cl_mk0 (ok__law_is_name (Γ := Γ) (base := base) F__law_is_name z_isinstance z_str z_len) (PySem.W.mg_of X G a__law_is_name) k__law_is_name B__law_is_name
  have C__law_calls : Cl Γ mg base 4 "_law_calls" 2 [] (d__law_calls) := cl_mk0 (ok__law_calls (Γ := Γ) (base := base) F__law_calls C__law_names z_sorted z_tuple) (PySem.W.mg_of X G a__law_calls) k__law_calls B__law_calls
  have C__law_some_plain : Cl Γ mg base 4 "_law_some_plain" 2 [] (d__law_some_plain) := cl_mk0 (ok__law_some_plain (Γ := Γ) (base := base) F__law_some_plain C__law_draw C__law_pick C__law_shuffled C__law_some z_len z_range z_tuple z_sorted) (PySem.W.mg_of X G a__law_some_plain) k__law_some_plain B__law_some_plain
  have C__law_some_sentence : Cl Γ mg base 12 "_law_some_sentence" 4 [] (d__law_some_sentence 8) := by
    have all : ∀ n, Cl Γ mg base (4 + n) "_law_some_sentence" 4 [] (d__law_some_sentence n) := fun n => by
      induction n with
      | zero => exact cl_mk0 (ps := ["pen", "calls", "many", "deep"]) (fn_stuck rfl) (PySem.W.mg_of X G a__law_some_sentence) k__law_some_sentence B__law_some_sentence
      | succ n ih => exact cl_mk0 (ok__law_some_sentence (Γ := Γ) (base := base) F__law_some_sentence C__law_some_plain C__law_pick C__law_draw ih z_range z_min z_len z_tuple) (PySem.W.mg_of X G a__law_some_sentence) k__law_some_sentence B__law_some_sentence
    exact all 8
  have C__law_plain : Cl Γ mg base 8 "_law_plain" 1 [] (d__law_plain 8) := by
    have all : ∀ n, Cl Γ mg base (0 + n) "_law_plain" 1 [] (d__law_plain n) := fun n => by
      induction n with
      | zero => exact cl_mk0 (ps := ["sentence"]) (fn_stuck rfl) (PySem.W.mg_of X G a__law_plain) k__law_plain B__law_plain
      | succ n ih => exact cl_mk0 (ok__law_plain (Γ := Γ) (base := base) F__law_plain ih) (PySem.W.mg_of X G a__law_plain) k__law_plain B__law_plain
    exact all 8
  have C__law_sentence_names : Cl Γ mg base 9 "_law_sentence_names" 1 [] (d__law_sentence_names) := cl_mk0 (ok__law_sentence_names (Γ := Γ) (base := base) F__law_sentence_names C__law_plain z_isinstance z_tuple z_list z_str z_sorted z_set) (PySem.W.mg_of X G a__law_sentence_names) k__law_sentence_names B__law_sentence_names
  have C__law_is_row : Cl Γ mg base 2 "_law_is_row" 1 [] (d__law_is_row) := cl_mk0 (ok__law_is_row (Γ := Γ) (base := base) F__law_is_row C__law_is_name z_isinstance z_tuple z_len) (PySem.W.mg_of X G a__law_is_row) k__law_is_row B__law_is_row
  have C__law_is_plain : Cl Γ mg base 3 "_law_is_plain" 1 [] (d__law_is_plain) := cl_mk0 (ok__law_is_plain (Γ := Γ) (base := base) F__law_is_plain C__law_is_row C__law_is_name C__law_is_whole z_len z_isinstance z_tuple z_range) (PySem.W.mg_of X G a__law_is_plain) k__law_is_plain B__law_is_plain
  have C__law_many : Cl Γ mg base 11 "_law_many" 1 [] (d__law_many 8) := by
    have all : ∀ n, Cl Γ mg base (3 + n) "_law_many" 1 [] (d__law_many n) := fun n => by
      induction n with
      | zero => exact cl_mk0 (ps := ["value"]) (fn_stuck rfl) (PySem.W.mg_of X G a__law_many) k__law_many B__law_many
      | succ n ih => exact cl_mk0 (ok__law_many (Γ := Γ) (base := base) F__law_many C__law_is_plain ih z_isinstance z_tuple z_str z_len z_sum) (PySem.W.mg_of X G a__law_many) k__law_many B__law_many
    exact all 8
  have C__law_bent : Cl Γ mg base 10 "_law_bent" 3 [] (d__law_bent 8) := by
    have all : ∀ n, Cl Γ mg base (2 + n) "_law_bent" 3 [] (d__law_bent n) := fun n => by
      induction n with
      | zero => exact cl_mk0 (ps := ["pen", "sentence", "calls"]) (fn_stuck rfl) (PySem.W.mg_of X G a__law_bent) k__law_bent B__law_bent
      | succ n ih => exact cl_mk0 (ok__law_bent (Γ := Γ) (base := base) F__law_bent C__law_draw ih C__law_pick z_len z_list z_sorted z_set z_tuple) (PySem.W.mg_of X G a__law_bent) k__law_bent B__law_bent
    exact all 8
  have C__law_judged : Cl Γ mg base 12 "_law_judged" 1 [] (d__law_judged) := cl_mk0 (ok__law_judged (Γ := Γ) (base := base) F__law_judged C__law_same C_is_sentence C__law_many) (PySem.W.mg_of X G a__law_judged) k__law_judged B__law_judged
  exact ok_law (Γ := Γ) (base := base) F_law C__law_pen C__law_calls C__law_draw C__law_some_sentence C__law_judged C__law_many C_names_of C__law_sentence_names C__law_bent C__law_pick C_is_sentence z_range z_repr z_tuple
end
end Lw
end
section
open PySem L2 Den
namespace Lw
/-- short names of plain signs -/
def nm1 (x : Str) : Prop := x.length ≤ 12 ∧ ∀ c ∈ x.cps.toList, c < 1000
abbrev okSs (xs : List Str) : Prop := ∀ x ∈ xs, nm1 x
inductive Pl where
  | never (r : List Str) | until (a : Str) (r : List Str) | after (a b : Str) | turns (a b : Str) | most (n : Nat) (a : Str) (cs : List Str) | within (n : Nat) (a b : Str)
def Pl.d : Pl → D
  | .never r => .tup [.str "never", tS r]
  | .until a r => .tup [.str "until", .str a, tS r]
  | .after a b => .tup [.str "after", .str a, .str b]
  | .turns a b => .tup [.str "turns", .str a, .str b]
  | .most n a cs => .tup [.str "most", .int n, .str a, tS cs]
  | .within n a b => .tup [.str "within", .int n, .str a, .str b]
def Pl.ok : Pl → Prop
  | .never r => okSs r ∧ r ≠ [] ∧ r.length ≤ 50
  | .until a r => okSs (a :: r) ∧ r ≠ [] ∧ r.length ≤ 50
  | .after a b => okSs [a, b] ∧ a ≠ b
  | .turns a b => okSs [a, b] ∧ a ≠ b
  | .most n a cs => okSs (a :: cs) ∧ a ∉ cs ∧ cs.length ≤ 50 ∧ 0 < n
  | .within n a b => okSs [a, b] ∧ a ≠ b ∧ 0 < n
theorem k_never_until : ¬ (("never" : Str) = "until") := by decide +kernel
theorem k_never_after : ¬ (("never" : Str) = "after") := by decide +kernel
theorem k_never_turns : ¬ (("never" : Str) = "turns") := by decide +kernel
theorem k_never_most : ¬ (("never" : Str) = "most") := by decide +kernel
theorem k_never_within : ¬ (("never" : Str) = "within") := by decide +kernel
theorem k_never_and : ¬ (("never" : Str) = "and") := by decide +kernel
theorem k_never_or : ¬ (("never" : Str) = "or") := by decide +kernel
theorem k_until_never : ¬ (("until" : Str) = "never") := by decide +kernel
theorem k_until_after : ¬ (("until" : Str) = "after") := by decide +kernel
theorem k_until_turns : ¬ (("until" : Str) = "turns") := by decide +kernel
theorem k_until_most : ¬ (("until" : Str) = "most") := by decide +kernel
theorem k_until_within : ¬ (("until" : Str) = "within") := by decide +kernel
theorem k_until_and : ¬ (("until" : Str) = "and") := by decide +kernel
theorem k_until_or : ¬ (("until" : Str) = "or") := by decide +kernel
theorem k_after_never : ¬ (("after" : Str) = "never") := by decide +kernel
theorem k_after_until : ¬ (("after" : Str) = "until") := by decide +kernel
theorem k_after_turns : ¬ (("after" : Str) = "turns") := by decide +kernel
theorem k_after_most : ¬ (("after" : Str) = "most") := by decide +kernel
theorem k_after_within : ¬ (("after" : Str) = "within") := by decide +kernel
theorem k_after_and : ¬ (("after" : Str) = "and") := by decide +kernel
theorem k_after_or : ¬ (("after" : Str) = "or") := by decide +kernel
theorem k_turns_never : ¬ (("turns" : Str) = "never") := by decide +kernel
theorem k_turns_until : ¬ (("turns" : Str) = "until") := by decide +kernel
theorem k_turns_after : ¬ (("turns" : Str) = "after") := by decide +kernel
theorem k_turns_most : ¬ (("turns" : Str) = "most") := by decide +kernel
theorem k_turns_within : ¬ (("turns" : Str) = "within") := by decide +kernel
theorem k_turns_and : ¬ (("turns" : Str) = "and") := by decide +kernel
theorem k_turns_or : ¬ (("turns" : Str) = "or") := by decide +kernel
theorem k_most_never : ¬ (("most" : Str) = "never") := by decide +kernel
theorem k_most_until : ¬ (("most" : Str) = "until") := by decide +kernel
theorem k_most_after : ¬ (("most" : Str) = "after") := by decide +kernel
theorem k_most_turns : ¬ (("most" : Str) = "turns") := by decide +kernel
theorem k_most_within : ¬ (("most" : Str) = "within") := by decide +kernel
theorem k_most_and : ¬ (("most" : Str) = "and") := by decide +kernel
theorem k_most_or : ¬ (("most" : Str) = "or") := by decide +kernel
theorem k_within_never : ¬ (("within" : Str) = "never") := by decide +kernel
theorem k_within_until : ¬ (("within" : Str) = "until") := by decide +kernel
theorem k_within_after : ¬ (("within" : Str) = "after") := by decide +kernel
theorem k_within_turns : ¬ (("within" : Str) = "turns") := by decide +kernel
theorem k_within_most : ¬ (("within" : Str) = "most") := by decide +kernel
theorem k_within_and : ¬ (("within" : Str) = "and") := by decide +kernel
theorem k_within_or : ¬ (("within" : Str) = "or") := by decide +kernel
theorem k_and_never : ¬ (("and" : Str) = "never") := by decide +kernel
theorem k_and_until : ¬ (("and" : Str) = "until") := by decide +kernel
theorem k_and_after : ¬ (("and" : Str) = "after") := by decide +kernel
theorem k_and_turns : ¬ (("and" : Str) = "turns") := by decide +kernel
theorem k_and_most : ¬ (("and" : Str) = "most") := by decide +kernel
theorem k_and_within : ¬ (("and" : Str) = "within") := by decide +kernel
theorem k_and_or : ¬ (("and" : Str) = "or") := by decide +kernel
theorem k_or_never : ¬ (("or" : Str) = "never") := by decide +kernel
theorem k_or_until : ¬ (("or" : Str) = "until") := by decide +kernel
theorem k_or_after : ¬ (("or" : Str) = "after") := by decide +kernel
theorem k_or_turns : ¬ (("or" : Str) = "turns") := by decide +kernel
theorem k_or_most : ¬ (("or" : Str) = "most") := by decide +kernel
theorem k_or_within : ¬ (("or" : Str) = "within") := by decide +kernel
theorem k_or_and : ¬ (("or" : Str) = "and") := by decide +kernel
/-! ### sentences -/
inductive Sen where
  | one (p : Pl) | join (k : Bool) (ss : List Sen)
def jn (k : Bool) : Str := if k then "and" else "or"
mutual
def Sen.d : Sen → D
  | .one p => p.d
  | .join k ss => .tup [.str (jn k), .tup (Sen.dL ss)]
def Sen.dL : List Sen → List D
  | [] => []
  | s :: ss => s.d :: Sen.dL ss
end
mutual
def Sen.plains : Sen → List Pl
  | .one p => [p]
  | .join _ ss => Sen.plainsL ss
def Sen.plainsL : List Sen → List Pl
  | [] => []
  | s :: ss => s.plains ++ Sen.plainsL ss
end
mutual
def Sen.ok : Sen → Prop
  | .one p => p.ok
  | .join _ ss => ss ≠ [] ∧ (ss.length ≤ 100 ∧ (Sen.plainsL ss).length ≤ 10000) ∧ Sen.okL ss
def Sen.okL : List Sen → Prop
  | [] => True
  | s :: ss => s.ok ∧ Sen.okL ss
end
mutual
def Sen.dep : Sen → Nat
  | .one _ => 0
  | .join _ ss => Sen.depL ss + 1
def Sen.depL : List Sen → Nat
  | [] => 0
  | s :: ss => max s.dep (Sen.depL ss)
end
theorem dL_map : ∀ ss : List Sen, Sen.dL ss = ss.map Sen.d
  | [] => rfl
  | s :: ss => by rw [Sen.dL, List.map_cons, dL_map ss]
theorem plainsL_map : ∀ ss : List Sen, Sen.plainsL ss = ss.flatMap Sen.plains
  | [] => rfl
  | s :: ss => by rw [Sen.plainsL, List.flatMap_cons, plainsL_map ss]
theorem okL_mem : ∀ {ss : List Sen}, Sen.okL ss → ∀ s ∈ ss, s.ok
  | [], _, s, m => by cases m
  | a :: ss, h, s, m => by
    rw [Sen.okL] at h
    rcases List.mem_cons.mp m with rfl | m
    · exact h.1
    · exact okL_mem h.2 s m
theorem dep_mem : ∀ {ss : List Sen} {s : Sen}, s ∈ ss → s.dep ≤ Sen.depL ss
  | a :: ss, s, m => by
    rw [Sen.depL]
    rcases List.mem_cons.mp m with rfl | m
    · exact Nat.le_max_left _ _
    · exact Nat.le_trans (dep_mem m) (Nat.le_max_right _ _)
theorem gLstS_two (a b : Str) : gLstS [.sh (.str a), .sh (.str b)] = some (oS [a, b]) := by simp [gLstS, shs, oS]
theorem seq_ret {p : aT} {g h : aS} {ρ ρ' ρ2 : Store} {o : O} (hp : p ρ = .ok true ρ') (hg : g ρ' = .ret o ρ2) : sSeq (sIf p g sNext) h ρ = .ret o ρ2 := by
  unfold sSeq sIf
  simp only [hp, Res.out, if_true, hg]
theorem seq_skip {p : aT} {g h : aS} {ρ ρ' : Store} (hp : p ρ = .ok false ρ') : sSeq (sIf p g sNext) h ρ = h ρ' := by
  unfold sSeq sIf sNext
  simp only [hp, Res.out, Bool.false_eq_true, if_false]
theorem seq_nx {g h : aS} {ρ ρ' : Store} (hg : g ρ = .nx ρ') : sSeq g h ρ = h ρ' := by
  unfold sSeq
  simp only [hg]
theorem def_ret {pb : List Bool} {m : Nat} {body : aS} {os os' : List O} {o : O} {ρ : Store} (hl : os.length = pb.length) (hb : body ((pre pb os).map some ++ List.replicate (m - pb.length) none) = .ret o ρ) (ho : outs pb os ρ = some os') : aDef pb m body os = .ret o os' := by
  unfold aDef
  rw [if_pos hl, hb]
  simp only [ho]
theorem call2_sh {F : aF} {a b : D} {o : O} {rest : Store} (h : F [.sh a, .sh b] = .ret o [.sh a, .sh b]) : aCall 2 [.pl 0, .pl 1] [] F (some (.sh a) :: some (.sh b) :: rest) = .ok o (some (.sh a) :: some (.sh b) :: rest) := by
  simp [aCall, evA, Res.bind, tak, giv, h]
theorem ret_ok {g : aE} {ρ ρ' : Store} {o : O} (h : g ρ = .ok o ρ') : sRet g ρ = .ret o ρ' := by
  unfold sRet
  rw [h]
  rfl
theorem set_ok {g : aE} {ρ ρ' : Store} {o : O} {i : Nat} (h : g ρ = .ok o ρ') (hi : i < ρ'.length) : sSet i g ρ = .nx (ρ'.set i (some o)) := by
  unfold sSet
  rw [h]
  simp only [Res.out]
  rw [if_pos hi]
theorem aOp_lit2 {g : List O → Option O} {a b : D} {w : O} (h : g [.sh a, .sh b] = some w) : aOp [.ex (aC a), .ex (aC b)] g = fun ρ => .ok w ρ := by
  funext ρ
  simp [aOp, evA, aC, Res.bind, rsv, h]
theorem gNotIn_oS (c : Str) (xs : List Str) : gNotIn (.sh (.str c)) (oS xs) = some (.sh (.bl (!decide (c ∈ xs)))) := by
  have e := inG_lS c xs
  have : inG (.sh (.str c)) (oS xs) = some (decide (c ∈ xs)) := by
    unfold inG
    simp only [dicD, seqD, fz_oS, lS, fz, Den.flat_strs, flatD, inF_strs, and_self, if_true]
    split
    · rename_i h; cases h
    · simp only [dicD, seqD, fz_oS, lS, fz, Den.flat_strs, flatD, inF_strs, and_self, if_true]
  simp [gNotIn, this]
theorem seq_ret0 {g h : aS} {ρ ρ' : Store} {o : O} (hg : g ρ = .ret o ρ') : sSeq g h ρ = .ret o ρ' := by
  unfold sSeq
  simp only [hg]
theorem call1_sh {F : aF} {a : D} {o : O} {rest : Store} (h : F [.sh a] = .ret o [.sh a]) : aCall 1 [.pl 0] [] F (some (.sh a) :: rest) = .ok o (some (.sh a) :: rest) := by
  simp [aCall, evA, Res.bind, tak, giv, h]
theorem callsh2 {F : aF} {i j : Nat} {a b : D} {o : O} {ρ : Store} (h1 : ρ[i]? = some (some (.sh a))) (h2 : ρ[j]? = some (some (.sh b))) (h : F [.sh a, .sh b] = .ret o [.sh a, .sh b]) : aCall 2 [.pl i, .pl j] [] F ρ = .ok o ρ := by
  simp [aCall, evA, h1, h2, Res.bind, tak, giv, h]
theorem callx {F : aF} {g : aE} {i : Nat} {a : D} {W W' o : O} {ρ : Store} (h1 : ρ[i]? = some (some (.sh a))) (h2 : g ρ = .ok W ρ) (h : F [.sh a, W] = .ret o [.sh a, W']) : aCall 2 [.pl i, .ex g] [] F ρ = .ok o ρ := by
  simp [aCall, evA, h1, h2, Res.bind, tak, giv, h]
theorem callxx {F : aF} {g g2 : aE} {V W V' W' o : O} {ρ : Store} (h1 : g ρ = .ok V ρ) (h2 : g2 ρ = .ok W ρ) (h : F [V, W] = .ret o [V', W']) : aCall 2 [.ex g, .ex g2] [] F ρ = .ok o ρ := by
  simp [aCall, evA, h1, h2, Res.bind, tak, giv, h]
theorem not_ok {p : aT} {ρ ρ' : Store} {b : Bool} (h : p ρ = .ok b ρ') : aNot p ρ = .ok (!b) ρ' := by simp [aNot, h, Res.bind]
theorem and_no {p q : aT} {ρ ρ' : Store} (h : p ρ = .ok false ρ') : aAnd p q ρ = .ok false ρ' := by simp [aAnd, h, Res.bind]
theorem and_on {p q : aT} {ρ ρ1 ρ2 : Store} {b : Bool} (h : p ρ = .ok true ρ1) (h2 : q ρ1 = .ok b ρ2) : aAnd p q ρ = .ok b ρ2 := by simp [aAnd, h, h2, Res.bind]
theorem op_ex_pl {f : O → O → Option O} {g : aE} {i : Nat} {ρ ρ' : Store} {S a w : O} (hg : g ρ = .ok a ρ') (h1 : ρ'[i]? = some (some S)) (hf : f a S = some w) : aOp [.ex g, .pl i] (l2 f) ρ = .ok w ρ' := by
  simp [aOp, evA, hg, Res.bind, rsv, h1, l2, hf]
end Lw
end
section
open PySem L2 Den
namespace Lw
/-! ### the pen -/
def penO (c : List Int) (at_ dig cnt fold : Int) : O := .dic [(.str "cells", .sh (lI c)), (.str "at", .sh (.int at_)), (.str "digits", .sh (.int dig)), (.str "count", .sh (.int cnt)), (.str "fold", .sh (.int fold))]
theorem q1 : ¬ (("cells" : Str) = "at") := by decide +kernel
theorem q2 : ¬ (("cells" : Str) = "digits") := by decide +kernel
theorem q3 : ¬ (("cells" : Str) = "count") := by decide +kernel
theorem q4 : ¬ (("cells" : Str) = "fold") := by decide +kernel
theorem q5 : ¬ (("at" : Str) = "digits") := by decide +kernel
theorem q6 : ¬ (("at" : Str) = "count") := by decide +kernel
theorem q7 : ¬ (("at" : Str) = "fold") := by decide +kernel
theorem q8 : ¬ (("digits" : Str) = "count") := by decide +kernel
theorem q9 : ¬ (("digits" : Str) = "fold") := by decide +kernel
theorem q10 : ¬ (("count" : Str) = "fold") := by decide +kernel
theorem q11 : ¬ (("at" : Str) = "cells") := by decide +kernel
theorem q12 : ¬ (("digits" : Str) = "cells") := by decide +kernel
theorem q13 : ¬ (("count" : Str) = "cells") := by decide +kernel
theorem q14 : ¬ (("fold" : Str) = "cells") := by decide +kernel
theorem q15 : ¬ (("digits" : Str) = "at") := by decide +kernel
theorem q16 : ¬ (("count" : Str) = "at") := by decide +kernel
theorem q17 : ¬ (("fold" : Str) = "at") := by decide +kernel
theorem q18 : ¬ (("count" : Str) = "digits") := by decide +kernel
theorem q19 : ¬ (("fold" : Str) = "digits") := by decide +kernel
theorem q20 : ¬ (("fold" : Str) = "count") := by decide +kernel
section
variable {c : List Int} {at_ dig cnt fold v : Int}
theorem ix_cells : gIx (penO c at_ dig cnt fold) (.sh (.str "cells")) = some (.sh (lI c)) := by simp [gIx, penO, keyD, valD, keyEq, q1, q2, q3, q4, q11, q12, q13, q14]
theorem ix_at : gIx (penO c at_ dig cnt fold) (.sh (.str "at")) = some (.sh (.int at_)) := by simp [gIx, penO, keyD, valD, keyEq, q1, q5, q6, q7, q15, q16, q17]
theorem ix_digits : gIx (penO c at_ dig cnt fold) (.sh (.str "digits")) = some (.sh (.int dig)) := by simp [gIx, penO, keyD, valD, keyEq, q2, q5, q8, q9, q18, q19]
theorem ix_count : gIx (penO c at_ dig cnt fold) (.sh (.str "count")) = some (.sh (.int cnt)) := by simp [gIx, penO, keyD, valD, keyEq, q3, q6, q8, q10, q20]
theorem ix_fold : gIx (penO c at_ dig cnt fold) (.sh (.str "fold")) = some (.sh (.int fold)) := by simp [gIx, penO, keyD, valD, keyEq, q4, q7, q9, q10]
theorem set_at : setO (penO c at_ dig cnt fold) (.sh (.str "at")) (.int v) = some (penO c v dig cnt fold) := by simp [setO, penO, keyD, putD, keyEq, kD, q1, q15, q16, q17]
theorem set_digits : setO (penO c at_ dig cnt fold) (.sh (.str "digits")) (.int v) = some (penO c at_ v cnt fold) := by simp [setO, penO, keyD, putD, keyEq, kD, q2, q5, q18, q19]
theorem set_count : setO (penO c at_ dig cnt fold) (.sh (.str "count")) (.int v) = some (penO c at_ dig v fold) := by simp [setO, penO, keyD, putD, keyEq, kD, q3, q6, q8, q20]
theorem set_fold : setO (penO c at_ dig cnt fold) (.sh (.str "fold")) (.int v) = some (penO c at_ dig cnt v) := by simp [setO, penO, keyD, putD, keyEq, kD, q4, q7, q9, q10]
end
/-- a pen that has drawn at most B times -/
def PenOk (B : Nat) (o : O) : Prop := ∃ c at_ dig cnt fold, o = penO c at_ dig cnt fold ∧ c.length ≤ 63 ∧ 0 ≤ at_ ∧ at_ ≤ c.length ∧ 0 ≤ dig ∧ 0 ≤ cnt ∧ cnt ≤ B ∧ 0 ≤ fold ∧ fold < 2147483648
theorem PenOk.mono {B C : Nat} {o : O} (h : PenOk B o) (k : B ≤ C) : PenOk C o := by
  obtain ⟨c, a, d, n, f, e, h1, h2, h3, h4, h5, h6, h7, h8⟩ := h
  exact ⟨c, a, d, n, f, e, h1, h2, h3, h4, h5, by omega, h7, h8⟩
theorem sub_ok {i : Nat} {g gi : aE} {ρ ρ1 ρ2 : Store} {o k x0 x x' : O} (h1 : g ρ = .ok o ρ1) (h2 : ρ1[i]? = some (some x0)) (h3 : gi ρ1 = .ok k ρ2) (h4 : ρ2[i]? = some (some x)) (h5 : setO x k (fz o) = some x') : sSub i g gi ρ = .nx (ρ2.set i (some x')) := by
  unfold sSub
  simp only [h1, Res.out, h2, h3, h4, h5]
theorem if_yes {p : aT} {g h : aS} {ρ ρ' : Store} (hp : p ρ = .ok true ρ') : sIf p g h ρ = g ρ' := by
  unfold sIf
  simp only [hp, Res.out, if_true]
theorem if_no {p : aT} {g h : aS} {ρ ρ' : Store} (hp : p ρ = .ok false ρ') : sIf p g h ρ = h ρ' := by
  unfold sIf
  simp only [hp, Res.out, Bool.false_eq_true, if_false]
theorem gLen_lI (xs : List Int) : gLen (.sh (lI xs)) = some (.sh (.int xs.length)) := by simp [gLen, lI]
theorem gIx_lI {xs : List Int} {k : Nat} {x : Int} (h : xs[k]? = some x) : gIx (.sh (lI xs)) (.sh (.int (k : Int))) = some (.sh (.int x)) := by simp [gIx, lI, Den.atI_nat, h]
section
variable {c : List Int} {at_ dig cnt fold many : Int} {M x y z : Option O}
theorem rd {key : Str} {v : O} (h : gIx (penO c at_ dig cnt fold) (.sh (.str key)) = some v) : aOp [.pl 0, .ex (aC (.str key))] (l2 gIx) [some (penO c at_ dig cnt fold), M, x, y, z] = .ok v [some (penO c at_ dig cnt fold), M, x, y, z] := by
  simp only [aDef, pre, outs, List.map_cons, List.map_nil, List.replicate, List.cons_append, List.nil_append, List.length_cons, List.length_nil, sSeq, sSet, sRet, sRetN, sIf, sDrop, sPar, sAsg, sNext, aB, aC, aVar, aMove, aFz, aTV, aNot, aAnd, aOr, aIfE, aAndV, aOrV, aOp, aSl, aP, evA, rsv, l1, l2, Res.bind, Res.out, List.getElem?_cons_zero, List.getElem?_cons_succ, List.set_cons_zero, List.set_cons_succ, Option.map_some, Option.map_none, fz, shs, if_true, if_false, ite_true, ite_false, Bool.false_eq_true, reduceIte, reduceCtorEq, Nat.reduceAdd, Nat.reduceSub, Nat.reduceLT, Nat.reduceLeDiff, Nat.reduceEqDiff, Bool.not_true, Bool.not_false, Nat.sub_self, Nat.zero_add, and_self, true_and, and_true, Nat.lt_add_one, decide_true, decide_false, decide_eq_true_eq , gSl_tS, gLen_tS, gLen_lS, gTup_str, gIn_tS, gNotIn_tS, gIn_lS, gNotIn_lS, gEq_int, gEq_str, gNe_int, gNe_str, cut_from, cut_to , gTup_str2, gIx_tup, atI_0, atI_1, atI_2, atI_3, gSl_tup, List.mem_cons, List.not_mem_nil, or_false, false_or, true_or, or_true, not_true_eq_false, not_false_eq_true , aCall, tak, giv, List.append_nil, aMeth, k_never_until, k_never_after, k_never_turns, k_never_most, k_never_within, k_never_and, k_never_or, k_until_never, k_until_after, k_until_turns, k_until_most, k_until_within, k_until_and, k_until_or, k_after_never, k_after_until, k_after_turns, k_after_most, k_after_within, k_after_and, k_after_or, k_turns_never, k_turns_until, k_turns_after, k_turns_most, k_turns_within, k_turns_and, k_turns_or, k_most_never, k_most_until, k_most_after, k_most_turns, k_most_within, k_most_and, k_most_or, k_within_never, k_within_until, k_within_after, k_within_turns, k_within_most, k_within_and, k_within_or, k_and_never, k_and_until, k_and_after, k_and_turns, k_and_most, k_and_within, k_and_or, k_or_never, k_or_until, k_or_after, k_or_turns, k_or_most, k_or_within, k_or_and, h]
theorem dr1 : sSub 0 (aOp [.ex (aOp [.pl 0, .ex (aC (.str "count"))] (l2 gIx)), .ex (aC (.int 1))] (l2 gAdd)) (aC (.str "count")) [some (penO c at_ dig cnt fold), M, x, y, z] = .nx [some (penO c at_ dig (cnt + 1) fold), M, x, y, z] := by
  refine sub_ok (o := .sh (.int (cnt + 1))) (k := .sh (.str "count")) (ρ1 := [some (penO c at_ dig cnt fold), M, x, y, z]) (ρ2 := [some (penO c at_ dig cnt fold), M, x, y, z]) ?_ rfl rfl rfl set_count
  simp only [aDef, pre, outs, List.map_cons, List.map_nil, List.replicate, List.cons_append, List.nil_append, List.length_cons, List.length_nil, sSeq, sSet, sRet, sRetN, sIf, sDrop, sPar, sAsg, sNext, aB, aC, aVar, aMove, aFz, aTV, aNot, aAnd, aOr, aIfE, aAndV, aOrV, aOp, aSl, aP, evA, rsv, l1, l2, Res.bind, Res.out, List.getElem?_cons_zero, List.getElem?_cons_succ, List.set_cons_zero, List.set_cons_succ, Option.map_some, Option.map_none, fz, shs, if_true, if_false, ite_true, ite_false, Bool.false_eq_true, reduceIte, reduceCtorEq, Nat.reduceAdd, Nat.reduceSub, Nat.reduceLT, Nat.reduceLeDiff, Nat.reduceEqDiff, Bool.not_true, Bool.not_false, Nat.sub_self, Nat.zero_add, and_self, true_and, and_true, Nat.lt_add_one, decide_true, decide_false, decide_eq_true_eq , gSl_tS, gLen_tS, gLen_lS, gTup_str, gIn_tS, gNotIn_tS, gIn_lS, gNotIn_lS, gEq_int, gEq_str, gNe_int, gNe_str, cut_from, cut_to , gTup_str2, gIx_tup, atI_0, atI_1, atI_2, atI_3, gSl_tup, List.mem_cons, List.not_mem_nil, or_false, false_or, true_or, or_true, not_true_eq_false, not_false_eq_true , aCall, tak, giv, List.append_nil, aMeth, k_never_until, k_never_after, k_never_turns, k_never_most, k_never_within, k_never_and, k_never_or, k_until_never, k_until_after, k_until_turns, k_until_most, k_until_within, k_until_and, k_until_or, k_after_never, k_after_until, k_after_turns, k_after_most, k_after_within, k_after_and, k_after_or, k_turns_never, k_turns_until, k_turns_after, k_turns_most, k_turns_within, k_turns_and, k_turns_or, k_most_never, k_most_until, k_most_after, k_most_turns, k_most_within, k_most_and, k_most_or, k_within_never, k_within_until, k_within_after, k_within_turns, k_within_most, k_within_and, k_within_or, k_and_never, k_and_until, k_and_after, k_and_turns, k_and_most, k_and_within, k_and_or, k_or_never, k_or_until, k_or_after, k_or_turns, k_or_most, k_or_within, k_or_and, ix_count, gAdd]
theorem cond1 : aAnd (aB (aOp [.ex (aOp [.pl 0, .ex (aC (.str "digits"))] (l2 gIx)), .ex (aC (.int 0))] (l2 gEq))) (aB (aOp [.ex (aOp [.pl 0, .ex (aC (.str "at"))] (l2 gIx)), .ex (aOp [.ex (aOp [.pl 0, .ex (aC (.str "cells"))] (l2 gIx))] (l1 gLen))] (l2 gLt))) [some (penO c at_ dig cnt fold), M, x, y, z] =
    .ok (decide (dig = 0) && decide (at_ < c.length)) [some (penO c at_ dig cnt fold), M, x, y, z] := by
  by_cases h : dig = 0
  · simp only [aDef, pre, outs, List.map_cons, List.map_nil, List.replicate, List.cons_append, List.nil_append, List.length_cons, List.length_nil, sSeq, sSet, sRet, sRetN, sIf, sDrop, sPar, sAsg, sNext, aB, aC, aVar, aMove, aFz, aTV, aNot, aAnd, aOr, aIfE, aAndV, aOrV, aOp, aSl, aP, evA, rsv, l1, l2, Res.bind, Res.out, List.getElem?_cons_zero, List.getElem?_cons_succ, List.set_cons_zero, List.set_cons_succ, Option.map_some, Option.map_none, fz, shs, if_true, if_false, ite_true, ite_false, Bool.false_eq_true, reduceIte, reduceCtorEq, Nat.reduceAdd, Nat.reduceSub, Nat.reduceLT, Nat.reduceLeDiff, Nat.reduceEqDiff, Bool.not_true, Bool.not_false, Nat.sub_self, Nat.zero_add, and_self, true_and, and_true, Nat.lt_add_one, decide_true, decide_false, decide_eq_true_eq , gSl_tS, gLen_tS, gLen_lS, gTup_str, gIn_tS, gNotIn_tS, gIn_lS, gNotIn_lS, gEq_int, gEq_str, gNe_int, gNe_str, cut_from, cut_to , gTup_str2, gIx_tup, atI_0, atI_1, atI_2, atI_3, gSl_tup, List.mem_cons, List.not_mem_nil, or_false, false_or, true_or, or_true, not_true_eq_false, not_false_eq_true , aCall, tak, giv, List.append_nil, aMeth, k_never_until, k_never_after, k_never_turns, k_never_most, k_never_within, k_never_and, k_never_or, k_until_never, k_until_after, k_until_turns, k_until_most, k_until_within, k_until_and, k_until_or, k_after_never, k_after_until, k_after_turns, k_after_most, k_after_within, k_after_and, k_after_or, k_turns_never, k_turns_until, k_turns_after, k_turns_most, k_turns_within, k_turns_and, k_turns_or, k_most_never, k_most_until, k_most_after, k_most_turns, k_most_within, k_most_and, k_most_or, k_within_never, k_within_until, k_within_after, k_within_turns, k_within_most, k_within_and, k_within_or, k_and_never, k_and_until, k_and_after, k_and_turns, k_and_most, k_and_within, k_and_or, k_or_never, k_or_until, k_or_after, k_or_turns, k_or_most, k_or_within, k_or_and, ix_digits, ix_at, ix_cells, gLen_lI, gLt, h, Bool.true_and]
  · simp only [aDef, pre, outs, List.map_cons, List.map_nil, List.replicate, List.cons_append, List.nil_append, List.length_cons, List.length_nil, sSeq, sSet, sRet, sRetN, sIf, sDrop, sPar, sAsg, sNext, aB, aC, aVar, aMove, aFz, aTV, aNot, aAnd, aOr, aIfE, aAndV, aOrV, aOp, aSl, aP, evA, rsv, l1, l2, Res.bind, Res.out, List.getElem?_cons_zero, List.getElem?_cons_succ, List.set_cons_zero, List.set_cons_succ, Option.map_some, Option.map_none, fz, shs, if_true, if_false, ite_true, ite_false, Bool.false_eq_true, reduceIte, reduceCtorEq, Nat.reduceAdd, Nat.reduceSub, Nat.reduceLT, Nat.reduceLeDiff, Nat.reduceEqDiff, Bool.not_true, Bool.not_false, Nat.sub_self, Nat.zero_add, and_self, true_and, and_true, Nat.lt_add_one, decide_true, decide_false, decide_eq_true_eq , gSl_tS, gLen_tS, gLen_lS, gTup_str, gIn_tS, gNotIn_tS, gIn_lS, gNotIn_lS, gEq_int, gEq_str, gNe_int, gNe_str, cut_from, cut_to , gTup_str2, gIx_tup, atI_0, atI_1, atI_2, atI_3, gSl_tup, List.mem_cons, List.not_mem_nil, or_false, false_or, true_or, or_true, not_true_eq_false, not_false_eq_true , aCall, tak, giv, List.append_nil, aMeth, k_never_until, k_never_after, k_never_turns, k_never_most, k_never_within, k_never_and, k_never_or, k_until_never, k_until_after, k_until_turns, k_until_most, k_until_within, k_until_and, k_until_or, k_after_never, k_after_until, k_after_turns, k_after_most, k_after_within, k_after_and, k_after_or, k_turns_never, k_turns_until, k_turns_after, k_turns_most, k_turns_within, k_turns_and, k_turns_or, k_most_never, k_most_until, k_most_after, k_most_turns, k_most_within, k_most_and, k_most_or, k_within_never, k_within_until, k_within_after, k_within_turns, k_within_most, k_within_and, k_within_or, k_and_never, k_and_until, k_and_after, k_and_turns, k_and_most, k_and_within, k_and_or, k_or_never, k_or_until, k_or_after, k_or_turns, k_or_most, k_or_within, k_or_and, ix_digits, ix_at, ix_cells, gLen_lI, gLt, h, Bool.false_and]
theorem dr2 {k : Nat} {cell : Int} (hk : c[k]? = some cell) : sSet 3 (aOp [.ex (aOp [.pl 0, .ex (aC (.str "cells"))] (l2 gIx)), .ex (aOp [.pl 0, .ex (aC (.str "at"))] (l2 gIx))] (l2 gIx)) [some (penO c k dig cnt fold), M, x, y, z] = .nx [some (penO c k dig cnt fold), M, x, some (.sh (.int cell)), z] := by
  refine set_ok (i := 3) (o := .sh (.int cell)) (ρ' := [some (penO c k dig cnt fold), M, x, y, z]) ?_ (by simp)
  simp only [aDef, pre, outs, List.map_cons, List.map_nil, List.replicate, List.cons_append, List.nil_append, List.length_cons, List.length_nil, sSeq, sSet, sRet, sRetN, sIf, sDrop, sPar, sAsg, sNext, aB, aC, aVar, aMove, aFz, aTV, aNot, aAnd, aOr, aIfE, aAndV, aOrV, aOp, aSl, aP, evA, rsv, l1, l2, Res.bind, Res.out, List.getElem?_cons_zero, List.getElem?_cons_succ, List.set_cons_zero, List.set_cons_succ, Option.map_some, Option.map_none, fz, shs, if_true, if_false, ite_true, ite_false, Bool.false_eq_true, reduceIte, reduceCtorEq, Nat.reduceAdd, Nat.reduceSub, Nat.reduceLT, Nat.reduceLeDiff, Nat.reduceEqDiff, Bool.not_true, Bool.not_false, Nat.sub_self, Nat.zero_add, and_self, true_and, and_true, Nat.lt_add_one, decide_true, decide_false, decide_eq_true_eq , gSl_tS, gLen_tS, gLen_lS, gTup_str, gIn_tS, gNotIn_tS, gIn_lS, gNotIn_lS, gEq_int, gEq_str, gNe_int, gNe_str, cut_from, cut_to , gTup_str2, gIx_tup, atI_0, atI_1, atI_2, atI_3, gSl_tup, List.mem_cons, List.not_mem_nil, or_false, false_or, true_or, or_true, not_true_eq_false, not_false_eq_true , aCall, tak, giv, List.append_nil, aMeth, k_never_until, k_never_after, k_never_turns, k_never_most, k_never_within, k_never_and, k_never_or, k_until_never, k_until_after, k_until_turns, k_until_most, k_until_within, k_until_and, k_until_or, k_after_never, k_after_until, k_after_turns, k_after_most, k_after_within, k_after_and, k_after_or, k_turns_never, k_turns_until, k_turns_after, k_turns_most, k_turns_within, k_turns_and, k_turns_or, k_most_never, k_most_until, k_most_after, k_most_turns, k_most_within, k_most_and, k_most_or, k_within_never, k_within_until, k_within_after, k_within_turns, k_within_most, k_within_and, k_within_or, k_and_never, k_and_until, k_and_after, k_and_turns, k_and_most, k_and_within, k_and_or, k_or_never, k_or_until, k_or_after, k_or_turns, k_or_most, k_or_within, k_or_and, ix_cells, ix_at, gIx_lI hk]
theorem dr3 : sSub 0 (aOp [.ex (aOp [.pl 0, .ex (aC (.str "at"))] (l2 gIx)), .ex (aC (.int 1))] (l2 gAdd)) (aC (.str "at")) [some (penO c at_ dig cnt fold), M, x, y, z] = .nx [some (penO c (at_ + 1) dig cnt fold), M, x, y, z] := by
  refine sub_ok (o := .sh (.int (at_ + 1))) (k := .sh (.str "at")) (ρ1 := [some (penO c at_ dig cnt fold), M, x, y, z]) (ρ2 := [some (penO c at_ dig cnt fold), M, x, y, z]) ?_ rfl rfl rfl set_at
  simp only [aDef, pre, outs, List.map_cons, List.map_nil, List.replicate, List.cons_append, List.nil_append, List.length_cons, List.length_nil, sSeq, sSet, sRet, sRetN, sIf, sDrop, sPar, sAsg, sNext, aB, aC, aVar, aMove, aFz, aTV, aNot, aAnd, aOr, aIfE, aAndV, aOrV, aOp, aSl, aP, evA, rsv, l1, l2, Res.bind, Res.out, List.getElem?_cons_zero, List.getElem?_cons_succ, List.set_cons_zero, List.set_cons_succ, Option.map_some, Option.map_none, fz, shs, if_true, if_false, ite_true, ite_false, Bool.false_eq_true, reduceIte, reduceCtorEq, Nat.reduceAdd, Nat.reduceSub, Nat.reduceLT, Nat.reduceLeDiff, Nat.reduceEqDiff, Bool.not_true, Bool.not_false, Nat.sub_self, Nat.zero_add, and_self, true_and, and_true, Nat.lt_add_one, decide_true, decide_false, decide_eq_true_eq , gSl_tS, gLen_tS, gLen_lS, gTup_str, gIn_tS, gNotIn_tS, gIn_lS, gNotIn_lS, gEq_int, gEq_str, gNe_int, gNe_str, cut_from, cut_to , gTup_str2, gIx_tup, atI_0, atI_1, atI_2, atI_3, gSl_tup, List.mem_cons, List.not_mem_nil, or_false, false_or, true_or, or_true, not_true_eq_false, not_false_eq_true , aCall, tak, giv, List.append_nil, aMeth, k_never_until, k_never_after, k_never_turns, k_never_most, k_never_within, k_never_and, k_never_or, k_until_never, k_until_after, k_until_turns, k_until_most, k_until_within, k_until_and, k_until_or, k_after_never, k_after_until, k_after_turns, k_after_most, k_after_within, k_after_and, k_after_or, k_turns_never, k_turns_until, k_turns_after, k_turns_most, k_turns_within, k_turns_and, k_turns_or, k_most_never, k_most_until, k_most_after, k_most_turns, k_most_within, k_most_and, k_most_or, k_within_never, k_within_until, k_within_after, k_within_turns, k_within_most, k_within_and, k_within_or, k_and_never, k_and_until, k_and_after, k_and_turns, k_and_most, k_and_within, k_and_or, k_or_never, k_or_until, k_or_after, k_or_turns, k_or_most, k_or_within, k_or_and, ix_at, gAdd]
theorem dr4 {big cell : Int} {g : aE} (hg : g = fun ρ => .ok (.sh (.int big)) ρ) : sSub 0 (aOp [.pl 3, .ex g] (l2 Den.gSub)) (aC (.str "digits")) [some (penO c at_ dig cnt fold), M, x, some (.sh (.int cell)), z] = .nx [some (penO c at_ (cell - big) cnt fold), M, x, some (.sh (.int cell)), z] := by
  refine sub_ok (o := .sh (.int (cell - big))) (k := .sh (.str "digits")) (ρ1 := [some (penO c at_ dig cnt fold), M, x, some (.sh (.int cell)), z]) (ρ2 := [some (penO c at_ dig cnt fold), M, x, some (.sh (.int cell)), z]) ?_ rfl rfl rfl set_digits
  simp only [aDef, pre, outs, List.map_cons, List.map_nil, List.replicate, List.cons_append, List.nil_append, List.length_cons, List.length_nil, sSeq, sSet, sRet, sRetN, sIf, sDrop, sPar, sAsg, sNext, aB, aC, aVar, aMove, aFz, aTV, aNot, aAnd, aOr, aIfE, aAndV, aOrV, aOp, aSl, aP, evA, rsv, l1, l2, Res.bind, Res.out, List.getElem?_cons_zero, List.getElem?_cons_succ, List.set_cons_zero, List.set_cons_succ, Option.map_some, Option.map_none, fz, shs, if_true, if_false, ite_true, ite_false, Bool.false_eq_true, reduceIte, reduceCtorEq, Nat.reduceAdd, Nat.reduceSub, Nat.reduceLT, Nat.reduceLeDiff, Nat.reduceEqDiff, Bool.not_true, Bool.not_false, Nat.sub_self, Nat.zero_add, and_self, true_and, and_true, Nat.lt_add_one, decide_true, decide_false, decide_eq_true_eq , gSl_tS, gLen_tS, gLen_lS, gTup_str, gIn_tS, gNotIn_tS, gIn_lS, gNotIn_lS, gEq_int, gEq_str, gNe_int, gNe_str, cut_from, cut_to , gTup_str2, gIx_tup, atI_0, atI_1, atI_2, atI_3, gSl_tup, List.mem_cons, List.not_mem_nil, or_false, false_or, true_or, or_true, not_true_eq_false, not_false_eq_true , aCall, tak, giv, List.append_nil, aMeth, k_never_until, k_never_after, k_never_turns, k_never_most, k_never_within, k_never_and, k_never_or, k_until_never, k_until_after, k_until_turns, k_until_most, k_until_within, k_until_and, k_until_or, k_after_never, k_after_until, k_after_turns, k_after_most, k_after_within, k_after_and, k_after_or, k_turns_never, k_turns_until, k_turns_after, k_turns_most, k_turns_within, k_turns_and, k_turns_or, k_most_never, k_most_until, k_most_after, k_most_turns, k_most_within, k_most_and, k_most_or, k_within_never, k_within_until, k_within_after, k_within_turns, k_within_most, k_within_and, k_within_or, k_and_never, k_and_until, k_and_after, k_and_turns, k_and_most, k_and_within, k_and_or, k_or_never, k_or_until, k_or_after, k_or_turns, k_or_most, k_or_within, k_or_and, hg, Den.gSub]
theorem cond2 {big cell : Int} {g : aE} (hg : g = fun ρ => .ok (.sh (.int big)) ρ) : aB (aOp [.pl 3, .ex g] (l2 gGe)) [some (penO c at_ dig cnt fold), M, x, some (.sh (.int cell)), z] = .ok (decide (big ≤ cell)) [some (penO c at_ dig cnt fold), M, x, some (.sh (.int cell)), z] := by
  simp only [aDef, pre, outs, List.map_cons, List.map_nil, List.replicate, List.cons_append, List.nil_append, List.length_cons, List.length_nil, sSeq, sSet, sRet, sRetN, sIf, sDrop, sPar, sAsg, sNext, aB, aC, aVar, aMove, aFz, aTV, aNot, aAnd, aOr, aIfE, aAndV, aOrV, aOp, aSl, aP, evA, rsv, l1, l2, Res.bind, Res.out, List.getElem?_cons_zero, List.getElem?_cons_succ, List.set_cons_zero, List.set_cons_succ, Option.map_some, Option.map_none, fz, shs, if_true, if_false, ite_true, ite_false, Bool.false_eq_true, reduceIte, reduceCtorEq, Nat.reduceAdd, Nat.reduceSub, Nat.reduceLT, Nat.reduceLeDiff, Nat.reduceEqDiff, Bool.not_true, Bool.not_false, Nat.sub_self, Nat.zero_add, and_self, true_and, and_true, Nat.lt_add_one, decide_true, decide_false, decide_eq_true_eq , gSl_tS, gLen_tS, gLen_lS, gTup_str, gIn_tS, gNotIn_tS, gIn_lS, gNotIn_lS, gEq_int, gEq_str, gNe_int, gNe_str, cut_from, cut_to , gTup_str2, gIx_tup, atI_0, atI_1, atI_2, atI_3, gSl_tup, List.mem_cons, List.not_mem_nil, or_false, false_or, true_or, or_true, not_true_eq_false, not_false_eq_true , aCall, tak, giv, List.append_nil, aMeth, k_never_until, k_never_after, k_never_turns, k_never_most, k_never_within, k_never_and, k_never_or, k_until_never, k_until_after, k_until_turns, k_until_most, k_until_within, k_until_and, k_until_or, k_after_never, k_after_until, k_after_turns, k_after_most, k_after_within, k_after_and, k_after_or, k_turns_never, k_turns_until, k_turns_after, k_turns_most, k_turns_within, k_turns_and, k_turns_or, k_most_never, k_most_until, k_most_after, k_most_turns, k_most_within, k_most_and, k_most_or, k_within_never, k_within_until, k_within_after, k_within_turns, k_within_most, k_within_and, k_within_or, k_and_never, k_and_until, k_and_after, k_and_turns, k_and_most, k_and_within, k_and_or, k_or_never, k_or_until, k_or_after, k_or_turns, k_or_most, k_or_within, k_or_and, hg, gGe]
theorem mul_small {i j : Int} (h : -18446744073709551616 < i ∧ i < 18446744073709551616) : gMul (.sh (.int i)) (.sh (.int j)) = some (.sh (.int (i * j))) := by
  show (if _ then _ else _) = _
  rw [if_pos (.inl h)]
theorem mod_pos {i j : Int} (h : 0 < j) : gMod (.sh (.int i)) (.sh (.int j)) = some (.sh (.int (i % j))) := by
  show (if _ then _ else _) = _
  rw [if_pos h]
theorem fdiv_pos {i j : Int} (h : 0 < j ∧ j < 1073741824) : gFdiv (.sh (.int i)) (.sh (.int j)) = some (.sh (.int (i / j))) := by
  show (if _ then _ else _) = _
  rw [if_pos h]
theorem dr5 {cell m1 m2 : Int} (h1 : 0 ≤ fold ∧ fold < 2147483648) (h2 : 0 < m2) : sSub 0 (aOp [.ex (aOp [.ex (aOp [.ex (aOp [.ex (aOp [.pl 0, .ex (aC (.str "fold"))] (l2 gIx)), .ex (aC (.int m1))] (l2 gMul)), .pl 3] (l2 gAdd))] (l1 gInt)), .ex (aC (.int m2))] (l2 gMod)) (aC (.str "fold")) [some (penO c at_ dig cnt fold), M, x, some (.sh (.int cell)), z] =
    .nx [some (penO c at_ dig cnt ((fold * m1 + cell) % m2)), M, x, some (.sh (.int cell)), z] := by
  have hm := mul_small (i := fold) (j := m1) (by omega)
  have hd := mod_pos (i := fold * m1 + cell) h2
  refine sub_ok (o := .sh (.int ((fold * m1 + cell) % m2))) (k := .sh (.str "fold")) (ρ1 := [some (penO c at_ dig cnt fold), M, x, some (.sh (.int cell)), z]) (ρ2 := [some (penO c at_ dig cnt fold), M, x, some (.sh (.int cell)), z]) ?_ rfl rfl rfl set_fold
  simp only [aDef, pre, outs, List.map_cons, List.map_nil, List.replicate, List.cons_append, List.nil_append, List.length_cons, List.length_nil, sSeq, sSet, sRet, sRetN, sIf, sDrop, sPar, sAsg, sNext, aB, aC, aVar, aMove, aFz, aTV, aNot, aAnd, aOr, aIfE, aAndV, aOrV, aOp, aSl, aP, evA, rsv, l1, l2, Res.bind, Res.out, List.getElem?_cons_zero, List.getElem?_cons_succ, List.set_cons_zero, List.set_cons_succ, Option.map_some, Option.map_none, fz, shs, if_true, if_false, ite_true, ite_false, Bool.false_eq_true, reduceIte, reduceCtorEq, Nat.reduceAdd, Nat.reduceSub, Nat.reduceLT, Nat.reduceLeDiff, Nat.reduceEqDiff, Bool.not_true, Bool.not_false, Nat.sub_self, Nat.zero_add, and_self, true_and, and_true, Nat.lt_add_one, decide_true, decide_false, decide_eq_true_eq , gSl_tS, gLen_tS, gLen_lS, gTup_str, gIn_tS, gNotIn_tS, gIn_lS, gNotIn_lS, gEq_int, gEq_str, gNe_int, gNe_str, cut_from, cut_to , gTup_str2, gIx_tup, atI_0, atI_1, atI_2, atI_3, gSl_tup, List.mem_cons, List.not_mem_nil, or_false, false_or, true_or, or_true, not_true_eq_false, not_false_eq_true , aCall, tak, giv, List.append_nil, aMeth, k_never_until, k_never_after, k_never_turns, k_never_most, k_never_within, k_never_and, k_never_or, k_until_never, k_until_after, k_until_turns, k_until_most, k_until_within, k_until_and, k_until_or, k_after_never, k_after_until, k_after_turns, k_after_most, k_after_within, k_after_and, k_after_or, k_turns_never, k_turns_until, k_turns_after, k_turns_most, k_turns_within, k_turns_and, k_turns_or, k_most_never, k_most_until, k_most_after, k_most_turns, k_most_within, k_most_and, k_most_or, k_within_never, k_within_until, k_within_after, k_within_turns, k_within_most, k_within_and, k_within_or, k_and_never, k_and_until, k_and_after, k_and_turns, k_and_most, k_and_within, k_and_or, k_or_never, k_or_until, k_or_after, k_or_turns, k_or_most, k_or_within, k_or_and, ix_fold, hm, gAdd, gInt, hd]
theorem cond3 : aB (aOp [.ex (aOp [.pl 0, .ex (aC (.str "digits"))] (l2 gIx)), .ex (aC (.int 0))] (l2 gGt)) [some (penO c at_ dig cnt fold), M, x, y, z] = .ok (decide (0 < dig)) [some (penO c at_ dig cnt fold), M, x, y, z] := by
  simp only [aDef, pre, outs, List.map_cons, List.map_nil, List.replicate, List.cons_append, List.nil_append, List.length_cons, List.length_nil, sSeq, sSet, sRet, sRetN, sIf, sDrop, sPar, sAsg, sNext, aB, aC, aVar, aMove, aFz, aTV, aNot, aAnd, aOr, aIfE, aAndV, aOrV, aOp, aSl, aP, evA, rsv, l1, l2, Res.bind, Res.out, List.getElem?_cons_zero, List.getElem?_cons_succ, List.set_cons_zero, List.set_cons_succ, Option.map_some, Option.map_none, fz, shs, if_true, if_false, ite_true, ite_false, Bool.false_eq_true, reduceIte, reduceCtorEq, Nat.reduceAdd, Nat.reduceSub, Nat.reduceLT, Nat.reduceLeDiff, Nat.reduceEqDiff, Bool.not_true, Bool.not_false, Nat.sub_self, Nat.zero_add, and_self, true_and, and_true, Nat.lt_add_one, decide_true, decide_false, decide_eq_true_eq , gSl_tS, gLen_tS, gLen_lS, gTup_str, gIn_tS, gNotIn_tS, gIn_lS, gNotIn_lS, gEq_int, gEq_str, gNe_int, gNe_str, cut_from, cut_to , gTup_str2, gIx_tup, atI_0, atI_1, atI_2, atI_3, gSl_tup, List.mem_cons, List.not_mem_nil, or_false, false_or, true_or, or_true, not_true_eq_false, not_false_eq_true , aCall, tak, giv, List.append_nil, aMeth, k_never_until, k_never_after, k_never_turns, k_never_most, k_never_within, k_never_and, k_never_or, k_until_never, k_until_after, k_until_turns, k_until_most, k_until_within, k_until_and, k_until_or, k_after_never, k_after_until, k_after_turns, k_after_most, k_after_within, k_after_and, k_after_or, k_turns_never, k_turns_until, k_turns_after, k_turns_most, k_turns_within, k_turns_and, k_turns_or, k_most_never, k_most_until, k_most_after, k_most_turns, k_most_within, k_most_and, k_most_or, k_within_never, k_within_until, k_within_after, k_within_turns, k_within_most, k_within_and, k_within_or, k_and_never, k_and_until, k_and_after, k_and_turns, k_and_most, k_and_within, k_and_or, k_or_never, k_or_until, k_or_after, k_or_turns, k_or_most, k_or_within, k_or_and, ix_digits, gGt]
theorem dr6 (h : 0 < many) : sSet 4 (aOp [.ex (aOp [.ex (aOp [.pl 0, .ex (aC (.str "digits"))] (l2 gIx))] (l1 gInt)), .pl 1] (l2 gMod)) [some (penO c at_ dig cnt fold), some (.sh (.int many)), x, y, z] = .nx [some (penO c at_ dig cnt fold), some (.sh (.int many)), x, y, some (.sh (.int (dig % many)))] := by
  refine set_ok (i := 4) (o := .sh (.int (dig % many))) (ρ' := [some (penO c at_ dig cnt fold), some (.sh (.int many)), x, y, z]) ?_ (by simp)
  have hd := mod_pos (i := dig) h
  simp only [aDef, pre, outs, List.map_cons, List.map_nil, List.replicate, List.cons_append, List.nil_append, List.length_cons, List.length_nil, sSeq, sSet, sRet, sRetN, sIf, sDrop, sPar, sAsg, sNext, aB, aC, aVar, aMove, aFz, aTV, aNot, aAnd, aOr, aIfE, aAndV, aOrV, aOp, aSl, aP, evA, rsv, l1, l2, Res.bind, Res.out, List.getElem?_cons_zero, List.getElem?_cons_succ, List.set_cons_zero, List.set_cons_succ, Option.map_some, Option.map_none, fz, shs, if_true, if_false, ite_true, ite_false, Bool.false_eq_true, reduceIte, reduceCtorEq, Nat.reduceAdd, Nat.reduceSub, Nat.reduceLT, Nat.reduceLeDiff, Nat.reduceEqDiff, Bool.not_true, Bool.not_false, Nat.sub_self, Nat.zero_add, and_self, true_and, and_true, Nat.lt_add_one, decide_true, decide_false, decide_eq_true_eq , gSl_tS, gLen_tS, gLen_lS, gTup_str, gIn_tS, gNotIn_tS, gIn_lS, gNotIn_lS, gEq_int, gEq_str, gNe_int, gNe_str, cut_from, cut_to , gTup_str2, gIx_tup, atI_0, atI_1, atI_2, atI_3, gSl_tup, List.mem_cons, List.not_mem_nil, or_false, false_or, true_or, or_true, not_true_eq_false, not_false_eq_true , aCall, tak, giv, List.append_nil, aMeth, k_never_until, k_never_after, k_never_turns, k_never_most, k_never_within, k_never_and, k_never_or, k_until_never, k_until_after, k_until_turns, k_until_most, k_until_within, k_until_and, k_until_or, k_after_never, k_after_until, k_after_turns, k_after_most, k_after_within, k_after_and, k_after_or, k_turns_never, k_turns_until, k_turns_after, k_turns_most, k_turns_within, k_turns_and, k_turns_or, k_most_never, k_most_until, k_most_after, k_most_turns, k_most_within, k_most_and, k_most_or, k_within_never, k_within_until, k_within_after, k_within_turns, k_within_most, k_within_and, k_within_or, k_and_never, k_and_until, k_and_after, k_and_turns, k_and_most, k_and_within, k_and_or, k_or_never, k_or_until, k_or_after, k_or_turns, k_or_most, k_or_within, k_or_and, ix_digits, gInt, hd]
theorem dr7 (h : 0 < many ∧ many < 1073741824) : sSub 0 (aOp [.ex (aOp [.pl 0, .ex (aC (.str "digits"))] (l2 gIx)), .pl 1] (l2 gFdiv)) (aC (.str "digits")) [some (penO c at_ dig cnt fold), some (.sh (.int many)), x, y, z] = .nx [some (penO c at_ (dig / many) cnt fold), some (.sh (.int many)), x, y, z] := by
  refine sub_ok (o := .sh (.int (dig / many))) (k := .sh (.str "digits")) (ρ1 := [some (penO c at_ dig cnt fold), some (.sh (.int many)), x, y, z]) (ρ2 := [some (penO c at_ dig cnt fold), some (.sh (.int many)), x, y, z]) ?_ rfl rfl rfl set_digits
  have hd := fdiv_pos (i := dig) h
  simp only [aDef, pre, outs, List.map_cons, List.map_nil, List.replicate, List.cons_append, List.nil_append, List.length_cons, List.length_nil, sSeq, sSet, sRet, sRetN, sIf, sDrop, sPar, sAsg, sNext, aB, aC, aVar, aMove, aFz, aTV, aNot, aAnd, aOr, aIfE, aAndV, aOrV, aOp, aSl, aP, evA, rsv, l1, l2, Res.bind, Res.out, List.getElem?_cons_zero, List.getElem?_cons_succ, List.set_cons_zero, List.set_cons_succ, Option.map_some, Option.map_none, fz, shs, if_true, if_false, ite_true, ite_false, Bool.false_eq_true, reduceIte, reduceCtorEq, Nat.reduceAdd, Nat.reduceSub, Nat.reduceLT, Nat.reduceLeDiff, Nat.reduceEqDiff, Bool.not_true, Bool.not_false, Nat.sub_self, Nat.zero_add, and_self, true_and, and_true, Nat.lt_add_one, decide_true, decide_false, decide_eq_true_eq , gSl_tS, gLen_tS, gLen_lS, gTup_str, gIn_tS, gNotIn_tS, gIn_lS, gNotIn_lS, gEq_int, gEq_str, gNe_int, gNe_str, cut_from, cut_to , gTup_str2, gIx_tup, atI_0, atI_1, atI_2, atI_3, gSl_tup, List.mem_cons, List.not_mem_nil, or_false, false_or, true_or, or_true, not_true_eq_false, not_false_eq_true , aCall, tak, giv, List.append_nil, aMeth, k_never_until, k_never_after, k_never_turns, k_never_most, k_never_within, k_never_and, k_never_or, k_until_never, k_until_after, k_until_turns, k_until_most, k_until_within, k_until_and, k_until_or, k_after_never, k_after_until, k_after_turns, k_after_most, k_after_within, k_after_and, k_after_or, k_turns_never, k_turns_until, k_turns_after, k_turns_most, k_turns_within, k_turns_and, k_turns_or, k_most_never, k_most_until, k_most_after, k_most_turns, k_most_within, k_most_and, k_most_or, k_within_never, k_within_until, k_within_after, k_within_turns, k_within_most, k_within_and, k_within_or, k_and_never, k_and_until, k_and_after, k_and_turns, k_and_most, k_and_within, k_and_or, k_or_never, k_or_until, k_or_after, k_or_turns, k_or_most, k_or_within, k_or_and, ix_digits, hd]
theorem dr8 {m1 m2 : Int} (h : 0 ≤ cnt ∧ cnt < 1099511627776) : sSet 2 (aOp [.ex (aOp [.ex (aOp [.pl 0, .ex (aC (.str "fold"))] (l2 gIx)), .ex (aOp [.ex (aOp [.pl 0, .ex (aC (.str "count"))] (l2 gIx)), .ex (aC (.int m1))] (l2 gMul))] (l2 gAdd)), .ex (aC (.int m2))] (l2 gAdd)) [some (penO c at_ dig cnt fold), M, x, y, z] =
    .nx [some (penO c at_ dig cnt fold), M, some (.sh (.int (fold + cnt * m1 + m2))), y, z] := by
  have hm := mul_small (i := cnt) (j := m1) (by omega)
  refine set_ok (i := 2) (o := .sh (.int (fold + cnt * m1 + m2))) (ρ' := [some (penO c at_ dig cnt fold), M, x, y, z]) ?_ (by simp)
  simp only [aDef, pre, outs, List.map_cons, List.map_nil, List.replicate, List.cons_append, List.nil_append, List.length_cons, List.length_nil, sSeq, sSet, sRet, sRetN, sIf, sDrop, sPar, sAsg, sNext, aB, aC, aVar, aMove, aFz, aTV, aNot, aAnd, aOr, aIfE, aAndV, aOrV, aOp, aSl, aP, evA, rsv, l1, l2, Res.bind, Res.out, List.getElem?_cons_zero, List.getElem?_cons_succ, List.set_cons_zero, List.set_cons_succ, Option.map_some, Option.map_none, fz, shs, if_true, if_false, ite_true, ite_false, Bool.false_eq_true, reduceIte, reduceCtorEq, Nat.reduceAdd, Nat.reduceSub, Nat.reduceLT, Nat.reduceLeDiff, Nat.reduceEqDiff, Bool.not_true, Bool.not_false, Nat.sub_self, Nat.zero_add, and_self, true_and, and_true, Nat.lt_add_one, decide_true, decide_false, decide_eq_true_eq , gSl_tS, gLen_tS, gLen_lS, gTup_str, gIn_tS, gNotIn_tS, gIn_lS, gNotIn_lS, gEq_int, gEq_str, gNe_int, gNe_str, cut_from, cut_to , gTup_str2, gIx_tup, atI_0, atI_1, atI_2, atI_3, gSl_tup, List.mem_cons, List.not_mem_nil, or_false, false_or, true_or, or_true, not_true_eq_false, not_false_eq_true , aCall, tak, giv, List.append_nil, aMeth, k_never_until, k_never_after, k_never_turns, k_never_most, k_never_within, k_never_and, k_never_or, k_until_never, k_until_after, k_until_turns, k_until_most, k_until_within, k_until_and, k_until_or, k_after_never, k_after_until, k_after_turns, k_after_most, k_after_within, k_after_and, k_after_or, k_turns_never, k_turns_until, k_turns_after, k_turns_most, k_turns_within, k_turns_and, k_turns_or, k_most_never, k_most_until, k_most_after, k_most_turns, k_most_within, k_most_and, k_most_or, k_within_never, k_within_until, k_within_after, k_within_turns, k_within_most, k_within_and, k_within_or, k_and_never, k_and_until, k_and_after, k_and_turns, k_and_most, k_and_within, k_and_or, k_or_never, k_or_until, k_or_after, k_or_turns, k_or_most, k_or_within, k_or_and, ix_fold, ix_count, hm, gAdd]
theorem pow_small {i j : Int} (h : 0 ≤ j ∧ j ≤ 1000000 ∧ i.natAbs < 18446744073709551616) : gPow (.sh (.int i)) (.sh (.int j)) = some (.sh (.int (i ^ j.toNat))) := by
  show (if _ then _ else _) = _
  rw [if_pos h]
theorem dr9 {A : O} {b p m k : Int} (hb : 0 ≤ p ∧ p ≤ 1000000 ∧ b.natAbs < 18446744073709551616) (hm : 0 < m) (hk : 0 < k ∧ k < 1073741824) (h : 0 < many) :
    sRet (aOp [.ex (aOp [.ex (aOp [.ex (aOp [.ex (aOp [.pl 2, .ex (aC (.int p))] (l2 gPow)), .ex (aC (.int m))] (l2 gMod))] (l1 gInt)), .ex (aC (.int k))] (l2 gFdiv)), .pl 1] (l2 gMod)) [some A, some (.sh (.int many)), some (.sh (.int b)), y, z] =
      .ret (.sh (.int (b ^ p.toNat % m / k % many))) [some A, some (.sh (.int many)), some (.sh (.int b)), y, z] := by
  have h1 := pow_small hb
  have h2 := mod_pos (i := b ^ p.toNat) hm
  have h3 := fdiv_pos (i := b ^ p.toNat % m) hk
  have h4 := mod_pos (i := b ^ p.toNat % m / k) h
  simp only [aDef, pre, outs, List.map_cons, List.map_nil, List.replicate, List.cons_append, List.nil_append, List.length_cons, List.length_nil, sSeq, sSet, sRet, sRetN, sIf, sDrop, sPar, sAsg, sNext, aB, aC, aVar, aMove, aFz, aTV, aNot, aAnd, aOr, aIfE, aAndV, aOrV, aOp, aSl, aP, evA, rsv, l1, l2, Res.bind, Res.out, List.getElem?_cons_zero, List.getElem?_cons_succ, List.set_cons_zero, List.set_cons_succ, Option.map_some, Option.map_none, fz, shs, if_true, if_false, ite_true, ite_false, Bool.false_eq_true, reduceIte, reduceCtorEq, Nat.reduceAdd, Nat.reduceSub, Nat.reduceLT, Nat.reduceLeDiff, Nat.reduceEqDiff, Bool.not_true, Bool.not_false, Nat.sub_self, Nat.zero_add, and_self, true_and, and_true, Nat.lt_add_one, decide_true, decide_false, decide_eq_true_eq , gSl_tS, gLen_tS, gLen_lS, gTup_str, gIn_tS, gNotIn_tS, gIn_lS, gNotIn_lS, gEq_int, gEq_str, gNe_int, gNe_str, cut_from, cut_to , gTup_str2, gIx_tup, atI_0, atI_1, atI_2, atI_3, gSl_tup, List.mem_cons, List.not_mem_nil, or_false, false_or, true_or, or_true, not_true_eq_false, not_false_eq_true , aCall, tak, giv, List.append_nil, aMeth, k_never_until, k_never_after, k_never_turns, k_never_most, k_never_within, k_never_and, k_never_or, k_until_never, k_until_after, k_until_turns, k_until_most, k_until_within, k_until_and, k_until_or, k_after_never, k_after_until, k_after_turns, k_after_most, k_after_within, k_after_and, k_after_or, k_turns_never, k_turns_until, k_turns_after, k_turns_most, k_turns_within, k_turns_and, k_turns_or, k_most_never, k_most_until, k_most_after, k_most_turns, k_most_within, k_most_and, k_most_or, k_within_never, k_within_until, k_within_after, k_within_turns, k_within_most, k_within_and, k_within_or, k_and_never, k_and_until, k_and_after, k_and_turns, k_and_most, k_and_within, k_and_or, k_or_never, k_or_until, k_or_after, k_or_turns, k_or_most, k_or_within, k_or_and, h1, h2, gInt, h3, h4]
end
theorem t_draw {B : Nat} {pen : O} {many : Int} (hp : PenOk B pen) (hB : B < 1099511627775) (hm : 0 < many ∧ many < 1073741824) :
    ∃ (r : Int) (pen' : O), d__law_draw [pen, .sh (.int many)] = .ret (.sh (.int r)) [pen', .sh (.int many)] ∧ 0 ≤ r ∧ r < many ∧ PenOk (B + 1) pen' := by
  obtain ⟨c, at_, dig, cnt, fold, rfl, hc, a0, a1, d0, n0, n1, f0, f1⟩ := hp
  obtain ⟨big, hb⟩ : ∃ b : Int, b = 1000000000000000000 := ⟨_, rfl⟩
  have gb := g1018
  rw [← hb] at gb
  have hg := aOp_cc gb
  unfold d__law_draw
  rw [hg]
  generalize hgg : (fun ρ => Res.ok (O.sh (D.int big)) ρ : aE) = g
  have hg' : g = fun ρ => Res.ok (O.sh (D.int big)) ρ := hgg.symm
  -- behind the if that reads a cell
  have s2 : ∃ (a' d' f' : Int) (y : Option O), sIf (aAnd (aB (aOp [.ex (aOp [.pl 0, .ex (aC (.str "digits"))] (l2 gIx)), .ex (aC (.int 0))] (l2 gEq))) (aB (aOp [.ex (aOp [.pl 0, .ex (aC (.str "at"))] (l2 gIx)), .ex (aOp [.ex (aOp [.pl 0, .ex (aC (.str "cells"))] (l2 gIx))] (l1 gLen))] (l2 gLt)))) (sSeq (sSet 3 (aOp [.ex (aOp [.pl 0, .ex (aC (.str "cells"))] (l2 gIx)), .ex (aOp [.pl 0, .ex (aC (.str "at"))] (l2 gIx))] (l2 gIx)))
      (sSeq (sSub 0 (aOp [.ex (aOp [.pl 0, .ex (aC (.str "at"))] (l2 gIx)), .ex (aC (.int 1))] (l2 gAdd)) (aC (.str "at")))
      (sIf (aB (aOp [.pl 3, .ex g] (l2 gGe))) (sSub 0 (aOp [.pl 3, .ex g] (l2 Den.gSub)) (aC (.str "digits"))) (sSub 0 (aOp [.ex (aOp [.ex (aOp [.ex (aOp [.ex (aOp [.pl 0, .ex (aC (.str "fold"))] (l2 gIx)), .ex (aC (.int 70009))] (l2 gMul)), .pl 3] (l2 gAdd))] (l1 gInt)), .ex (aC (.int 2147483477))] (l2 gMod)) (aC (.str "fold")))))) sNext
      [some (penO c at_ dig (cnt + 1) fold), some (.sh (.int many)), none, none, none] = .nx [some (penO c a' d' (cnt + 1) f'), some (.sh (.int many)), none, y, none] ∧ 0 ≤ a' ∧ a' ≤ c.length ∧ 0 ≤ d' ∧ 0 ≤ f' ∧ f' < 2147483648 := by
    by_cases h : dig = 0 ∧ at_ < c.length
    · obtain ⟨k, rfl⟩ := Int.eq_ofNat_of_zero_le a0
      have hk : k < c.length := by omega
      have hx := List.getElem?_eq_getElem hk
      have ht : (decide (dig = 0) && decide ((k : Int) < c.length)) = true := by simp [h.1]; omega
      by_cases hge : big ≤ c[k]
      · refine ⟨k + 1, c[k] - big, fold, some (.sh (.int c[k])), ?_, by omega, by omega, by omega, f0, f1⟩
        exact (if_yes (cond1.trans (by rw [ht]))).trans ((seq_nx (dr2 hx)).trans ((seq_nx dr3).trans ((if_yes ((cond2 hg').trans (by rw [decide_eq_true hge]))).trans (dr4 hg'))))
      · have hpos : (0 : Int) < 2147483477 := by omega
        refine ⟨k + 1, dig, (fold * 70009 + c[k]) % 2147483477, some (.sh (.int c[k])), ?_, by omega, by omega, d0, Int.emod_nonneg _ (by omega), by have := Int.emod_lt_of_pos (fold * 70009 + c[k]) hpos; omega⟩
        exact (if_yes (cond1.trans (by rw [ht]))).trans ((seq_nx (dr2 hx)).trans ((seq_nx dr3).trans ((if_no ((cond2 hg').trans (by rw [decide_eq_false hge]))).trans (dr5 ⟨f0, f1⟩ hpos))))
    · have ht : (decide (dig = 0) && decide (at_ < c.length)) = false := by
        rw [Bool.and_eq_false_iff, decide_eq_false_iff_not, decide_eq_false_iff_not]
        by_cases h1 : dig = 0
        · exact .inr fun h2 => h ⟨h1, h2⟩
        · exact .inl h1
      exact ⟨at_, dig, fold, none, (if_no (cond1.trans (by rw [ht]))).trans rfl, a0, a1, d0, f0, f1⟩
  obtain ⟨a', d', f', y, e2, a2, a3, d2, f2, f3⟩ := s2
  by_cases h : 0 < d'
  · have hr0 : 0 ≤ d' % many := Int.emod_nonneg _ (by omega)
    have hr1 := Int.emod_lt_of_pos d' hm.1
    refine ⟨d' % many, penO c a' (d' / many) (cnt + 1) f', ?_, hr0, hr1, c, a', d' / many, cnt + 1, f', rfl, hc, a2, a3, Int.ediv_nonneg d2 (by omega), by omega, by omega, f2, f3⟩
    exact def_ret rfl ((seq_nx dr1).trans ((seq_nx e2).trans (seq_ret (cond3.trans (by rw [decide_eq_true h])) ((seq_nx (dr6 hm.1)).trans ((seq_nx (dr7 hm)).trans (ret_ok rfl)))))) rfl
  · have hn : 0 ≤ cnt + 1 ∧ cnt + 1 < 1099511627776 := by omega
    have hpw : (0 : Int) ≤ 17 ∧ (17 : Int) ≤ 1000000 ∧ (f' + (cnt + 1) * 8069 + 41).natAbs < 18446744073709551616 := ⟨by omega, by omega, by omega⟩
    have hm1 : (0 : Int) < 2305843009213693951 := by omega
    have hk1 : (0 : Int) < 128 ∧ (128 : Int) < 1073741824 := ⟨by omega, by omega⟩
    refine ⟨_, penO c a' d' (cnt + 1) f', def_ret rfl ((seq_nx dr1).trans ((seq_nx e2).trans ((seq_skip (cond3.trans (by rw [decide_eq_false h]))).trans ((seq_nx (dr8 hn)).trans (dr9 hpw hm1 hk1 hm.1))))) rfl, Int.emod_nonneg _ (by omega), Int.emod_lt_of_pos _ hm.1, c, a', d', cnt + 1, f', rfl, hc, a2, a3, d2, by omega, by omega, f2, f3⟩
theorem PenOk.dic {B : Nat} {o : O} (h : PenOk B o) : ∃ kvs, o = .dic kvs := by
  obtain ⟨c, a, d, n, f, rfl, _⟩ := h
  exact ⟨_, rfl⟩
/-- f(pen, e) -/
theorem callp {F : aF} {g : aE} {pen pen' a a' o : O} {rest : Store} (hd : ∃ kvs, pen = .dic kvs) (hg : g (some pen :: rest) = .ok a (some pen :: rest)) (hF : F [pen, a] = .ret o [pen', a']) :
    aCall 2 [.pl 0, .ex g] [] F (some pen :: rest) = .ok o (some pen' :: rest) := by
  obtain ⟨kvs, rfl⟩ := hd
  simp [aCall, evA, Res.bind, tak, giv, hg, hF]
theorem op_pl_ex {f : O → O → Option O} {g : aE} {i : Nat} {ρ ρ' : Store} {S0 S a w : O} (h0 : ρ[i]? = some (some S0)) (hg : g ρ = .ok a ρ') (h1 : ρ'[i]? = some (some S)) (hf : f S a = some w) : aOp [.pl i, .ex g] (l2 f) ρ = .ok w ρ' := by
  simp [aOp, evA, h0, hg, Res.bind, rsv, h1, l2, hf]
theorem t_pick {B : Nat} {pen S : O} {n : Nat} {Pd : D → Prop} (hp : PenOk B pen) (hB : B < 1099511627775) (hl : gLen S = some (.sh (.int n))) (hn : 0 < n ∧ n < 1073741824) (hx : ∀ k : Nat, k < n → ∃ d, gIx S (.sh (.int (k : Int))) = some (.sh d) ∧ Pd d) :
    ∃ (d : D) (pen' : O), d__law_pick [pen, S] = .ret (.sh d) [pen', S] ∧ Pd d ∧ PenOk (B + 1) pen' := by
  obtain ⟨r, pen', e, r0, r1, hp'⟩ := t_draw (many := (n : Int)) hp hB (by omega)
  obtain ⟨k, rfl⟩ := Int.eq_ofNat_of_zero_le r0
  obtain ⟨d, hd, pd⟩ := hx k (by omega)
  refine ⟨d, pen', ?_, pd, hp'⟩
  unfold d__law_pick
  revert e
  generalize d__law_draw = F
  intro e
  have hc := callp (F := F) (g := aOp [.pl 1] (l1 gLen)) (pen := pen) (a := .sh (.int n)) (rest := [some S]) hp.dic (by simp only [aDef, pre, outs, List.map_cons, List.map_nil, List.replicate, List.cons_append, List.nil_append, List.length_cons, List.length_nil, sSeq, sSet, sRet, sRetN, sIf, sDrop, sPar, sAsg, sNext, aB, aC, aVar, aMove, aFz, aTV, aNot, aAnd, aOr, aIfE, aAndV, aOrV, aOp, aSl, aP, evA, rsv, l1, l2, Res.bind, Res.out, List.getElem?_cons_zero, List.getElem?_cons_succ, List.set_cons_zero, List.set_cons_succ, Option.map_some, Option.map_none, fz, shs, if_true, if_false, ite_true, ite_false, Bool.false_eq_true, reduceIte, reduceCtorEq, Nat.reduceAdd, Nat.reduceSub, Nat.reduceLT, Nat.reduceLeDiff, Nat.reduceEqDiff, Bool.not_true, Bool.not_false, Nat.sub_self, Nat.zero_add, and_self, true_and, and_true, Nat.lt_add_one, decide_true, decide_false, decide_eq_true_eq , gSl_tS, gLen_tS, gLen_lS, gTup_str, gIn_tS, gNotIn_tS, gIn_lS, gNotIn_lS, gEq_int, gEq_str, gNe_int, gNe_str, cut_from, cut_to , gTup_str2, gIx_tup, atI_0, atI_1, atI_2, atI_3, gSl_tup, List.mem_cons, List.not_mem_nil, or_false, false_or, true_or, or_true, not_true_eq_false, not_false_eq_true , aCall, tak, giv, List.append_nil, aMeth, k_never_until, k_never_after, k_never_turns, k_never_most, k_never_within, k_never_and, k_never_or, k_until_never, k_until_after, k_until_turns, k_until_most, k_until_within, k_until_and, k_until_or, k_after_never, k_after_until, k_after_turns, k_after_most, k_after_within, k_after_and, k_after_or, k_turns_never, k_turns_until, k_turns_after, k_turns_most, k_turns_within, k_turns_and, k_turns_or, k_most_never, k_most_until, k_most_after, k_most_turns, k_most_within, k_most_and, k_most_or, k_within_never, k_within_until, k_within_after, k_within_turns, k_within_most, k_within_and, k_within_or, k_and_never, k_and_until, k_and_after, k_and_turns, k_and_most, k_and_within, k_and_or, k_or_never, k_or_until, k_or_after, k_or_turns, k_or_most, k_or_within, k_or_and, hl]) e
  refine def_ret (ρ := [some pen', some S]) rfl (ret_ok ?_) rfl
  exact op_pl_ex rfl hc rfl hd
theorem key_nd : (([.inr "cells", .inr "at", .inr "digits", .inr "count", .inr "fold"] : List Key)).Nodup := by
  have e : ∀ {a b : Str}, ¬ a = b → ¬ ((Sum.inr a : Key) = .inr b) := fun h z => h (Sum.inr.inj z)
  simp only [List.nodup_cons, List.mem_cons, List.not_mem_nil, or_false, not_or, not_false_eq_true, List.nodup_nil, and_true]
  exact ⟨⟨e q1, e q2, e q3, e q4⟩, ⟨e q5, e q6, e q7⟩, ⟨e q8, e q9⟩, e q10⟩
theorem disp_pen {ns : List Int} {f : Int} {x : Option O} : aDisp [.ex (aFz (aC (.str "cells"))), .ex (aFz (aOp [.pl 0] (l1 gList))), .ex (aFz (aC (.str "at"))), .ex (aFz (aC (.int 0))), .ex (aFz (aC (.str "digits"))), .ex (aFz (aC (.int 0))), .ex (aFz (aC (.str "count"))), .ex (aFz (aC (.int 0))), .ex (aFz (aC (.str "fold"))), .ex (aFz (aVar 1))]
    [some (.sh (.wls (ns.map D.int))), some (.sh (.int f)), x] = .ok (penO ns 0 0 0 f) [some (.sh (.wls (ns.map D.int))), some (.sh (.int f)), x] := by
  have hgl : gList (.sh (.wls (ns.map D.int))) = some (oI ns) := rfl
  have e : fz (oI ns) = lI ns := fz_oI ns
  have ev : evA [.ex (aFz (aC (.str "cells"))), .ex (aFz (aOp [.pl 0] (l1 gList))), .ex (aFz (aC (.str "at"))), .ex (aFz (aC (.int 0))), .ex (aFz (aC (.str "digits"))), .ex (aFz (aC (.int 0))), .ex (aFz (aC (.str "count"))), .ex (aFz (aC (.int 0))), .ex (aFz (aC (.str "fold"))), .ex (aFz (aVar 1))]
      [some (.sh (.wls (ns.map D.int))), some (.sh (.int f)), x] = .ok [.o (.sh (.str "cells")), .o (.sh (lI ns)), .o (.sh (.str "at")), .o (.sh (.int 0)), .o (.sh (.str "digits")), .o (.sh (.int 0)), .o (.sh (.str "count")), .o (.sh (.int 0)), .o (.sh (.str "fold")), .o (.sh (.int f))] [some (.sh (.wls (ns.map D.int))), some (.sh (.int f)), x] := by
    simp only [aDef, pre, outs, List.map_cons, List.map_nil, List.replicate, List.cons_append, List.nil_append, List.length_cons, List.length_nil, sSeq, sSet, sRet, sRetN, sIf, sDrop, sPar, sAsg, sNext, aB, aC, aVar, aMove, aFz, aTV, aNot, aAnd, aOr, aIfE, aAndV, aOrV, aOp, aSl, aP, evA, rsv, l1, l2, Res.bind, Res.out, List.getElem?_cons_zero, List.getElem?_cons_succ, List.set_cons_zero, List.set_cons_succ, Option.map_some, Option.map_none, fz, shs, if_true, if_false, ite_true, ite_false, Bool.false_eq_true, reduceIte, reduceCtorEq, Nat.reduceAdd, Nat.reduceSub, Nat.reduceLT, Nat.reduceLeDiff, Nat.reduceEqDiff, Bool.not_true, Bool.not_false, Nat.sub_self, Nat.zero_add, and_self, true_and, and_true, Nat.lt_add_one, decide_true, decide_false, decide_eq_true_eq , gSl_tS, gLen_tS, gLen_lS, gTup_str, gIn_tS, gNotIn_tS, gIn_lS, gNotIn_lS, gEq_int, gEq_str, gNe_int, gNe_str, cut_from, cut_to , gTup_str2, gIx_tup, atI_0, atI_1, atI_2, atI_3, gSl_tup, List.mem_cons, List.not_mem_nil, or_false, false_or, true_or, or_true, not_true_eq_false, not_false_eq_true , aCall, tak, giv, List.append_nil, aMeth, k_never_until, k_never_after, k_never_turns, k_never_most, k_never_within, k_never_and, k_never_or, k_until_never, k_until_after, k_until_turns, k_until_most, k_until_within, k_until_and, k_until_or, k_after_never, k_after_until, k_after_turns, k_after_most, k_after_within, k_after_and, k_after_or, k_turns_never, k_turns_until, k_turns_after, k_turns_most, k_turns_within, k_turns_and, k_turns_or, k_most_never, k_most_until, k_most_after, k_most_turns, k_most_within, k_most_and, k_most_or, k_within_never, k_within_until, k_within_after, k_within_turns, k_within_most, k_within_and, k_within_or, k_and_never, k_and_until, k_and_after, k_and_turns, k_and_most, k_and_within, k_and_or, k_or_never, k_or_until, k_or_after, k_or_turns, k_or_most, k_or_within, k_or_and, hgl, e]
  have pr : prD [.sh (.str "cells"), .sh (lI ns), .sh (.str "at"), .sh (.int 0), .sh (.str "digits"), .sh (.int 0), .sh (.str "count"), .sh (.int 0), .sh (.str "fold"), .sh (.int f)] = some [(.inr "cells", lI ns), (.inr "at", .int 0), (.inr "digits", .int 0), (.inr "count", .int 0), (.inr "fold", .int f)] := rfl
  have rv : rsv [some (.sh (.wls (ns.map D.int))), some (.sh (.int f)), x] [.o (.sh (.str "cells")), .o (.sh (lI ns)), .o (.sh (.str "at")), .o (.sh (.int 0)), .o (.sh (.str "digits")), .o (.sh (.int 0)), .o (.sh (.str "count")), .o (.sh (.int 0)), .o (.sh (.str "fold")), .o (.sh (.int f))] = some [.sh (.str "cells"), .sh (lI ns), .sh (.str "at"), .sh (.int 0), .sh (.str "digits"), .sh (.int 0), .sh (.str "count"), .sh (.int 0), .sh (.str "fold"), .sh (.int f)] := rfl
  unfold aDisp
  rw [ev]
  simp only [Res.bind, rv, pr]
  rw [if_pos ⟨key_nd, by simp⟩]
  rfl
theorem pen_turn {A : O} {f n : Int} (h : 0 ≤ f ∧ f < 1000000241) : sSet 1 (aOp [.ex (aOp [.ex (aOp [.ex (aOp [.pl 1, .ex (aC (.int 101))] (l2 gMul)), .pl 2] (l2 gAdd))] (l1 gInt)), .ex (aC (.int 1000000241))] (l2 gMod)) [some A, some (.sh (.int f)), some (.sh (.int n))] =
    .nx [some A, some (.sh (.int ((f * 101 + n) % 1000000241))), some (.sh (.int n))] := by
  have h1 := mul_small (i := f) (j := 101) (by omega)
  have h2 := mod_pos (i := f * 101 + n) (j := 1000000241) (by omega)
  refine set_ok (i := 1) (o := .sh (.int ((f * 101 + n) % 1000000241))) (ρ' := [some A, some (.sh (.int f)), some (.sh (.int n))]) ?_ (by simp)
  generalize (101 : Int) = m1 at h1 h2 ⊢
  generalize (1000000241 : Int) = m2 at h2 ⊢
  simp only [aDef, pre, outs, List.map_cons, List.map_nil, List.replicate, List.cons_append, List.nil_append, List.length_cons, List.length_nil, sSeq, sSet, sRet, sRetN, sIf, sDrop, sPar, sAsg, sNext, aB, aC, aVar, aMove, aFz, aTV, aNot, aAnd, aOr, aIfE, aAndV, aOrV, aOp, aSl, aP, evA, rsv, l1, l2, Res.bind, Res.out, List.getElem?_cons_zero, List.getElem?_cons_succ, List.set_cons_zero, List.set_cons_succ, Option.map_some, Option.map_none, fz, shs, if_true, if_false, ite_true, ite_false, Bool.false_eq_true, reduceIte, reduceCtorEq, Nat.reduceAdd, Nat.reduceSub, Nat.reduceLT, Nat.reduceLeDiff, Nat.reduceEqDiff, Bool.not_true, Bool.not_false, Nat.sub_self, Nat.zero_add, and_self, true_and, and_true, Nat.lt_add_one, decide_true, decide_false, decide_eq_true_eq , gSl_tS, gLen_tS, gLen_lS, gTup_str, gIn_tS, gNotIn_tS, gIn_lS, gNotIn_lS, gEq_int, gEq_str, gNe_int, gNe_str, cut_from, cut_to , gTup_str2, gIx_tup, atI_0, atI_1, atI_2, atI_3, gSl_tup, List.mem_cons, List.not_mem_nil, or_false, false_or, true_or, or_true, not_true_eq_false, not_false_eq_true , aCall, tak, giv, List.append_nil, aMeth, k_never_until, k_never_after, k_never_turns, k_never_most, k_never_within, k_never_and, k_never_or, k_until_never, k_until_after, k_until_turns, k_until_most, k_until_within, k_until_and, k_until_or, k_after_never, k_after_until, k_after_turns, k_after_most, k_after_within, k_after_and, k_after_or, k_turns_never, k_turns_until, k_turns_after, k_turns_most, k_turns_within, k_turns_and, k_turns_or, k_most_never, k_most_until, k_most_after, k_most_turns, k_most_within, k_most_and, k_most_or, k_within_never, k_within_until, k_within_after, k_within_turns, k_within_most, k_within_and, k_within_or, k_and_never, k_and_until, k_and_after, k_and_turns, k_and_most, k_and_within, k_and_or, k_or_never, k_or_until, k_or_after, k_or_turns, k_or_most, k_or_within, k_or_and, h1, gAdd, gInt, h2]
theorem pen_loop {A : O} {body : aS} (hb : ∀ f n : Int, 0 ≤ f ∧ f < 1000000241 → body [some A, some (.sh (.int f)), some (.sh (.int n))] = .nx [some A, some (.sh (.int ((f * 101 + n) % 1000000241))), some (.sh (.int n))]) :
    ∀ (ns : List Int) (f : Int) (x : Option O), 0 ≤ f ∧ f < 1000000241 → ∃ f' y, forD (aN 2) body (ns.map D.int) [some A, some (.sh (.int f)), x] = .nx [some A, some (.sh (.int f')), y] ∧ 0 ≤ f' ∧ f' < 1000000241
  | [], f, x, h => ⟨f, x, rfl, h⟩
  | n :: ns, f, x, h => by
    have hp : (0 : Int) < 1000000241 := by omega
    obtain ⟨f', y, e, h'⟩ := pen_loop hb ns ((f * 101 + n) % 1000000241) (some (.sh (.int n))) ⟨Int.emod_nonneg _ (by omega), Int.emod_lt_of_pos _ hp⟩
    refine ⟨f', y, ?_, h'⟩
    rw [List.map_cons, forD, aN_in (by simp)]
    simp only [List.set_cons_succ, List.set_cons_zero]
    rw [hb f n h]
    exact e
theorem for_any {src : aI} {tg : aG} {body : aS} {ρ ρ' : Store} {ds : List D} (h : src ρ = .ok ds ρ') : sFor src tg body ρ = forD tg body ds ρ' := by
  unfold sFor
  rw [h]
  rfl
theorem t_pen {ns : List Int} (h : ns.length ≤ 63) : ∃ pen, d__law_pen [.sh (.wls (ns.map D.int))] = .ret pen [.sh (.wls (ns.map D.int))] ∧ PenOk 0 pen := by
  obtain ⟨f, y, e, h0, h1⟩ := pen_loop (A := .sh (.wls (ns.map D.int))) (fun f n h => pen_turn h) ns 11 none (by omega)
  refine ⟨penO ns 0 0 0 f, ?_, ns, 0, 0, 0, f, rfl, h, by omega, by omega, by omega, by omega, by omega, h0, by omega⟩
  unfold d__law_pen
  exact def_ret rfl ((seq_nx (set_ok (i := 1) (o := .sh (.int 11)) (ρ' := [some (.sh (.wls (ns.map D.int))), none, none]) rfl (by simp))).trans ((seq_nx ((for_any (ρ' := [some (.sh (.wls (ns.map D.int))), some (.sh (.int 11)), none]) rfl).trans e)).trans (ret_ok disp_pen))) rfl
theorem meth_ok {T : String} {i : Nat} {g : aE} {f : O → List O → Option (O × O)} {ρ ρ1 : Store} {o0 ox a o' w : O} (h0 : ρ[i]? = some (some o0)) (hk : kindO o0 = T) (hg : g ρ = .ok a ρ1) (h1 : ρ1[i]? = some (some ox)) (hf : f ox [a] = some (o', w)) : aMeth T i [.ex g] f ρ = .ok w (ρ1.set i (some o')) := by
  simp [aMeth, evA, h0, hk, hg, Res.bind, rsv, h1, hf]
theorem fz_ok {g : aE} {ρ ρ' : Store} {o : O} (h : g ρ = .ok o ρ') : aFz g ρ = .ok (.sh (fz o)) ρ' := by
  simp [aFz, h, Res.bind]
theorem drop_ok {g : aE} {ρ ρ' : Store} {o : O} (h : g ρ = .ok o ρ') : sDrop g ρ = .nx ρ' := by
  unfold sDrop
  rw [h]
  rfl
theorem seqIx {k n : Nat} (h : k < n) : seqIndex? (k : Int) n = some k := (ixN_seq (by unfold ixN; rw [if_pos (by omega), if_pos (by omega)]; simp)).1
theorem popAt_ok {left : List D} {k : Nat} {d : D} (hk : left[k]? = some d) (hl : left.length ≤ 1000000) : fPopAt (.lst (left.map O.sh)) [.sh (.int (k : Int))] = some (.lst ((left.eraseIdx k).map O.sh), .sh d) := by
  have hlt : k < left.length := (List.getElem?_eq_some_iff.mp hk).1
  have h1 : seqIndex? (k : Int) (left.map O.sh).length = some k := by rw [List.length_map]; exact seqIx hlt
  have h2 : (left.map O.sh)[k]? = some (.sh d) := by rw [List.getElem?_map, hk]; rfl
  unfold fPopAt
  simp only [h1, h2]
  rw [if_pos (by constructor <;> omega), map_erase]
theorem append_ok {found : List D} {d : D} (hl : found.length ≤ 1000000) : fAppend (.lst (found.map O.sh)) [.sh d] = some (.lst ((found ++ [d]).map O.sh), .sh .non) := by
  unfold fAppend
  simp only
  rw [if_pos (by rw [List.length_map]; omega), List.map_append]
  rfl
theorem shuf_turn {F : aF} {pen pen' : O} {S x : Option O} {left found : List D} {k : Nat} {d : D} (hd : ∃ kvs, pen = .dic kvs) (hF : F [pen, .sh (.int left.length)] = .ret (.sh (.int (k : Int))) [pen', .sh (.int left.length)]) (hk : left[k]? = some d) (hl : left.length ≤ 1000000) (hf : found.length ≤ 1000000) :
    sDrop (aMeth "list" 4 [.ex (aFz (aMeth "list" 3 [.ex (aFz (aCall 2 [.pl 0, .ex (aOp [.pl 3] (l1 gLen))] [] F))] fPopAt))] fAppend) [some pen, S, x, some (.lst (left.map O.sh)), some (.lst (found.map O.sh))] =
      .nx [some pen', S, x, some (.lst ((left.eraseIdx k).map O.sh)), some (.lst ((found ++ [d]).map O.sh))] := by
  have hlen : gLen (.lst (left.map O.sh)) = some (.sh (.int left.length)) := by simp [gLen]
  have hc := callp (F := F) (g := aOp [.pl 3] (l1 gLen)) (pen := pen) (a := .sh (.int left.length)) (rest := [S, x, some (.lst (left.map O.sh)), some (.lst (found.map O.sh))]) hd (by simp only [aDef, pre, outs, List.map_cons, List.map_nil, List.replicate, List.cons_append, List.nil_append, List.length_cons, List.length_nil, sSeq, sSet, sRet, sRetN, sIf, sDrop, sPar, sAsg, sNext, aB, aC, aVar, aMove, aFz, aTV, aNot, aAnd, aOr, aIfE, aAndV, aOrV, aOp, aSl, aP, evA, rsv, l1, l2, Res.bind, Res.out, List.getElem?_cons_zero, List.getElem?_cons_succ, List.set_cons_zero, List.set_cons_succ, Option.map_some, Option.map_none, fz, shs, if_true, if_false, ite_true, ite_false, Bool.false_eq_true, reduceIte, reduceCtorEq, Nat.reduceAdd, Nat.reduceSub, Nat.reduceLT, Nat.reduceLeDiff, Nat.reduceEqDiff, Bool.not_true, Bool.not_false, Nat.sub_self, Nat.zero_add, and_self, true_and, and_true, Nat.lt_add_one, decide_true, decide_false, decide_eq_true_eq , gSl_tS, gLen_tS, gLen_lS, gTup_str, gIn_tS, gNotIn_tS, gIn_lS, gNotIn_lS, gEq_int, gEq_str, gNe_int, gNe_str, cut_from, cut_to , gTup_str2, gIx_tup, atI_0, atI_1, atI_2, atI_3, gSl_tup, List.mem_cons, List.not_mem_nil, or_false, false_or, true_or, or_true, not_true_eq_false, not_false_eq_true , aCall, tak, giv, List.append_nil, aMeth, k_never_until, k_never_after, k_never_turns, k_never_most, k_never_within, k_never_and, k_never_or, k_until_never, k_until_after, k_until_turns, k_until_most, k_until_within, k_until_and, k_until_or, k_after_never, k_after_until, k_after_turns, k_after_most, k_after_within, k_after_and, k_after_or, k_turns_never, k_turns_until, k_turns_after, k_turns_most, k_turns_within, k_turns_and, k_turns_or, k_most_never, k_most_until, k_most_after, k_most_turns, k_most_within, k_most_and, k_most_or, k_within_never, k_within_until, k_within_after, k_within_turns, k_within_most, k_within_and, k_within_or, k_and_never, k_and_until, k_and_after, k_and_turns, k_and_most, k_and_within, k_and_or, k_or_never, k_or_until, k_or_after, k_or_turns, k_or_most, k_or_within, k_or_and, hlen]) hF
  have m1 := meth_ok (T := "list") (i := 3) (f := fPopAt) (o0 := .lst (left.map O.sh)) (ox := .lst (left.map O.sh)) (by rfl) rfl (fz_ok hc) (by rfl) (popAt_ok hk hl)
  exact drop_ok (meth_ok (T := "list") (i := 4) (f := fAppend) (o0 := .lst (found.map O.sh)) (ox := .lst (found.map O.sh)) rfl rfl (fz_ok m1) rfl (append_ok hf))
theorem shuf_loop {S : Option O} : ∀ (n : Nat) (lo : Int) (B : Nat) (pen : O) (x : Option O) (left found : List D), left.length = n → found.length + n ≤ 1000 → PenOk B pen → B + n < 1099511627775 →
    ∃ pen' y es, forD (aN 2) (sDrop (aMeth "list" 4 [.ex (aFz (aMeth "list" 3 [.ex (aFz (aCall 2 [.pl 0, .ex (aOp [.pl 3] (l1 gLen))] [] (d__law_draw)))] fPopAt))] fAppend)) ((List.range n).map fun i : Nat => D.int (lo + (i : Int))) [some pen, S, x, some (.lst (left.map O.sh)), some (.lst (found.map O.sh))] =
      .nx [some pen', S, y, some (.lst []), some (.lst ((found ++ es).map O.sh))] ∧ es.Perm left ∧ PenOk (B + n) pen'
  | 0, lo, B, pen, x, left, found, h, _, hp, _ => by
    have : left = [] := List.eq_nil_of_length_eq_zero h
    subst this
    exact ⟨pen, x, [], by rw [List.append_nil]; rfl, .refl _, hp⟩
  | n + 1, lo, B, pen, x, left, found, h, h2, hp, hB => by
    obtain ⟨r, pen1, e, r0, r1, hp1⟩ := t_draw (many := (left.length : Int)) hp (by omega) (by omega)
    obtain ⟨k, rfl⟩ := Int.eq_ofNat_of_zero_le r0
    have hk : k < left.length := by omega
    have hx := List.getElem?_eq_getElem hk
    obtain ⟨pen', y, es, e2, pm, hp'⟩ := shuf_loop (S := S) n (lo + 1) (B + 1) pen1 (some (.sh (.int (lo + ((0 : Nat) : Int))))) (left.eraseIdx k) (found ++ [left[k]]) (by rw [List.length_eraseIdx_of_lt hk]; omega) (by simp; omega) hp1 (by omega)
    refine ⟨pen', y, left[k] :: es, ?_, ?_, by have := hp'; rw [Nat.add_assoc, Nat.add_comm 1 n] at this; exact this⟩
    · rw [List.range_succ_eq_map, List.map_cons, List.map_map, forD, aN_in (by simp)]
      simp only [List.set_cons_succ, List.set_cons_zero]
      rw [shuf_turn hp.dic e hx (by omega) (by omega)]
      have er : (List.range n).map ((fun i : Nat => D.int (lo + (i : Int))) ∘ Nat.succ) = (List.range n).map fun i : Nat => D.int (lo + 1 + (i : Int)) := by
        apply List.map_congr_left
        intro i _
        simp only [Function.comp, D.int.injEq]
        omega
      rw [er]
      simp only
      rw [e2, List.append_assoc]
      rfl
    · exact (pm.cons _).trans (perm_erase hx).symm
theorem par_ok {i j : Nat} {g h : aE} {ρ ρ1 ρ2 : Store} {o u : O} (h1 : g ρ = .ok o ρ1) (h2 : h ρ1 = .ok u ρ2) (h3 : i < ρ2.length) (h4 : j < ρ2.length) : sPar i j g h ρ = .nx ((ρ2.set i (some o)).set j (some u)) := by
  unfold sPar
  simp only [h1, Res.out, h2]
  rw [if_pos ⟨h3, h4⟩]
theorem sFor_rng1 {g : aE} {tg : aG} {body : aS} {ρ ρ' : Store} {j : Int} (h1 : g ρ = .ok (.sh (.int j)) ρ') (hj : -1000000000 ≤ j ∧ j ≤ 1000000000) : sFor (aRng1 g) tg body ρ = forD tg body (rngD 0 j.toNat) ρ' := by
  unfold sFor aRng1
  rw [h1]
  simp only [Res.bind]
  rw [if_pos hj]
  rfl
theorem op1_ok {f : O → Option O} {i : Nat} {ρ : Store} {S w : O} (h : ρ[i]? = some (some S)) (hf : f S = some w) : aOp [.pl i] (l1 f) ρ = .ok w ρ := by
  simp [aOp, evA, h, Res.bind, rsv, l1, hf]
theorem t_shuffled {B : Nat} {pen S : O} {ds : List D} (hp : PenOk B pen) (hB : B + ds.length < 1099511627775) (hg : gList S = some (.lst (ds.map O.sh))) (hl : gLen S = some (.sh (.int ds.length))) (hn : ds.length ≤ 500) :
    ∃ (es : List D) (pen' : O), d__law_shuffled [pen, S] = .ret (.lst (es.map O.sh)) [pen', S] ∧ es.Perm ds ∧ PenOk (B + ds.length) pen' := by
  obtain ⟨pen', y, es, e, pm, hp'⟩ := shuf_loop (S := some S) ds.length 0 B pen none ds [] rfl (by simp; omega) hp hB
  refine ⟨es, pen', ?_, pm, hp'⟩
  have h1 := par_ok (i := 3) (j := 4) (g := aOp [.pl 1] (l1 gList)) (h := aOp [] gLstS) (ρ := [some pen, some S, none, none, none]) (op1_ok rfl hg) (u := .lst []) (ρ2 := [some pen, some S, none, none, none]) rfl (by simp) (by simp)
  have h2 := sFor_rng1 (g := aOp [.pl 1] (l1 gLen)) (tg := aN 2) (body := sDrop (aMeth "list" 4 [.ex (aFz (aMeth "list" 3 [.ex (aFz (aCall 2 [.pl 0, .ex (aOp [.pl 3] (l1 gLen))] [] (d__law_draw)))] fPopAt))] fAppend)) (ρ := [some pen, some S, none, some (.lst (ds.map O.sh)), some (.lst [])]) (op1_ok rfl hl) (by omega)
  have e1 : rngD 0 ((ds.length : Nat) : Int).toNat = (List.range ds.length).map fun i : Nat => D.int (0 + (i : Int)) := by rw [Int.toNat_natCast]; rfl
  rw [e1] at h2
  have h3 := h2.trans e
  unfold d__law_shuffled
  revert h3
  generalize sFor (aRng1 (aOp [.pl 1] (l1 gLen))) (aN 2) (sDrop (aMeth "list" 4 [.ex (aFz (aMeth "list" 3 [.ex (aFz (aCall 2 [.pl 0, .ex (aOp [.pl 3] (l1 gLen))] [] (d__law_draw)))] fPopAt))] fAppend)) = F
  intro h3
  exact def_ret rfl ((seq_nx h1).trans ((seq_nx h3).trans (ret_ok rfl))) rfl
end Lw
end
section
open PySem L2 Den
namespace Lw
theorem sl_to {g : aE} {od : Od} {ρ ρ1 ρ2 : Store} {rs : List Rv} {o w : O} {j : Int} (h1 : evA [od] ρ = .ok rs ρ1) (h2 : g ρ1 = .ok (.sh (.int j)) ρ2) (h3 : rsv ρ2 rs = some [o]) (h4 : gSl o none (some j) = some w) : aSl od none (some g) gSl ρ = .ok w ρ2 := by
  simp [aSl, aP, h1, h2, h3, Res.bind, h4]
theorem gSl_lst (es : List D) (lo hi : Option Int) : gSl (.lst (es.map O.sh)) lo hi = some (.lst ((cutD es lo hi).map O.sh)) := by
  have e : gSl (.lst (es.map O.sh)) lo hi = (match lstD (.lst (es.map O.sh)) with
      | some ds => some (.lst ((cutD ds lo hi).map O.sh))
      | none => none) := rfl
  have h : lstD (.lst (es.map O.sh)) = some es := shs_map es
  rw [e, h]
/-- f(pen, S) -/
theorem callpp {F : aF} {pen pen' S o : O} {rest : Store} (hd : ∃ kvs, pen = .dic kvs) (hS : (∃ d, S = .sh d) ∨ ∃ os, S = .lst os) (hF : F [pen, S] = .ret o [pen', S]) : aCall 2 [.pl 0, .pl 1] [] F (some pen :: some S :: rest) = .ok o (some pen' :: some S :: rest) := by
  obtain ⟨kvs, rfl⟩ := hd
  rcases hS with ⟨d, rfl⟩ | ⟨os, rfl⟩
  · simp [aCall, evA, Res.bind, tak, giv, hF]
  · simp [aCall, evA, Res.bind, tak, giv, hF]
theorem t_some {B : Nat} {pen S : O} {ds : List D} {most : Nat} (hp : PenOk B pen) (hB : B + ds.length < 1099511627774) (hS : (∃ d, S = .sh d) ∨ ∃ os, S = .lst os) (hg : gList S = some (.lst (ds.map O.sh))) (hl : gLen S = some (.sh (.int ds.length))) (hn : ds.length ≤ 500) (hm : most ≤ 500) :
    ∃ (es : List D) (pen' : O), d__law_some [pen, S, .sh (.int most)] = .ret (.lst (es.map O.sh)) [pen', S, .sh (.int most)] ∧ es.length ≤ most ∧ (∃ r, (es ++ r).Perm ds) ∧ PenOk (B + ds.length + 1) pen' := by
  obtain ⟨es, pen1, e1, pm, hp1⟩ := t_shuffled hp (by omega) hg hl hn
  obtain ⟨r, pen2, e2, r0, r1, hp2⟩ := t_draw (many := (((min most ds.length : Nat) : Int) + 1)) hp1 (by omega) (by omega)
  obtain ⟨k, rfl⟩ := Int.eq_ofNat_of_zero_le r0
  refine ⟨es.take k, pen2, ?_, by rw [List.length_take]; omega, ⟨es.drop k, by rw [List.take_append_drop]; exact pm⟩, hp2⟩
  unfold d__law_some
  revert e1 e2
  generalize d__law_shuffled = F
  generalize d__law_draw = G
  intro e1 e2
  have c1 := callpp (F := F) (rest := [some (.sh (.int most))]) hp.dic hS e1
  have hmin : gMin2 (.sh (.int most)) (.sh (.int ds.length)) = some (.sh (.int ((min most ds.length : Nat) : Int))) := by
    show some (O.sh (D.int _)) = _
    congr 3
    split <;> omega
  have a1 : aOp [.ex (aOp [.pl 2, .ex (aOp [.pl 1] (l1 gLen))] (l2 gMin2)), .ex (aC (.int 1))] (l2 gAdd) [some pen1, some S, some (.sh (.int most))] = .ok (.sh (.int (((min most ds.length : Nat) : Int) + 1))) [some pen1, some S, some (.sh (.int most))] := by
    simp only [aDef, pre, outs, List.map_cons, List.map_nil, List.replicate, List.cons_append, List.nil_append, List.length_cons, List.length_nil, sSeq, sSet, sRet, sRetN, sIf, sDrop, sPar, sAsg, sNext, aB, aC, aVar, aMove, aFz, aTV, aNot, aAnd, aOr, aIfE, aAndV, aOrV, aOp, aSl, aP, evA, rsv, l1, l2, Res.bind, Res.out, List.getElem?_cons_zero, List.getElem?_cons_succ, List.set_cons_zero, List.set_cons_succ, Option.map_some, Option.map_none, fz, shs, if_true, if_false, ite_true, ite_false, Bool.false_eq_true, reduceIte, reduceCtorEq, Nat.reduceAdd, Nat.reduceSub, Nat.reduceLT, Nat.reduceLeDiff, Nat.reduceEqDiff, Bool.not_true, Bool.not_false, Nat.sub_self, Nat.zero_add, and_self, true_and, and_true, Nat.lt_add_one, decide_true, decide_false, decide_eq_true_eq , gSl_tS, gLen_tS, gLen_lS, gTup_str, gIn_tS, gNotIn_tS, gIn_lS, gNotIn_lS, gEq_int, gEq_str, gNe_int, gNe_str, cut_from, cut_to , gTup_str2, gIx_tup, atI_0, atI_1, atI_2, atI_3, gSl_tup, List.mem_cons, List.not_mem_nil, or_false, false_or, true_or, or_true, not_true_eq_false, not_false_eq_true , aCall, tak, giv, List.append_nil, aMeth, k_never_until, k_never_after, k_never_turns, k_never_most, k_never_within, k_never_and, k_never_or, k_until_never, k_until_after, k_until_turns, k_until_most, k_until_within, k_until_and, k_until_or, k_after_never, k_after_until, k_after_turns, k_after_most, k_after_within, k_after_and, k_after_or, k_turns_never, k_turns_until, k_turns_after, k_turns_most, k_turns_within, k_turns_and, k_turns_or, k_most_never, k_most_until, k_most_after, k_most_turns, k_most_within, k_most_and, k_most_or, k_within_never, k_within_until, k_within_after, k_within_turns, k_within_most, k_within_and, k_within_or, k_and_never, k_and_until, k_and_after, k_and_turns, k_and_most, k_and_within, k_and_or, k_or_never, k_or_until, k_or_after, k_or_turns, k_or_most, k_or_within, k_or_and, hl, hmin, gAdd]
  have c2 := callp (F := G) (rest := [some S, some (.sh (.int most))]) hp1.dic a1 e2
  refine def_ret (ρ := [some pen2, some S, some (.sh (.int most))]) rfl (ret_ok ?_) rfl
  refine sl_to (ρ1 := [some pen1, some S, some (.sh (.int most))]) (rs := [.o (.lst (es.map O.sh))]) (j := (k : Int)) ?_ c2 rfl (by rw [gSl_lst, cut_to])
  have hm2 : List.map some (pre [true, true, true] [pen, S, O.sh (D.int most)]) ++ List.replicate (3 - [true, true, true].length) none = [some pen, some S, some (.sh (.int most))] := rfl
  rw [hm2]
  simp [evA, c1, Res.bind]
theorem isi_int_tuple (i : Int) : gIsi "tuple" (.sh (.int i)) = some (.sh (.bl false)) := rfl
theorem isi_int_int (i : Int) : gIsi "int" (.sh (.int i)) = some (.sh (.bl true)) := rfl
theorem isi_int_bool (i : Int) : gIsi "bool" (.sh (.int i)) = some (.sh (.bl false)) := rfl
theorem isi_bl_tuple (b : Bool) : gIsi "tuple" (.sh (.bl b)) = some (.sh (.bl false)) := rfl
theorem isi_non_tuple : gIsi "tuple" (.sh .non) = some (.sh (.bl false)) := rfl
theorem isi_tup_tuple (ds : List D) : gIsi "tuple" (.sh (.tup ds)) = some (.sh (.bl true)) := rfl
theorem same_int (n : Nat) (i : Int) : d__law_same (n + 1) [.sh (.int i), .sh (.int i)] = .ret (.sh (.bl true)) [.sh (.int i), .sh (.int i)] := by
  unfold d__law_same b__law_same
  simp only [aDef, pre, outs, List.map_cons, List.map_nil, List.replicate, List.cons_append, List.nil_append, List.length_cons, List.length_nil, sSeq, sSet, sRet, sRetN, sIf, sDrop, sPar, sAsg, sNext, aB, aC, aVar, aMove, aFz, aTV, aNot, aAnd, aOr, aIfE, aAndV, aOrV, aOp, aSl, aP, evA, rsv, l1, l2, Res.bind, Res.out, List.getElem?_cons_zero, List.getElem?_cons_succ, List.set_cons_zero, List.set_cons_succ, Option.map_some, Option.map_none, fz, shs, if_true, if_false, ite_true, ite_false, Bool.false_eq_true, reduceIte, reduceCtorEq, Nat.reduceAdd, Nat.reduceSub, Nat.reduceLT, Nat.reduceLeDiff, Nat.reduceEqDiff, Bool.not_true, Bool.not_false, Nat.sub_self, Nat.zero_add, and_self, true_and, and_true, Nat.lt_add_one, decide_true, decide_false, decide_eq_true_eq , gSl_tS, gLen_tS, gLen_lS, gTup_str, gIn_tS, gNotIn_tS, gIn_lS, gNotIn_lS, gEq_int, gEq_str, gNe_int, gNe_str, cut_from, cut_to , gTup_str2, gIx_tup, atI_0, atI_1, atI_2, atI_3, gSl_tup, List.mem_cons, List.not_mem_nil, or_false, false_or, true_or, or_true, not_true_eq_false, not_false_eq_true , aCall, tak, giv, List.append_nil, aMeth, k_never_until, k_never_after, k_never_turns, k_never_most, k_never_within, k_never_and, k_never_or, k_until_never, k_until_after, k_until_turns, k_until_most, k_until_within, k_until_and, k_until_or, k_after_never, k_after_until, k_after_turns, k_after_most, k_after_within, k_after_and, k_after_or, k_turns_never, k_turns_until, k_turns_after, k_turns_most, k_turns_within, k_turns_and, k_turns_or, k_most_never, k_most_until, k_most_after, k_most_turns, k_most_within, k_most_and, k_most_or, k_within_never, k_within_until, k_within_after, k_within_turns, k_within_most, k_within_and, k_within_or, k_and_never, k_and_until, k_and_after, k_and_turns, k_and_most, k_and_within, k_and_or, k_or_never, k_or_until, k_or_after, k_or_turns, k_or_most, k_or_within, k_or_and, isi_int_tuple, isi_int_int, isi_int_bool, gIsN, gIsB, Den.isNon, isBl]
theorem same_bl (n : Nat) (b : Bool) : d__law_same (n + 1) [.sh (.bl b), .sh (.bl b)] = .ret (.sh (.bl true)) [.sh (.bl b), .sh (.bl b)] := by
  unfold d__law_same b__law_same
  cases b <;> simp [aDef, pre, outs, List.map_cons, List.map_nil, List.replicate, List.cons_append, List.nil_append, List.length_cons, List.length_nil, sSeq, sSet, sRet, sRetN, sIf, sDrop, sPar, sAsg, sNext, aB, aC, aVar, aMove, aFz, aTV, aNot, aAnd, aOr, aIfE, aAndV, aOrV, aOp, aSl, aP, evA, rsv, l1, l2, Res.bind, Res.out, List.getElem?_cons_zero, List.getElem?_cons_succ, List.set_cons_zero, List.set_cons_succ, Option.map_some, Option.map_none, fz, shs, if_true, if_false, ite_true, ite_false, Bool.false_eq_true, reduceIte, reduceCtorEq, Nat.reduceAdd, Nat.reduceSub, Nat.reduceLT, Nat.reduceLeDiff, Nat.reduceEqDiff, Bool.not_true, Bool.not_false, Nat.sub_self, Nat.zero_add, and_self, true_and, and_true, Nat.lt_add_one, decide_true, decide_false, decide_eq_true_eq , gSl_tS, gLen_tS, gLen_lS, gTup_str, gIn_tS, gNotIn_tS, gIn_lS, gNotIn_lS, gEq_int, gEq_str, gNe_int, gNe_str, cut_from, cut_to , gTup_str2, gIx_tup, atI_0, atI_1, atI_2, atI_3, gSl_tup, List.mem_cons, List.not_mem_nil, or_false, false_or, true_or, or_true, not_true_eq_false, not_false_eq_true , aCall, tak, giv, List.append_nil, aMeth, k_never_until, k_never_after, k_never_turns, k_never_most, k_never_within, k_never_and, k_never_or, k_until_never, k_until_after, k_until_turns, k_until_most, k_until_within, k_until_and, k_until_or, k_after_never, k_after_until, k_after_turns, k_after_most, k_after_within, k_after_and, k_after_or, k_turns_never, k_turns_until, k_turns_after, k_turns_most, k_turns_within, k_turns_and, k_turns_or, k_most_never, k_most_until, k_most_after, k_most_turns, k_most_within, k_most_and, k_most_or, k_within_never, k_within_until, k_within_after, k_within_turns, k_within_most, k_within_and, k_within_or, k_and_never, k_and_until, k_and_after, k_and_turns, k_and_most, k_and_within, k_and_or, k_or_never, k_or_until, k_or_after, k_or_turns, k_or_most, k_or_within, k_or_and, isi_bl_tuple, gIsN, gIsB, Den.isNon, isBl]
theorem same_non (n : Nat) : d__law_same (n + 1) [.sh .non, .sh .non] = .ret (.sh (.bl true)) [.sh .non, .sh .non] := by
  unfold d__law_same b__law_same
  simp only [aDef, pre, outs, List.map_cons, List.map_nil, List.replicate, List.cons_append, List.nil_append, List.length_cons, List.length_nil, sSeq, sSet, sRet, sRetN, sIf, sDrop, sPar, sAsg, sNext, aB, aC, aVar, aMove, aFz, aTV, aNot, aAnd, aOr, aIfE, aAndV, aOrV, aOp, aSl, aP, evA, rsv, l1, l2, Res.bind, Res.out, List.getElem?_cons_zero, List.getElem?_cons_succ, List.set_cons_zero, List.set_cons_succ, Option.map_some, Option.map_none, fz, shs, if_true, if_false, ite_true, ite_false, Bool.false_eq_true, reduceIte, reduceCtorEq, Nat.reduceAdd, Nat.reduceSub, Nat.reduceLT, Nat.reduceLeDiff, Nat.reduceEqDiff, Bool.not_true, Bool.not_false, Nat.sub_self, Nat.zero_add, and_self, true_and, and_true, Nat.lt_add_one, decide_true, decide_false, decide_eq_true_eq , gSl_tS, gLen_tS, gLen_lS, gTup_str, gIn_tS, gNotIn_tS, gIn_lS, gNotIn_lS, gEq_int, gEq_str, gNe_int, gNe_str, cut_from, cut_to , gTup_str2, gIx_tup, atI_0, atI_1, atI_2, atI_3, gSl_tup, List.mem_cons, List.not_mem_nil, or_false, false_or, true_or, or_true, not_true_eq_false, not_false_eq_true , aCall, tak, giv, List.append_nil, aMeth, k_never_until, k_never_after, k_never_turns, k_never_most, k_never_within, k_never_and, k_never_or, k_until_never, k_until_after, k_until_turns, k_until_most, k_until_within, k_until_and, k_until_or, k_after_never, k_after_until, k_after_turns, k_after_most, k_after_within, k_after_and, k_after_or, k_turns_never, k_turns_until, k_turns_after, k_turns_most, k_turns_within, k_turns_and, k_turns_or, k_most_never, k_most_until, k_most_after, k_most_turns, k_most_within, k_most_and, k_most_or, k_within_never, k_within_until, k_within_after, k_within_turns, k_within_most, k_within_and, k_within_or, k_and_never, k_and_until, k_and_after, k_and_turns, k_and_most, k_and_within, k_and_or, k_or_never, k_or_until, k_or_after, k_or_turns, k_or_most, k_or_within, k_or_and, isi_non_tuple, gIsN, gIsB, Den.isNon, isBl]
theorem lcL_turn {vs : List Nat} {tg : aG} {ge : aE} {d : D} {ds : List D} {ρ ρ1 ρ2 ρ3 : Store} {o : O} {r : List D} (h1 : tg d ρ = some ρ1) (h2 : ge ρ1 = .ok o ρ2) (h3 : lcL vs tg aYes ge ds (wipeS ρ2 vs) = .ok r ρ3) : lcL vs tg aYes ge (d :: ds) ρ = .ok (fz o :: r) ρ3 := by
  rw [lcL, h1]
  show (match (Res.ok true ρ1 : Res Bool).bind _ with | x => x) = _
  have e : aYes ρ1 = .ok true ρ1 := rfl
  simp only [Res.bind, if_true, h2, h3]
/-- a comprehension that draws at each turn -/
theorem lcP_loop {i : Nat} {ge : aE} {Pd : D → Prop} {S : Store} (hi : S[i]? = some none) (st : O → Store) (hst : ∀ pen, (st pen)[i]? = some none)
    (hge : ∀ (B : Nat) (pen : O) (d : D), PenOk B pen → B < 1099511627775 → ∃ (v : D) (pen' : O) (o : O), ge ((st pen).set i (some (.sh d))) = .ok o ((st pen').set i (some (.sh d))) ∧ fz o = v ∧ Pd v ∧ PenOk (B + 1) pen') :
    ∀ (ds : List D) (B : Nat) (pen : O), PenOk B pen → B + ds.length < 1099511627775 → ∃ (vs : List D) (pen' : O), lcL [i] (aN i) aYes ge ds (st pen) = .ok vs (st pen') ∧ vs.length = ds.length ∧ (∀ v ∈ vs, Pd v) ∧ PenOk (B + ds.length) pen'
  | [], B, pen, hp, _ => ⟨[], pen, rfl, rfl, (fun v h => by cases h), hp⟩
  | d :: ds, B, pen, hp, hB => by
    simp only [List.length_cons] at hB
    obtain ⟨v, pen1, o, e, ef, pv, hp1⟩ := hge B pen d hp (by omega)
    obtain ⟨vs, pen', e2, hl, hv, hp'⟩ := lcP_loop hi st hst hge ds (B + 1) pen1 hp1 (by omega)
    refine ⟨v :: vs, pen', ?_, by simp [hl], fun u hu => ?_, by rw [List.length_cons]; have := hp'; rw [Nat.add_assoc, Nat.add_comm 1] at this; exact this⟩
    · rw [← ef]
      refine lcL_turn (aN_in (List.getElem?_eq_some_iff.mp (hst pen)).1 d) e ?_
      have w : wipeS ((st pen1).set i (some (O.sh d))) [i] = st pen1 := by
        show ((st pen1).set i (some (O.sh d))).set i none = st pen1
        rw [List.set_set]
        exact set_same (hst pen1)
      rw [w]
      exact e2
    · rcases List.mem_cons.mp hu with rfl | hu
      · exact pv
      · exact hv u hu
/-- [.. for i in src], which draws at each turn -/
theorem aLcP {src : aI} {i : Nat} {ge : aE} {Pd : D → Prop} (st : O → Store) (hst : ∀ pen, (st pen)[i]? = some none) {ρ0 : Store} {pen : O} {ds : List D} {B : Nat} (hs : src ρ0 = .ok ds (st pen)) (hl : ds.length ≤ 16000000) (hp : PenOk B pen) (hB : B + ds.length < 1099511627775)
    (hge : ∀ (B : Nat) (pen : O) (d : D), PenOk B pen → B < 1099511627775 → ∃ (v : D) (pen' : O) (o : O), ge ((st pen).set i (some (.sh d))) = .ok o ((st pen').set i (some (.sh d))) ∧ fz o = v ∧ Pd v ∧ PenOk (B + 1) pen') :
    ∃ (vs : List D) (pen' : O), aLc src [i] (aN i) aYes ge ρ0 = .ok (.lst (vs.map O.sh)) (st pen') ∧ vs.length = ds.length ∧ (∀ v ∈ vs, Pd v) ∧ PenOk (B + ds.length) pen' := by
  obtain ⟨vs, pen', e, h1, h2, h3⟩ := lcP_loop (hst pen) st hst hge ds B pen hp hB
  refine ⟨vs, pen', ?_, h1, h2, h3⟩
  have w : wipeS (st pen) [i] = st pen := set_same (hst pen)
  unfold aLc
  rw [hs]
  simp only [Res.bind]
  rw [if_pos hl, w, e]
  simp only [restS, wipeS, hst, Option.join, Option.bind, id]
  rw [set_same (hst pen')]
theorem strs_of {xs : List Str} : ∀ {vs : List D}, (∀ v ∈ vs, ∃ x ∈ xs, v = .str x) → ∃ w : List Str, vs = w.map D.str ∧ ∀ x ∈ w, x ∈ xs
  | [], _ => ⟨[], rfl, fun x h => by cases h⟩
  | v :: vs, h => by
    obtain ⟨x, hx, rfl⟩ := h v (by simp)
    obtain ⟨w, rfl, hw⟩ := strs_of (vs := vs) fun u hu => h u (List.mem_cons_of_mem _ hu)
    exact ⟨x :: w, rfl, fun y hy => by
      rcases List.mem_cons.mp hy with rfl | hy
      · exact hx
      · exact hw y hy⟩
theorem pick_tS {B : Nat} {pen : O} {xs : List Str} (hp : PenOk B pen) (hB : B < 1099511627775) (hn : xs ≠ []) (hl : xs.length ≤ 1000) :
    ∃ (x : Str) (pen' : O), d__law_pick [pen, .sh (tS xs)] = .ret (.sh (.str x)) [pen', .sh (tS xs)] ∧ x ∈ xs ∧ PenOk (B + 1) pen' := by
  have h0 : 0 < xs.length := List.length_pos_iff.mpr hn
  obtain ⟨d, pen', e, ⟨x, hx, rfl⟩, hp'⟩ := t_pick (S := .sh (tS xs)) (n := xs.length) (Pd := fun d => ∃ x ∈ xs, d = .str x) hp hB (gLen_tS xs) ⟨h0, by omega⟩ (fun k hk => ⟨.str xs[k], gIx_tS (List.getElem?_eq_getElem hk), xs[k], List.getElem_mem hk, rfl⟩)
  exact ⟨x, pen', e, hx, hp'⟩
theorem rng1_ok {g : aE} {ρ ρ' : Store} {j : Int} (h : g ρ = .ok (.sh (.int j)) ρ') (hj : -1000000000 ≤ j ∧ j ≤ 1000000000) : aRng1 g ρ = .ok (rngD 0 j.toNat) ρ' := by
  unfold aRng1
  rw [h]
  simp only [Res.bind]
  rw [if_pos hj]
theorem gTuple_lst (vs : List D) : gTuple (.lst (vs.map O.sh)) = some (.sh (.tup vs)) := by
  have h : lstD (.lst (vs.map O.sh)) = some vs := shs_map vs
  have t : tupD (.lst (vs.map O.sh)) = none := rfl
  unfold gTuple
  rw [t]
  simp only [h]
theorem op1x_ok {f : O → Option O} {g : aE} {ρ ρ' : Store} {o w : O} (h : g ρ = .ok o ρ') (hf : f o = some w) : aOp [.ex g] (l1 f) ρ = .ok w ρ' := by
  simp [aOp, evA, h, Res.bind, rsv, l1, hf]
end Lw
end
section
open PySem L2 Den
namespace Lw
def al : Str := "abcdefghijklmnopqrstuvwxyz"
theorem al_len : al.cps.toList.length = 26 := by decide +kernel
theorem al_low : ∀ c ∈ al.cps.toList, 97 ≤ c ∧ c ≤ 122 := by decide +kernel
/-- letters alone -/
def Lt (z : Str) : Prop := ∀ c ∈ z.cps.toList, 97 ≤ c ∧ c ≤ 122
theorem app_cps (a b : Str) : (a ++ b).cps.toList = a.cps.toList ++ b.cps.toList := by
  show (a.cps ++ b.cps).toList = _
  simp
theorem len_cps (z : Str) : z.length = z.cps.toList.length := by
  show z.cps.size = _
  simp
theorem cut_to_cps (z : Str) (k : Nat) : (cutS z none (some (k : Int))).cps.toList = z.cps.toList.take k := by
  unfold cutS
  rw [HT.sIx_none, HT.sIx_nat, len_cps]
  simp only [List.drop_zero, Nat.sub_zero]
  by_cases h : k ≤ z.cps.toList.length
  · rw [Nat.min_eq_left h]
  · rw [Nat.min_eq_right (by omega), List.take_of_length_le (Nat.le_refl _), List.take_of_length_le (by omega)]
theorem cut_from_cps (z : Str) (k : Nat) : (cutS z (some (k : Int)) none).cps.toList = z.cps.toList.drop k := by
  unfold cutS
  rw [HT.sIx_none, HT.sIx_nat, len_cps]
  by_cases h : k ≤ z.cps.toList.length
  · rw [Nat.min_eq_left h]
    simp only
    rw [List.take_of_length_le (by simp)]
  · rw [Nat.min_eq_right (by omega), Nat.sub_self, List.take_zero, List.drop_of_length_le (by omega)]
theorem gIx_al {k : Nat} (h : k < 26) : ∃ c : Nat, gIx (.sh (.str al)) (.sh (.int (k : Int))) = some (.sh (.str ⟨#[c]⟩)) ∧ 97 ≤ c ∧ c ≤ 122 := by
  have hk : k < al.cps.toList.length := by rw [al_len]; exact h
  have hl : al.length ≤ 16000000 := by rw [len_cps, al_len]; omega
  refine ⟨al.cps.toList[k], ?_, al_low _ (List.getElem_mem hk)⟩
  unfold gIx
  simp only
  rw [if_pos hl, Den.atI_nat, List.getElem?_eq_getElem hk]
  rfl
theorem name_turn {G : aF} {B : Nat} {pen : O} {z : Str} {M x y : Option O} (hG : ∀ (B : Nat) (pen : O), PenOk B pen → B < 1099511627775 → ∃ (r : Int) (pen' : O), G [pen, .sh (.int 26)] = .ret (.sh (.int r)) [pen', .sh (.int 26)] ∧ 0 ≤ r ∧ r < 26 ∧ PenOk (B + 1) pen')
    (hp : PenOk B pen) (hB : B < 1099511627775) (hz : Lt z) (hl : z.length ≤ 100) :
    ∃ (z' : Str) (pen' : O), sSet 2 (aOp [.pl 2, .ex (aOp [.ex (aC (.str al)), .ex (aCall 2 [.pl 0, .ex (aC (.int 26))] [] G)] (l2 gIx))] (l2 gAdd)) [some pen, M, some (.sh (.str z)), x, y] = .nx [some pen', M, some (.sh (.str z')), x, y] ∧ Lt z' ∧ z'.length = z.length + 1 ∧ PenOk (B + 1) pen' := by
  obtain ⟨r, pen', e, r0, r1, hp'⟩ := hG B pen hp hB
  obtain ⟨k, rfl⟩ := Int.eq_ofNat_of_zero_le r0
  obtain ⟨c, hc, c1, c2⟩ := gIx_al (k := k) (by omega)
  have hcall := callp (F := G) (g := aC (.int 26)) (rest := [M, some (.sh (.str z)), x, y]) hp.dic rfl e
  have hadd : gAdd (.sh (.str z)) (.sh (.str ⟨#[c]⟩)) = some (.sh (.str (z ++ ⟨#[c]⟩))) := by
    have h1 : z.length + (⟨#[c]⟩ : Str).length ≤ 16000000 := by
      show z.length + 1 ≤ _
      omega
    show (if _ then _ else _) = _
    rw [if_pos h1]
  refine ⟨z ++ ⟨#[c]⟩, pen', ?_, fun d hd => ?_, by rw [len_cps, app_cps, len_cps]; simp, hp'⟩
  · refine set_ok (i := 2) (o := .sh (.str (z ++ ⟨#[c]⟩))) (ρ' := [some pen', M, some (.sh (.str z)), x, y]) ?_ (by simp)
    refine op_pl_ex (S0 := .sh (.str z)) (S := .sh (.str z)) (a := .sh (.str ⟨#[c]⟩)) rfl ?_ rfl hadd
    simp [aOp, evA, aC, Res.bind, hcall, rsv, l2, hc]
  · rw [app_cps] at hd
    rcases List.mem_append.mp hd with hd | hd
    · exact hz d hd
    · have : d = c := by simpa using hd
      omega
theorem name_loop {body : aS} {M y : Option O} (hb : ∀ (B : Nat) (pen : O) (z : Str) (x : Option O), PenOk B pen → B < 1099511627775 → Lt z → z.length ≤ 100 → ∃ (z' : Str) (pen' : O), body [some pen, M, some (.sh (.str z)), x, y] = .nx [some pen', M, some (.sh (.str z')), x, y] ∧ Lt z' ∧ z'.length = z.length + 1 ∧ PenOk (B + 1) pen') :
    ∀ (ds : List D) (B : Nat) (pen : O) (z : Str) (x : Option O), PenOk B pen → B + ds.length < 1099511627775 → Lt z → z.length + ds.length ≤ 100 → ∃ (z' : Str) (pen' : O) (x' : Option O), forD (aN 3) body ds [some pen, M, some (.sh (.str z)), x, y] = .nx [some pen', M, some (.sh (.str z')), x', y] ∧ Lt z' ∧ z'.length = z.length + ds.length ∧ PenOk (B + ds.length) pen'
  | [], B, pen, z, x, hp, _, hz, _ => ⟨z, pen, x, rfl, hz, rfl, hp⟩
  | d :: ds, B, pen, z, x, hp, hB, hz, hl => by
    simp only [List.length_cons] at hB hl
    obtain ⟨z1, pen1, e1, hz1, hl1, hp1⟩ := hb B pen z (some (.sh d)) hp (by omega) hz (by omega)
    obtain ⟨z2, pen2, x2, e2, hz2, hl2, hp2⟩ := name_loop hb ds (B + 1) pen1 z1 (some (.sh d)) hp1 (by omega) hz1 (by omega)
    refine ⟨z2, pen2, x2, ?_, hz2, by rw [List.length_cons]; omega, by rw [List.length_cons]; have := hp2; rw [Nat.add_assoc, Nat.add_comm 1] at this; exact this⟩
    rw [forD, aN_in (by simp)]
    simp only [List.set_cons_succ, List.set_cons_zero]
    rw [e1]
    exact e2
def dg (i : Nat) : Str := (toString (i : Int) : String)
theorem gStr_small {i : Nat} (h : i ≤ 9) : gStr (.sh (.int (i : Int))) = some (.sh (.str (dg i))) := by
  have h2 : ((i : Int)).natAbs.log2 < 1920 := by
    have : ((i : Int)).natAbs = i := by omega
    rw [this]
    exact Nat.lt_of_le_of_lt (Nat.log2_le_self i) (by omega)
  show (if _ then _ else _) = _
  rw [if_pos h2]
  rfl
theorem dg_facts : ∀ i : Nat, i ≤ 9 → (dg i).cps.toList = [48 + i] := by
  intro i h
  have : i = 0 ∨ i = 1 ∨ i = 2 ∨ i = 3 ∨ i = 4 ∨ i = 5 ∨ i = 6 ∨ i = 7 ∨ i = 8 ∨ i = 9 := by omega
  rcases this with rfl | rfl | rfl | rfl | rfl | rfl | rfl | rfl | rfl | rfl <;> decide +kernel
theorem cut_split (z : Str) (k : Nat) : Lt z → Lt (cutS z none (some (k : Int))) ∧ Lt (cutS z (some (k : Int)) none) := fun h =>
  ⟨fun c hc => h c (by rw [cut_to_cps] at hc; exact List.mem_of_mem_take hc), fun c hc => h c (by rw [cut_from_cps] at hc; exact List.mem_of_mem_drop hc)⟩
theorem gAdd_str {a b : Str} (h : a.length + b.length ≤ 16000000) : gAdd (.sh (.str a)) (.sh (.str b)) = some (.sh (.str (a ++ b))) := by
  show (if _ then _ else _) = _
  rw [if_pos h]
theorem gSl_str {z : Str} {lo hi : Option Int} (h : z.length ≤ 16000000) : gSl (.sh (.str z)) lo hi = some (.sh (.str (cutS z lo hi))) := by
  show (if _ then _ else _) = _
  rw [if_pos h]
theorem gLen_str {z : Str} (h : z.length ≤ 16000000) : gLen (.sh (.str z)) = some (.sh (.int z.length)) := by
  show (if _ then _ else _) = _
  rw [if_pos h]
theorem op_xx {f : O → O → Option O} {g h : aE} {ρ ρ1 ρ2 : Store} {a b w : O} (h1 : g ρ = .ok a ρ1) (h2 : h ρ1 = .ok b ρ2) (hf : f a b = some w) : aOp [.ex g, .ex h] (l2 f) ρ = .ok w ρ2 := by
  simp [aOp, evA, h1, h2, Res.bind, rsv, l2, hf]
theorem sl_from {g : aE} {od : Od} {ρ ρ1 ρ2 : Store} {rs : List Rv} {o w : O} {j : Int} (h1 : evA [od] ρ = .ok rs ρ1) (h2 : g ρ1 = .ok (.sh (.int j)) ρ2) (h3 : rsv ρ2 rs = some [o]) (h4 : gSl o (some j) none = some w) : aSl od (some g) none gSl ρ = .ok w ρ2 := by
  simp [aSl, aP, h1, h2, h3, Res.bind, h4]
theorem evp_ok {i : Nat} {ρ : Store} {S : O} (h : ρ[i]? = some (some S)) : evA [.pl i] ρ = .ok [.p i] ρ := by simp [evA, h, Res.bind]
theorem rsp_ok {i : Nat} {ρ : Store} {S : O} (h : ρ[i]? = some (some S)) : rsv ρ [.p i] = some [S] := by simp [rsv, h]
theorem var_ok {i : Nat} {ρ : Store} {d : D} (h : ρ[i]? = some (some (.sh d))) : aVar i ρ = .ok (.sh d) ρ := by
  simp [aVar, h]
/-- f(pen, e), where e draws too -/
theorem callq {F : aF} {g : aE} {pen pen2 pen' a a' o : O} {rest rest2 : Store} (hd : ∃ kvs, pen2 = .dic kvs) (hg : g (some pen :: rest) = .ok a (some pen2 :: rest2)) (hF : F [pen2, a] = .ret o [pen', a']) :
    aCall 2 [.pl 0, .ex g] [] F (some pen :: rest) = .ok o (some pen' :: rest2) := by
  obtain ⟨kvs, rfl⟩ := hd
  simp [aCall, evA, Res.bind, tak, giv, hg, hF]
theorem t_name {B : Nat} {pen : O} {i : Nat} (hp : PenOk B pen) (hB : B + 10 < 1099511627775) (hi : i ≤ 9) :
    ∃ (a b : Str) (pen' : O), d__law_name [pen, .sh (.int (i : Int))] = .ret (.sh (.str (a ++ dg i ++ b))) [pen', .sh (.int (i : Int))] ∧ Lt a ∧ Lt b ∧ 1 ≤ a.length ∧ a.length + b.length ≤ 8 ∧ PenOk (B + 10) pen' := by
  obtain ⟨r, pen1, e1, r0, r1, hp1⟩ := t_draw (many := 8) hp (by omega) (by omega)
  obtain ⟨k, rfl⟩ := Int.eq_ofNat_of_zero_le r0
  have hG : ∀ (B : Nat) (pen : O), PenOk B pen → B < 1099511627775 → ∃ (r : Int) (pen' : O), d__law_draw [pen, .sh (.int 26)] = .ret (.sh (.int r)) [pen', .sh (.int 26)] ∧ 0 ≤ r ∧ r < 26 ∧ PenOk (B + 1) pen' := fun B pen h h2 => t_draw h h2 (by omega)
  have hlen : (rngD 0 ((1 : Int) + (k : Int)).toNat).length = 1 + k := by simp [rngD]; omega
  obtain ⟨z, pen2, x2, e2, hz, hzl, hp2⟩ := name_loop (M := some (.sh (.int (i : Int)))) (y := none) (fun B pen z x h h1 h2 h3 => name_turn (G := d__law_draw) hG h h1 h2 h3) (rngD 0 ((1 : Int) + (k : Int)).toNat) (B + 1) pen1 "" none hp1 (by rw [hlen]; omega) (fun c hc => by
    have : (("" : Str)).cps.toList = [] := rfl
    rw [this] at hc
    cases hc) (by rw [hlen]; show 0 + _ ≤ _; omega)
  rw [hlen] at hzl hp2
  have hzl' : z.length = 1 + k := by rw [hzl]; show 0 + _ = _; omega
  obtain ⟨r', pen3, e3, s0, s1, hp3⟩ := t_draw (many := (z.length : Int)) hp2 (by omega) (by omega)
  obtain ⟨j, rfl⟩ := Int.eq_ofNat_of_zero_le s0
  obtain ⟨la, lb⟩ := cut_split z (1 + j) hz
  have na : (cutS z none (some ((1 + j : Nat) : Int))).length = 1 + j := by rw [len_cps, cut_to_cps, List.length_take, ← len_cps]; omega
  have nb : (cutS z (some ((1 + j : Nat) : Int)) none).length = z.length - (1 + j) := by rw [len_cps, cut_from_cps, List.length_drop, ← len_cps]
  have nd : (dg i).length = 1 := by rw [len_cps, dg_facts i hi]; rfl
  have ej : ((1 + j : Nat) : Int) = 1 + (j : Int) := by omega
  refine ⟨cutS z none (some ((1 + j : Nat) : Int)), cutS z (some ((1 + j : Nat) : Int)) none, pen3, ?_, la, lb, by omega, by omega, hp3.mono (by omega)⟩
  rw [ej] at na nb ⊢
  unfold d__law_name
  clear hG
  revert e1 e2 e3
  generalize d__law_draw = G
  intro e1 e2 e3
  have a1 : aOp [.ex (aC (.int 1)), .ex (aCall 2 [.pl 0, .ex (aC (.int 8))] [] G)] (l2 gAdd) [some pen, some (.sh (.int (i : Int))), some (.sh (.str "")), none, none] = .ok (.sh (.int (1 + (k : Int)))) [some pen1, some (.sh (.int (i : Int))), some (.sh (.str "")), none, none] :=
    op_xx rfl (callp (F := G) (g := aC (.int 8)) hp.dic rfl e1) rfl
  have e2' := (sFor_rng1 (tg := aN 3) a1 (by omega)).trans e2
  have a3 : aOp [.ex (aC (.int 1)), .ex (aCall 2 [.pl 0, .ex (aOp [.pl 2] (l1 gLen))] [] G)] (l2 gAdd) [some pen2, some (.sh (.int (i : Int))), some (.sh (.str z)), x2, none] = .ok (.sh (.int (1 + (j : Int)))) [some pen3, some (.sh (.int (i : Int))), some (.sh (.str z)), x2, none] :=
    op_xx rfl (callp (F := G) hp2.dic (op1_ok rfl (gLen_str (by omega))) e3) rfl
  have s3 := set_ok (i := 4) a3 (by simp)
  generalize (1 + (j : Int)) = p at na nb s3 ⊢
  refine def_ret (ρ := [some pen3, some (.sh (.int (i : Int))), some (.sh (.str z)), x2, some (.sh (.int p))]) rfl ((seq_nx (set_ok (i := 2) (o := .sh (.str "")) (ρ' := [some pen, some (.sh (.int (i : Int))), none, none, none]) rfl (by simp))).trans ((seq_nx e2').trans ((seq_nx s3).trans (ret_ok ?_)))) rfl
  refine op_xx (op_xx (sl_to (evp_ok rfl) (var_ok rfl) (rsp_ok rfl) (gSl_str (by omega))) (op1_ok rfl (gStr_small hi)) (gAdd_str (by rw [na, nd]; omega))) (sl_from (evp_ok rfl) (var_ok rfl) (rsp_ok rfl) (gSl_str (by omega))) (gAdd_str ?_)
  rw [len_cps, app_cps, List.length_append, ← len_cps, ← len_cps, na, nd, nb]
  omega
/-- a comprehension that draws at most c times at each turn; what is told depends on the item -/
theorem lcQ_loop {i c : Nat} {ge : aE} {Pd : D → D → Prop} (st : O → Store) (hst : ∀ pen, (st pen)[i]? = some none) (all : D → Prop)
    (hge : ∀ (B : Nat) (pen : O) (d : D), all d → PenOk B pen → B + c + 200 < 1099511627775 → ∃ (v : D) (pen' : O) (o : O), ge ((st pen).set i (some (.sh d))) = .ok o ((st pen').set i (some (.sh d))) ∧ fz o = v ∧ Pd d v ∧ PenOk (B + c) pen') :
    ∀ (ds : List D) (B : Nat) (pen : O), (∀ d ∈ ds, all d) → PenOk B pen → B + c * ds.length + 200 < 1099511627775 → ∃ (vs : List D) (pen' : O), lcL [i] (aN i) aYes ge ds (st pen) = .ok vs (st pen') ∧ vs.length = ds.length ∧ (∀ (k : Nat) (d v : D), ds[k]? = some d → vs[k]? = some v → Pd d v) ∧ PenOk (B + c * ds.length) pen'
  | [], B, pen, _, hp, _ => ⟨[], pen, rfl, rfl, (fun k d v h => by simp at h), hp⟩
  | d :: ds, B, pen, ha, hp, hB => by
    rw [List.length_cons, Nat.mul_add, Nat.mul_one] at hB
    obtain ⟨v, pen1, o, e, ef, pv, hp1⟩ := hge B pen d (ha d (by simp)) hp (by omega)
    obtain ⟨vs, pen', e2, hl, hv, hp'⟩ := lcQ_loop st hst all hge ds (B + c) pen1 (fun x hx => ha x (List.mem_cons_of_mem _ hx)) hp1 (by omega)
    refine ⟨v :: vs, pen', ?_, by simp [hl], fun k x u hx hu => ?_, by rw [List.length_cons, Nat.mul_add, Nat.mul_one]; exact hp'.mono (by omega)⟩
    · rw [← ef]
      refine lcL_turn (aN_in (List.getElem?_eq_some_iff.mp (hst pen)).1 d) e ?_
      have w : wipeS ((st pen1).set i (some (O.sh d))) [i] = st pen1 := by
        show ((st pen1).set i (some (O.sh d))).set i none = st pen1
        rw [List.set_set]
        exact set_same (hst pen1)
      rw [w]
      exact e2
    · cases k with
      | zero =>
        simp only [List.getElem?_cons_zero, Option.some.injEq] at hx hu
        subst hx hu
        exact pv
      | succ k =>
        simp only [List.getElem?_cons_succ] at hx hu
        exact hv k x u hx hu
theorem aLcQ {src : aI} {i c : Nat} {ge : aE} {Pd : D → D → Prop} (st : O → Store) (hst : ∀ pen, (st pen)[i]? = some none) (all : D → Prop) {ρ0 : Store} {pen : O} {ds : List D} {B : Nat} (hs : src ρ0 = .ok ds (st pen)) (hl : ds.length ≤ 16000000) (ha : ∀ d ∈ ds, all d) (hp : PenOk B pen) (hB : B + c * ds.length + 200 < 1099511627775)
    (hge : ∀ (B : Nat) (pen : O) (d : D), all d → PenOk B pen → B + c + 200 < 1099511627775 → ∃ (v : D) (pen' : O) (o : O), ge ((st pen).set i (some (.sh d))) = .ok o ((st pen').set i (some (.sh d))) ∧ fz o = v ∧ Pd d v ∧ PenOk (B + c) pen') :
    ∃ (vs : List D) (pen' : O), aLc src [i] (aN i) aYes ge ρ0 = .ok (.lst (vs.map O.sh)) (st pen') ∧ vs.length = ds.length ∧ (∀ (k : Nat) (d v : D), ds[k]? = some d → vs[k]? = some v → Pd d v) ∧ PenOk (B + c * ds.length) pen' := by
  obtain ⟨vs, pen', e, h1, h2, h3⟩ := lcQ_loop st hst all hge ds B pen ha hp hB
  refine ⟨vs, pen', ?_, h1, h2, h3⟩
  have w : wipeS (st pen) [i] = st pen := set_same (hst pen)
  unfold aLc
  rw [hs]
  simp only [Res.bind]
  rw [if_pos hl, w, e]
  simp only [restS, wipeS, hst, Option.join, Option.bind, id]
  rw [set_same (hst pen')]
/-- a name drawn for the index i -/
def Nm (i : Nat) (x : Str) : Prop := ∃ a b : Str, x = a ++ dg i ++ b ∧ Lt a ∧ Lt b ∧ 1 ≤ a.length ∧ a.length + b.length ≤ 8
theorem nm_cps {i : Nat} {x : Str} (hi : i ≤ 9) (h : Nm i x) : x.cps.toList.filter (fun c => decide (c < 97)) = [48 + i] := by
  obtain ⟨a, b, rfl, ha, hb, _⟩ := h
  rw [app_cps, app_cps, List.filter_append, List.filter_append, dg_facts i hi]
  have z : ∀ s : Str, Lt s → s.cps.toList.filter (fun c => decide (c < 97)) = [] := fun s hs => List.filter_eq_nil_iff.mpr fun c hc => by
    have := hs c hc
    simp
    omega
  rw [z a ha, z b hb]
  have : decide (48 + i < 97) = true := by simp; omega
  simp [List.filter, this]
theorem nm_ne {i j : Nat} {x y : Str} (hi : i ≤ 9) (hj : j ≤ 9) (hx : Nm i x) (hy : Nm j y) (h : i ≠ j) : x ≠ y := by
  intro e
  have h1 := nm_cps hi hx
  have h2 := nm_cps hj hy
  rw [e, h2] at h1
  have := List.head_eq_of_cons_eq h1
  omega
theorem nm_low {i : Nat} {x : Str} (hi : i ≤ 9) (h : Nm i x) : ∀ c ∈ x.cps.toList, 48 ≤ c ∧ c ≤ 122 := by
  obtain ⟨a, b, rfl, ha, hb, _⟩ := h
  intro c hc
  rw [app_cps, app_cps, dg_facts i hi] at hc
  rcases List.mem_append.mp hc with hc | hc
  · rcases List.mem_append.mp hc with hc | hc
    · have := ha c hc; omega
    · have : c = 48 + i := by simpa using hc
      omega
  · have := hb c hc; omega
theorem ok_low {x : Str} (h : ∀ c ∈ x.cps.toList, 48 ≤ c ∧ c ≤ 122) : okS x := by
  show x.cps.all (fun c => decide (c < 0x110000)) = true
  rw [← Array.all_toList, List.all_eq_true]
  intro c hc
  have := h c hc
  exact decide_eq_true (by omega)
theorem strs_any : ∀ {vs : List D}, (∀ v ∈ vs, ∃ x, v = .str x) → ∃ w : List Str, vs = w.map D.str
  | [], _ => ⟨[], rfl⟩
  | v :: vs, h => by
    obtain ⟨x, rfl⟩ := h v (by simp)
    obtain ⟨w, rfl⟩ := strs_any (vs := vs) fun u hu => h u (List.mem_cons_of_mem _ hu)
    exact ⟨x :: w, rfl⟩
def unS : D → Str
  | .str x => x
  | _ => ""
theorem unS_map (w : List Str) : (w.map D.str).map unS = w := by
  rw [List.map_map]
  exact List.map_id w
theorem strs_perm {es : List D} {w : List Str} (h : es.Perm (w.map D.str)) : ∃ xs : List Str, es = xs.map D.str ∧ xs.Perm w := by
  obtain ⟨xs, rfl⟩ := strs_any (vs := es) fun v hv => by
    obtain ⟨x, _, rfl⟩ := List.mem_map.mp (h.mem_iff.mp hv)
    exact ⟨x, rfl⟩
  refine ⟨xs, rfl, ?_⟩
  have := h.map unS
  rw [unS_map, unS_map] at this
  exact this
theorem call02 {F : aF} {pen pen' o : O} {d : D} {M : Option O} {rest : Store} (hd : ∃ kvs, pen = .dic kvs) (hF : F [pen, .sh d] = .ret o [pen', .sh d]) :
    aCall 2 [.pl 0, .pl 2] [] F (some pen :: M :: some (.sh d) :: rest) = .ok o (some pen' :: M :: some (.sh d) :: rest) := by
  obtain ⟨kvs, rfl⟩ := hd
  simp [aCall, evA, Res.bind, tak, giv, hF]
theorem rng_at {n k : Nat} {d : D} (h : (rngD 0 (n : Int).toNat)[k]? = some d) : k < n ∧ d = .int (k : Int) := by
  have hk : k < n := by have := (List.getElem?_eq_some_iff.mp h).1; simpa [rngD] using this
  refine ⟨hk, ?_⟩
  unfold rngD at h
  rw [List.getElem?_map, List.getElem?_range (by rw [Int.toNat_natCast]; exact hk)] at h
  simp at h
  exact h.symm
theorem nm_nodup {w : List Str} (hl : w.length ≤ 10) (h : ∀ k x, w[k]? = some x → Nm k x) : w.Nodup := by
  show w.Pairwise _
  rw [List.pairwise_iff_getElem]
  intro i j hi hj hij
  exact nm_ne (by omega) (by omega) (h i _ (List.getElem?_eq_getElem hi)) (h j _ (List.getElem?_eq_getElem hj)) (by omega)
theorem nm_oks {w : List Str} (hl : w.length ≤ 10) (h : ∀ k x, w[k]? = some x → Nm k x) : ∀ x ∈ w, ∀ c ∈ x.cps.toList, 48 ≤ c ∧ c ≤ 122 := by
  intro x hx
  obtain ⟨k, hk⟩ := List.getElem?_of_mem hx
  have := (List.getElem?_eq_some_iff.mp hk).1
  exact nm_low (by omega) (h k x hk)
theorem gList_oS (xs : List Str) : gList (oS xs) = some (.lst ((xs.map D.str).map O.sh)) := by
  have h : lstD (oS xs) = some (xs.map D.str) := shs_map _
  have e : gList (oS xs) = (match lstD (oS xs) with
      | some ds => some (O.lst (ds.map O.sh))
      | none => match dicD (oS xs) with
        | some kvs => some (O.lst ((kvs.map Prod.fst).map O.sh))
        | none => none) := rfl
  rw [e, h]
theorem nm_1 {i : Nat} {x : Str} (hi : i ≤ 9) (h : Nm i x) : nm1 x := by
  have hl := nm_low hi h
  obtain ⟨a, b, rfl, ha, hb, h1, h2⟩ := h
  refine ⟨?_, fun c hc => by have := hl c hc; omega⟩
  rw [len_cps, app_cps, app_cps, List.length_append, List.length_append, dg_facts i hi, ← len_cps, ← len_cps, List.length_singleton]
  omega
theorem nm_1s {w : List Str} (hl : w.length ≤ 10) (h : ∀ k x, w[k]? = some x → Nm k x) : ∀ x ∈ w, nm1 x := by
  intro x hx
  obtain ⟨k, hk⟩ := List.getElem?_of_mem hx
  have := (List.getElem?_eq_some_iff.mp hk).1
  exact nm_1 (by omega) (h k x hk)
theorem t_names {B n : Nat} {pen : O} (hp : PenOk B pen) (hB : B + 400 < 1099511627775) (hn : 1 ≤ n ∧ n ≤ 10) :
    ∃ (xs : List Str) (pen' : O), d__law_names [pen, .sh (.int (n : Int))] = .ret (oS xs) [pen', .sh (.int (n : Int))] ∧ xs.length = n ∧ xs.Nodup ∧ (∀ x ∈ xs, nm1 x) ∧ PenOk (B + 110) pen' := by
  have hlen : (rngD 0 (n : Int).toNat).length = n := by simp [rngD]
  have hN : ∀ {B : Nat} {pen : O} {i : Nat}, PenOk B pen → B + 10 < 1099511627775 → i ≤ 9 → ∃ (a b : Str) (pen' : O), d__law_name [pen, .sh (.int (i : Int))] = .ret (.sh (.str (a ++ dg i ++ b))) [pen', .sh (.int (i : Int))] ∧ Lt a ∧ Lt b ∧ 1 ≤ a.length ∧ a.length + b.length ≤ 8 ∧ PenOk (B + 10) pen' := t_name
  have hS : ∀ {B : Nat} {pen S : O} {ds : List D}, PenOk B pen → B + ds.length < 1099511627775 → gList S = some (.lst (ds.map O.sh)) → gLen S = some (.sh (.int ds.length)) → ds.length ≤ 500 →
    ∃ (es : List D) (pen' : O), d__law_shuffled [pen, S] = .ret (.lst (es.map O.sh)) [pen', S] ∧ es.Perm ds ∧ PenOk (B + ds.length) pen' := t_shuffled
  unfold d__law_names
  revert hN hS
  generalize d__law_name = F
  generalize d__law_shuffled = G
  intro hN hS
  obtain ⟨vs, pen2, e, hl, hv, hp2⟩ := aLcQ (src := aRng1 (aVar 1)) (i := 2) (c := 10) (ge := aCall 2 [.pl 0, .pl 2] [] F) (Pd := fun d v => ∃ (i : Nat) (x : Str), d = .int (i : Int) ∧ v = .str x ∧ Nm i x) (fun p => [some p, some (.sh (.int (n : Int))), none]) (fun _ => rfl) (fun d => ∃ i : Nat, i ≤ 9 ∧ d = .int (i : Int))
    (ρ0 := [some pen, some (.sh (.int (n : Int))), none]) (rng1_ok (var_ok rfl) (by omega)) (by rw [hlen]; omega) (fun d hd => by
      obtain ⟨k, hk⟩ := List.getElem?_of_mem hd
      obtain ⟨h1, h2⟩ := rng_at hk
      exact ⟨k, by omega, h2⟩) hp (by rw [hlen]; omega) (fun B pen d ⟨i, hi, ed⟩ h hB => by
      subst ed
      obtain ⟨a, b, pen', e, la, lb, l1, l2, hp'⟩ := hN (i := i) h (by omega) hi
      exact ⟨_, pen', _, call02 h.dic e, rfl, ⟨i, _, rfl, rfl, a, b, rfl, la, lb, l1, l2⟩, hp'⟩)
  rw [hlen] at hl hp2
  obtain ⟨w, rfl⟩ := strs_any (vs := vs) fun v hm => by
    obtain ⟨k, hk⟩ := List.getElem?_of_mem hm
    have hk2 : k < (rngD 0 (n : Int).toNat).length := by rw [hlen, ← hl]; exact (List.getElem?_eq_some_iff.mp hk).1
    obtain ⟨i, x, _, ex, _⟩ := hv k _ v (List.getElem?_eq_getElem hk2) hk
    exact ⟨x, ex⟩
  rw [List.length_map] at hl
  have hw : ∀ k x, w[k]? = some x → Nm k x := fun k x hk => by
    have hk2 : k < (rngD 0 (n : Int).toNat).length := by rw [hlen, ← hl]; exact (List.getElem?_eq_some_iff.mp hk).1
    obtain ⟨i, y, e1, e2, hy⟩ := hv k _ (.str x) (List.getElem?_eq_getElem hk2) (by rw [List.getElem?_map, hk]; rfl)
    have e3 := (rng_at (List.getElem?_eq_getElem hk2)).2
    rw [e3] at e1
    have : k = i := by injection e1 with e1; omega
    cases e2
    rw [this]
    exact hy
  obtain ⟨es, pen', e2, pm, hp'⟩ := hS (S := .lst ((w.map D.str).map O.sh)) (ds := w.map D.str) hp2 (by rw [List.length_map]; omega) (gList_oS w) (by show some _ = some _; rw [List.length_map]) (by rw [List.length_map]; omega)
  obtain ⟨xs, rfl, px⟩ := strs_perm pm
  refine ⟨xs, pen', def_ret rfl (ret_ok (callq hp2.dic e e2)) rfl, by rw [px.length_eq, hl], px.nodup_iff.mpr (nm_nodup (by omega) hw), fun x hx => nm_1s (by omega) hw x (px.mem_iff.mp hx), hp'.mono (by rw [List.length_map]; omega)⟩
theorem sort_strs {xs : List Str} (h : xs.length < 64) : gSortedS (oS xs) = some (oS (sortStr xs)) := by
  unfold gSortedS
  rw [lstD_oS]
  have : strsD (xs.map D.str) = some xs := by
    induction xs with
    | nil => rfl
    | cons x xs ih => simp [strsD, ih (by simp at h; omega)]
  simp only [this]
  rw [if_pos h]
  rfl
theorem gTuple_oS (xs : List Str) : gTuple (oS xs) = some (.sh (tS xs)) := gTuple_lst _
theorem t_calls {B n : Nat} {pen : O} (hp : PenOk B pen) (hB : B + 400 < 1099511627775) (hn : 1 ≤ n ∧ n ≤ 10) :
    ∃ (xs : List Str) (pen' : O), d__law_calls [pen, .sh (.int (n : Int))] = .ret (.sh (tS xs)) [pen', .sh (.int (n : Int))] ∧ xs.length = n ∧ xs.Nodup ∧ (∀ x ∈ xs, nm1 x) ∧ PenOk (B + 110) pen' := by
  obtain ⟨xs, pen', e, h1, h2, h3, h4⟩ := t_names hp hB hn
  have ps := sortStr_perm xs
  refine ⟨sortStr xs, pen', ?_, by rw [ps.length_eq, h1], ps.nodup_iff.mpr h2, fun x hx => h3 x (ps.mem_iff.mp hx), h4⟩
  unfold d__law_calls
  revert e
  generalize d__law_names = F
  intro e
  exact def_ret rfl (ret_ok (op1x_ok (op1x_ok (callpp (rest := []) hp.dic (.inl ⟨_, rfl⟩) e) (sort_strs (by omega))) (gTuple_oS _))) rfl
end Lw
end
section
open PySem L2 Den
namespace Lw
theorem var_fz {i : Nat} {ρ : Store} {o : O} (h : ρ[i]? = some (some o)) : aVar i ρ = .ok (.sh (fz o)) (ρ.set i (some (.sh (fz o)))) := by
  cases o with
  | sh d =>
    rw [var_ok h]
    simp only [fz]
    congr 1
    refine List.ext_getElem? fun j => ?_
    by_cases e : i = j
    · subst e
      rw [List.getElem?_set_self', h]
      rfl
    · rw [List.getElem?_set_ne e]
  | lst os => simp [aVar, h]
  | tup os => simp [aVar, h]
  | dic os => simp [aVar, h]
  | obj c os => simp [aVar, h]
theorem items_ok {g : aE} {ρ ρ' : Store} {o : O} {ds : List D} (h : g ρ = .ok o ρ') (hi : itemsD o = some ds) : aItems g ρ = .ok ds ρ' := by
  unfold aItems
  rw [h]
  simp only [Res.bind, hi]
theorem lit_oI2 {a b : Int} {ρ : Store} : aOp [.ex (aC (.int a)), .ex (aC (.int b))] gLstS ρ = .ok (oI [a, b]) ρ := by simp [aOp, evA, aC, Res.bind, rsv, gLstS, shs, oI]
theorem lit_oI3 {a b c : Int} {ρ : Store} : aOp [.ex (aC (.int a)), .ex (aC (.int b)), .ex (aC (.int c))] gLstS ρ = .ok (oI [a, b, c]) ρ := by simp [aOp, evA, aC, Res.bind, rsv, gLstS, shs, oI]
theorem lit_oI6 {a b c d e f : Int} {ρ : Store} : aOp [.ex (aC (.int a)), .ex (aC (.int b)), .ex (aC (.int c)), .ex (aC (.int d)), .ex (aC (.int e)), .ex (aC (.int f))] gLstS ρ = .ok (oI [a, b, c, d, e, f]) ρ := by simp [aOp, evA, aC, Res.bind, rsv, gLstS, shs, oI]
theorem lit_oS2 {a b : Str} {ρ : Store} : aOp [.ex (aC (.str a)), .ex (aC (.str b))] gLstS ρ = .ok (oS [a, b]) ρ := by simp [aOp, evA, aC, Res.bind, rsv, gLstS, shs, oS]
theorem pick_oI {B : Nat} {pen : O} {xs : List Int} (hp : PenOk B pen) (hB : B < 1099511627775) (hn : xs ≠ []) (hl : xs.length ≤ 1000) :
    ∃ (x : Int) (pen' : O), d__law_pick [pen, oI xs] = .ret (.sh (.int x)) [pen', oI xs] ∧ x ∈ xs ∧ PenOk (B + 1) pen' := by
  have h0 : 0 < xs.length := List.length_pos_iff.mpr hn
  obtain ⟨d, pen', e, ⟨x, hx, rfl⟩, hp'⟩ := t_pick (S := oI xs) (n := xs.length) (Pd := fun d => ∃ x ∈ xs, d = .int x) hp hB (gLen_oI xs) ⟨h0, by omega⟩ (fun k hk => ⟨.int xs[k], gIx_oI (List.getElem?_eq_getElem hk), xs[k], List.getElem_mem hk, rfl⟩)
  exact ⟨x, pen', e, hx, hp'⟩
theorem pick_oS {B : Nat} {pen : O} {xs : List Str} (hp : PenOk B pen) (hB : B < 1099511627775) (hn : xs ≠ []) (hl : xs.length ≤ 1000) :
    ∃ (x : Str) (pen' : O), d__law_pick [pen, oS xs] = .ret (.sh (.str x)) [pen', oS xs] ∧ x ∈ xs ∧ PenOk (B + 1) pen' := by
  have h0 : 0 < xs.length := List.length_pos_iff.mpr hn
  obtain ⟨d, pen', e, ⟨x, hx, rfl⟩, hp'⟩ := t_pick (S := oS xs) (n := xs.length) (Pd := fun d => ∃ x ∈ xs, d = .str x) hp hB (gLen_oS xs) ⟨h0, by omega⟩ (fun k hk => ⟨.str xs[k], gIx_oS (List.getElem?_eq_getElem hk), xs[k], List.getElem_mem hk, rfl⟩)
  exact ⟨x, pen', e, hx, hp'⟩
theorem ife_yes {p : aT} {g h : aE} {ρ ρ' : Store} (hp : p ρ = .ok true ρ') : aIfE p g h ρ = g ρ' := by simp [aIfE, hp, Res.bind]
theorem ife_no {p : aT} {g h : aE} {ρ ρ' : Store} (hp : p ρ = .ok false ρ') : aIfE p g h ρ = h ρ' := by simp [aIfE, hp, Res.bind]
theorem b_ok {g : aE} {ρ ρ' : Store} {b : Bool} (h : g ρ = .ok (.sh (.bl b)) ρ') : aB g ρ = .ok b ρ' := by simp [aB, h, Res.bind]
/-- len(S) > 1 -/
theorem more1 {i : Nat} {ρ : Store} {cs : List Str} (h : ρ[i]? = some (some (.sh (tS cs)))) : aB (aOp [.ex (aOp [.pl i] (l1 gLen)), .ex (aC (.int 1))] (l2 gGt)) ρ = .ok (decide (1 < cs.length)) ρ := by
  refine b_ok (op_xx (op1_ok h (gLen_tS cs)) rfl ?_)
  show some _ = some _
  congr 3
  by_cases hh : 1 < cs.length
  · have : (1 : Int) < cs.length := by omega
    simp [hh, this]
  · have : ¬ (1 : Int) < cs.length := by omega
    simp [hh, this]
theorem more1y {i : Nat} {ρ : Store} {cs : List Str} (h : ρ[i]? = some (some (.sh (tS cs)))) (h1 : 1 < cs.length) : aB (aOp [.ex (aOp [.pl i] (l1 gLen)), .ex (aC (.int 1))] (l2 gGt)) ρ = .ok true ρ := by
  rw [more1 h, decide_eq_true h1]
theorem more1n {i : Nat} {ρ : Store} {cs : List Str} (h : ρ[i]? = some (some (.sh (tS cs)))) (h1 : ¬ 1 < cs.length) : aB (aOp [.ex (aOp [.pl i] (l1 gLen)), .ex (aC (.int 1))] (l2 gGt)) ρ = .ok false ρ := by
  rw [more1 h, decide_eq_false h1]
theorem asg_ok {g : aE} {tg : aG} {ρ ρ1 ρ2 : Store} {o : O} (h : g ρ = .ok o ρ1) (h2 : tg (fz o) ρ1 = some ρ2) : sAsg g tg ρ = .nx ρ2 := by
  unfold sAsg
  rw [h]
  simp only [Res.out, h2]
/-- 1 + a draw below one of xs -/
theorem one_draw {B : Nat} {pen : O} {xs : List Int} {lit : aE} {rest : Store} (hl : ∀ ρ, lit ρ = .ok (oI xs) ρ) (hp : PenOk B pen) (hB : B + 2 < 1099511627775) (hn : xs ≠ []) (hx : ∀ x ∈ xs, 0 < x ∧ x ≤ 1000) (hxl : xs.length ≤ 1000) :
    ∃ (n : Nat) (pen' : O), aOp [.ex (aC (.int 1)), .ex (aCall 2 [.pl 0, .ex (aCall 2 [.pl 0, .ex lit] [] d__law_pick)] [] d__law_draw)] (l2 gAdd) (some pen :: rest) = .ok (.sh (.int (n : Int))) (some pen' :: rest) ∧ 0 < n ∧ (∃ x ∈ xs, (n : Int) ≤ x) ∧ PenOk (B + 2) pen' := by
  obtain ⟨x, pen1, e1, hm, hp1⟩ := pick_oI (xs := xs) hp (by omega) hn hxl
  obtain ⟨r, pen2, e2, r0, r1, hp2⟩ := t_draw (many := x) hp1 (by omega) (by have := hx x hm; omega)
  obtain ⟨k, rfl⟩ := Int.eq_ofNat_of_zero_le r0
  refine ⟨1 + k, pen2, ?_, by omega, ⟨x, hm, by omega⟩, hp2⟩
  revert e1 e2
  generalize d__law_pick = P
  generalize d__law_draw = G
  intro e1 e2
  refine op_xx rfl (callq hp1.dic (callp (F := P) hp.dic (hl _) e1) e2) ?_
  show some _ = some _
  congr 3
/-- 1 + a draw below m -/
theorem one_draw1 {B m : Nat} {pen : O} {rest : Store} (hp : PenOk B pen) (hB : B + 2 < 1099511627775) (hm : 0 < m ∧ m ≤ 1000) :
    ∃ (n : Nat) (pen' : O), aOp [.ex (aC (.int 1)), .ex (aCall 2 [.pl 0, .ex (aC (.int (m : Int)))] [] d__law_draw)] (l2 gAdd) (some pen :: rest) = .ok (.sh (.int (n : Int))) (some pen' :: rest) ∧ 0 < n ∧ n ≤ m ∧ PenOk (B + 1) pen' := by
  obtain ⟨r, pen2, e2, r0, r1, hp2⟩ := t_draw (many := (m : Int)) hp (by omega) (by omega)
  obtain ⟨k, rfl⟩ := Int.eq_ofNat_of_zero_le r0
  refine ⟨1 + k, pen2, ?_, by omega, by omega, hp2⟩
  revert e2
  generalize d__law_draw = G
  intro e2
  refine op_xx rfl (callp (F := G) hp.dic rfl e2) ?_
  show some _ = some _
  congr 3
section
variable {B : Nat} {pen : O} {cs : List Str} (hp : PenOk B pen) (hB : B + 100 < 1099511627775) (h1 : 1 ≤ cs.length) (h4 : cs.length ≤ 6)
include hp hB h1 h4
theorem sp_way {r3 r4 r5 r6 r7 r8 : Option O} : ∃ (k : Nat) (pen' : O), sSet 2 (aIfE (aB (aOp [.ex (aOp [.pl 1] (l1 gLen)), .ex (aC (.int 1))] (l2 gGt))) (aCall 2 [.pl 0, .ex (aC (.int 6))] [] (d__law_draw)) (aCall 2 [.pl 0, .ex (aOp [.ex (aC (.int 0)), .ex (aC (.int 4))] gLstS)] [] (d__law_pick))) [some pen, some (.sh (tS cs)), none, r3, r4, r5, r6, r7, r8] =
    .nx [some pen', some (.sh (tS cs)), some (.sh (.int (k : Int))), r3, r4, r5, r6, r7, r8] ∧ (k = 0 ∨ k = 4 ∨ (1 < cs.length ∧ (k = 1 ∨ k = 2 ∨ k = 3 ∨ k = 5))) ∧ PenOk (B + 1) pen' := by
  by_cases h : 1 < cs.length
  · obtain ⟨r, pen', e, r0, r1, hp'⟩ := t_draw (many := 6) hp (by omega) (by omega)
    obtain ⟨k, rfl⟩ := Int.eq_ofNat_of_zero_le r0
    refine ⟨k, pen', ?_, by omega, hp'⟩
    revert e
    generalize d__law_draw = G
    intro e
    exact set_ok (i := 2) ((ife_yes (more1y (i := 1) rfl h)).trans (callp (F := G) hp.dic rfl e)) (by simp)
  · obtain ⟨x, pen', e, hx, hp'⟩ := pick_oI (xs := [0, 4]) hp (by omega) (by simp) (by simp)
    have hx2 : x = 0 ∨ x = 4 := by simpa using hx
    obtain ⟨k, rfl⟩ := Int.eq_ofNat_of_zero_le (show 0 ≤ x by omega)
    refine ⟨k, pen', ?_, by omega, hp'⟩
    revert e
    generalize d__law_pick = G
    intro e
    exact set_ok (i := 2) ((ife_no (more1n (i := 1) rfl h)).trans (callp (F := G) hp.dic lit_oI2 e)) (by simp)
theorem sp_two (hn : cs.Nodup) {M r3 r4 r5 r6 r7 r8 : Option O} : ∃ (a : Str) (b : D) (pen' : O), sAsg (aIfE (aB (aOp [.ex (aOp [.pl 1] (l1 gLen)), .ex (aC (.int 1))] (l2 gGt))) (aSl (.ex (aCall 2 [.pl 0, .pl 1] [] (d__law_shuffled))) none (some (aC (.int 2))) gSl) (aOp [.ex (aFz (aOp [.pl 1, .ex (aC (.int 0))] (l2 gIx))), .ex (aC .non)] Den.gTup)) (aUnp [(aN 5), (aN 6)]) [some pen, some (.sh (tS cs)), M, r3, r4, r5, r6, r7, r8] =
    .nx [some pen', some (.sh (tS cs)), M, r3, r4, some (.sh (.str a)), some (.sh b), r7, r8] ∧ a ∈ cs ∧ (1 < cs.length → ∃ c ∈ cs, c ≠ a ∧ b = .str c) ∧ PenOk (B + 6) pen' := by
  by_cases h : 1 < cs.length
  · obtain ⟨es, pen', e, pm, hp'⟩ := t_shuffled (S := .sh (tS cs)) (ds := cs.map D.str) hp (by rw [List.length_map]; omega) rfl (by rw [List.length_map]; exact gLen_tS cs) (by rw [List.length_map]; omega)
    obtain ⟨ys, rfl, py⟩ := strs_perm pm
    have hl := py.length_eq
    match ys, py, hl, e with
    | [], _, hl, _ => simp at hl; omega
    | [_], _, hl, _ => simp at hl; omega
    | a :: c :: r, py, hl, e =>
      have nd := py.nodup_iff.mpr hn
      have hne : c ≠ a := fun z => by simp [z] at nd
      refine ⟨a, .str c, pen', ?_, py.mem_iff.mp (by simp), fun _ => ⟨c, py.mem_iff.mp (by simp), hne, rfl⟩, hp'.mono (by rw [List.length_map]; omega)⟩
      revert e
      generalize d__law_shuffled = G
      intro e
      have hs : aSl (.ex (aCall 2 [.pl 0, .pl 1] [] G)) none (some (aC (.int 2))) gSl [some pen, some (.sh (tS cs)), M, r3, r4, r5, r6, r7, r8] = .ok (.lst ([D.str a, .str c].map O.sh)) [some pen', some (.sh (tS cs)), M, r3, r4, r5, r6, r7, r8] := by
        have c1 := callpp (F := G) (rest := [M, r3, r4, r5, r6, r7, r8]) hp.dic (.inl ⟨_, rfl⟩) e
        refine sl_to (ρ1 := [some pen', some (.sh (tS cs)), M, r3, r4, r5, r6, r7, r8]) (rs := [.o (.lst (((a :: c :: r).map D.str).map O.sh))]) (j := 2) ?_ rfl rfl ?_
        · simp [evA, c1, Res.bind]
        · rw [gSl_lst]
          have : cutD ((a :: c :: r).map D.str) none (some 2) = [.str a, .str c] := cut_to _ 2
          rw [this]
      exact asg_ok ((ife_yes (more1y (i := 1) rfl h)).trans hs) rfl
  · match cs, h1, h with
    | [], h1, _ => simp at h1
    | a :: c :: r, _, h => simp at h
    | [a], _, _ =>
      refine ⟨a, .non, pen, ?_, by simp, fun z => by simp at z, hp.mono (by omega)⟩
      generalize d__law_shuffled = G
      have m := more1n (i := 1) (cs := [a]) (ρ := [some pen, some (.sh (tS [a])), M, r3, r4, r5, r6, r7, r8]) rfl (by simp)
      refine asg_ok (o := .sh (.tup [.str a, .non])) (ρ1 := [some pen, some (.sh (tS [a])), M, r3, r4, r5, r6, r7, r8]) ((ife_no m).trans ?_) rfl
      · have g0 : gIx (.sh (tS [a])) (.sh (.int 0)) = some (.sh (.str a)) := rfl
        simp only [aDef, pre, outs, List.map_cons, List.map_nil, List.replicate, List.cons_append, List.nil_append, List.length_cons, List.length_nil, sSeq, sSet, sRet, sRetN, sIf, sDrop, sPar, sAsg, sNext, aB, aC, aVar, aMove, aFz, aTV, aNot, aAnd, aOr, aIfE, aAndV, aOrV, aOp, aSl, aP, evA, rsv, l1, l2, Res.bind, Res.out, List.getElem?_cons_zero, List.getElem?_cons_succ, List.set_cons_zero, List.set_cons_succ, Option.map_some, Option.map_none, fz, shs, if_true, if_false, ite_true, ite_false, Bool.false_eq_true, reduceIte, reduceCtorEq, Nat.reduceAdd, Nat.reduceSub, Nat.reduceLT, Nat.reduceLeDiff, Nat.reduceEqDiff, Bool.not_true, Bool.not_false, Nat.sub_self, Nat.zero_add, and_self, true_and, and_true, Nat.lt_add_one, decide_true, decide_false, decide_eq_true_eq , gSl_tS, gLen_tS, gLen_lS, gTup_str, gIn_tS, gNotIn_tS, gIn_lS, gNotIn_lS, gEq_int, gEq_str, gNe_int, gNe_str, cut_from, cut_to , gTup_str2, gIx_tup, atI_0, atI_1, atI_2, atI_3, gSl_tup, List.mem_cons, List.not_mem_nil, or_false, false_or, true_or, or_true, not_true_eq_false, not_false_eq_true , aCall, tak, giv, List.append_nil, aMeth, k_never_until, k_never_after, k_never_turns, k_never_most, k_never_within, k_never_and, k_never_or, k_until_never, k_until_after, k_until_turns, k_until_most, k_until_within, k_until_and, k_until_or, k_after_never, k_after_until, k_after_turns, k_after_most, k_after_within, k_after_and, k_after_or, k_turns_never, k_turns_until, k_turns_after, k_turns_most, k_turns_within, k_turns_and, k_turns_or, k_most_never, k_most_until, k_most_after, k_most_turns, k_most_within, k_most_and, k_most_or, k_within_never, k_within_until, k_within_after, k_within_turns, k_within_most, k_within_and, k_within_or, k_and_never, k_and_until, k_and_after, k_and_turns, k_and_most, k_and_within, k_and_or, k_or_never, k_or_until, k_or_after, k_or_turns, k_or_most, k_or_within, k_or_and, g0, Den.gTup]
theorem sp_rest {a : Str} {M r4 r6 r8 : Option O} : sSet 3 (aLc (aItems (aVar 1)) [7] (aN 7) (aB (aOp [.pl 7, .pl 5] (l2 gNe))) (aVar 7)) [some pen, some (.sh (tS cs)), M, none, r4, some (.sh (.str a)), r6, none, r8] =
    .nx [some pen, some (.sh (tS cs)), M, some (oS (cs.filter fun y => !decide (y = a))), r4, some (.sh (.str a)), r6, none, r8] := by
  refine set_ok (i := 3) (ρ' := [some pen, some (.sh (tS cs)), M, none, r4, some (.sh (.str a)), r6, none, r8]) ?_ (by simp)
  refine aLc_fS (fun y => !decide (y = a)) (items_ok (var_ok rfl) (itemsD_tS cs)) (by omega) rfl (fun y _ => ?_) (fun y _ => ?_)
  · simp only [aDef, pre, outs, List.map_cons, List.map_nil, List.replicate, List.cons_append, List.nil_append, List.length_cons, List.length_nil, sSeq, sSet, sRet, sRetN, sIf, sDrop, sPar, sAsg, sNext, aB, aC, aVar, aMove, aFz, aTV, aNot, aAnd, aOr, aIfE, aAndV, aOrV, aOp, aSl, aP, evA, rsv, l1, l2, Res.bind, Res.out, List.getElem?_cons_zero, List.getElem?_cons_succ, List.set_cons_zero, List.set_cons_succ, Option.map_some, Option.map_none, fz, shs, if_true, if_false, ite_true, ite_false, Bool.false_eq_true, reduceIte, reduceCtorEq, Nat.reduceAdd, Nat.reduceSub, Nat.reduceLT, Nat.reduceLeDiff, Nat.reduceEqDiff, Bool.not_true, Bool.not_false, Nat.sub_self, Nat.zero_add, and_self, true_and, and_true, Nat.lt_add_one, decide_true, decide_false, decide_eq_true_eq , gSl_tS, gLen_tS, gLen_lS, gTup_str, gIn_tS, gNotIn_tS, gIn_lS, gNotIn_lS, gEq_int, gEq_str, gNe_int, gNe_str, cut_from, cut_to , gTup_str2, gIx_tup, atI_0, atI_1, atI_2, atI_3, gSl_tup, List.mem_cons, List.not_mem_nil, or_false, false_or, true_or, or_true, not_true_eq_false, not_false_eq_true , aCall, tak, giv, List.append_nil, aMeth, k_never_until, k_never_after, k_never_turns, k_never_most, k_never_within, k_never_and, k_never_or, k_until_never, k_until_after, k_until_turns, k_until_most, k_until_within, k_until_and, k_until_or, k_after_never, k_after_until, k_after_turns, k_after_most, k_after_within, k_after_and, k_after_or, k_turns_never, k_turns_until, k_turns_after, k_turns_most, k_turns_within, k_turns_and, k_turns_or, k_most_never, k_most_until, k_most_after, k_most_turns, k_most_within, k_most_and, k_most_or, k_within_never, k_within_until, k_within_after, k_within_turns, k_within_most, k_within_and, k_within_or, k_and_never, k_and_until, k_and_after, k_and_turns, k_and_most, k_and_within, k_and_or, k_or_never, k_or_until, k_or_after, k_or_turns, k_or_most, k_or_within, k_or_and]
  · simp only [aDef, pre, outs, List.map_cons, List.map_nil, List.replicate, List.cons_append, List.nil_append, List.length_cons, List.length_nil, sSeq, sSet, sRet, sRetN, sIf, sDrop, sPar, sAsg, sNext, aB, aC, aVar, aMove, aFz, aTV, aNot, aAnd, aOr, aIfE, aAndV, aOrV, aOp, aSl, aP, evA, rsv, l1, l2, Res.bind, Res.out, List.getElem?_cons_zero, List.getElem?_cons_succ, List.set_cons_zero, List.set_cons_succ, Option.map_some, Option.map_none, fz, shs, if_true, if_false, ite_true, ite_false, Bool.false_eq_true, reduceIte, reduceCtorEq, Nat.reduceAdd, Nat.reduceSub, Nat.reduceLT, Nat.reduceLeDiff, Nat.reduceEqDiff, Bool.not_true, Bool.not_false, Nat.sub_self, Nat.zero_add, and_self, true_and, and_true, Nat.lt_add_one, decide_true, decide_false, decide_eq_true_eq , gSl_tS, gLen_tS, gLen_lS, gTup_str, gIn_tS, gNotIn_tS, gIn_lS, gNotIn_lS, gEq_int, gEq_str, gNe_int, gNe_str, cut_from, cut_to , gTup_str2, gIx_tup, atI_0, atI_1, atI_2, atI_3, gSl_tup, List.mem_cons, List.not_mem_nil, or_false, false_or, true_or, or_true, not_true_eq_false, not_false_eq_true , aCall, tak, giv, List.append_nil, aMeth, k_never_until, k_never_after, k_never_turns, k_never_most, k_never_within, k_never_and, k_never_or, k_until_never, k_until_after, k_until_turns, k_until_most, k_until_within, k_until_and, k_until_or, k_after_never, k_after_until, k_after_turns, k_after_most, k_after_within, k_after_and, k_after_or, k_turns_never, k_turns_until, k_turns_after, k_turns_most, k_turns_within, k_turns_and, k_turns_or, k_most_never, k_most_until, k_most_after, k_most_turns, k_most_within, k_most_and, k_most_or, k_within_never, k_within_until, k_within_after, k_within_turns, k_within_most, k_within_and, k_within_or, k_and_never, k_and_until, k_and_after, k_and_turns, k_and_most, k_and_within, k_and_or, k_or_never, k_or_until, k_or_after, k_or_turns, k_or_most, k_or_within, k_or_and]
end
theorem call03 {F : aF} {pen pen' o : O} {os : List O} {x1 x2 : Option O} {rest : Store} (hd : ∃ kvs, pen = .dic kvs) (hF : F [pen, .lst os] = .ret o [pen', .lst os]) :
    aCall 2 [.pl 0, .pl 3] [] F (some pen :: x1 :: x2 :: some (.lst os) :: rest) = .ok o (some pen' :: x1 :: x2 :: some (.lst os) :: rest) := by
  obtain ⟨kvs, rfl⟩ := hd
  simp [aCall, evA, Res.bind, tak, giv, hF]
theorem call03c {F : aF} {pen pen' o : O} {d : D} {os : List O} {x1 x2 : Option O} {rest : Store} (hd : ∃ kvs, pen = .dic kvs) (hF : F [pen, .lst os, .sh d] = .ret o [pen', .lst os, .sh d]) :
    aCall 3 [.pl 0, .pl 3, .ex (aC d)] [] F (some pen :: x1 :: x2 :: some (.lst os) :: rest) = .ok o (some pen' :: x1 :: x2 :: some (.lst os) :: rest) := by
  obtain ⟨kvs, rfl⟩ := hd
  simp [aCall, evA, aC, Res.bind, tak, giv, hF]
/-- tuple([pick(pen, S) for .. in range(n)]) -/
theorem sp_word {B n : Nat} {xs : List Str} {call g : aE} {st : O → Store} {pen0 pen : O} (hp : PenOk B pen) (hB : B + n + 10 < 1099511627775) (hn : 0 < n ∧ n ≤ 100) (hst : ∀ p, (st p)[8]? = some none)
    (hg : g (st pen0) = .ok (.sh (.int (n : Int))) (st pen)) (hc : ∀ (B : Nat) (pen : O) (d : D), PenOk B pen → B < 1099511627775 → ∃ (x : Str) (pen' : O), call ((st pen).set 8 (some (.sh d))) = .ok (.sh (.str x)) ((st pen').set 8 (some (.sh d))) ∧ x ∈ xs ∧ PenOk (B + 1) pen') :
    ∃ (w : List Str) (pen' : O), aFz (aOp [.ex (aLc (aRng1 g) [8] (aN 8) aYes call)] (l1 gTuple)) (st pen0) = .ok (.sh (tS w)) (st pen') ∧ w.length = n ∧ (∀ x ∈ w, x ∈ xs) ∧ PenOk (B + n) pen' := by
  have hlen : (rngD 0 (n : Int).toNat).length = n := by simp [rngD]
  obtain ⟨vs, pen', e, hl, hv, hp'⟩ := aLcP (i := 8) (ge := call) (Pd := fun v => ∃ x ∈ xs, v = .str x) st hst (rng1_ok hg (by omega)) (by rw [hlen]; omega) hp (by rw [hlen]; omega) (fun B pen d h hB => by
    obtain ⟨x, pen', e, hx, hp'⟩ := hc B pen d h hB
    exact ⟨.str x, pen', _, e, rfl, ⟨x, hx, rfl⟩, hp'⟩)
  obtain ⟨w, rfl, hw⟩ := strs_of hv
  rw [hlen] at hl hp'
  exact ⟨w, pen', fz_ok (op1x_ok e (gTuple_lst _)), by rw [← hl, List.length_map], hw, hp'⟩
theorem op_n2 {g : List O → Option O} {d1 : D} {g2 : aE} {ρ ρ2 : Store} {v w : O} (h2 : g2 ρ = .ok v ρ2) (hf : g [.sh d1, v] = some w) : aOp [.ex (aC d1), .ex g2] g ρ = .ok w ρ2 := by
  simp [aOp, evA, aC, h2, Res.bind, rsv, hf]
theorem op_n3 {g : List O → Option O} {d1 : D} {g2 g3 : aE} {ρ ρ1 ρ2 : Store} {v u w : O} (h2 : g2 ρ = .ok v ρ1) (h3 : g3 ρ1 = .ok u ρ2) (hf : g [.sh d1, v, u] = some w) : aOp [.ex (aC d1), .ex g2, .ex g3] g ρ = .ok w ρ2 := by
  simp [aOp, evA, aC, h2, h3, Res.bind, rsv, hf]
theorem op_n4 {g : List O → Option O} {d1 : D} {g2 g3 g4 : aE} {ρ ρ1 ρ2 ρ3 : Store} {v u x w : O} (h2 : g2 ρ = .ok v ρ1) (h3 : g3 ρ1 = .ok u ρ2) (h4 : g4 ρ2 = .ok x ρ3) (hf : g [.sh d1, v, u, x] = some w) : aOp [.ex (aC d1), .ex g2, .ex g3, .ex g4] g ρ = .ok w ρ3 := by
  simp [aOp, evA, aC, h2, h3, h4, Res.bind, rsv, hf]
section
variable {B k n : Nat} {pen : O} {cs rest : List Str} {a : Str} {b : D} (hp : PenOk B pen) (hB : B + 100 < 1099511627775)
include hp hB
theorem sp_never (hne : cs ≠ []) (hl : cs.length ≤ 6) : ∃ (w : List Str) (pen' : O), sRet (aOp [.ex (aC (.str "never")), .ex (aFz (aOp [.ex (aLc (aRng1 (aOp [.ex (aC (.int 1)), .ex (aCall 2 [.pl 0, .ex (aCall 2 [.pl 0, .ex (aOp [.ex (aC (.int 2)), .ex (aC (.int 3)), .ex (aC (.int 5))] gLstS)] [] (d__law_pick))] [] (d__law_draw))] (l2 gAdd))) [8] (aN 8) aYes (aCall 2 [.pl 0, .pl 1] [] (d__law_pick)))] (l1 gTuple)))] Den.gTup) [some pen, some (.sh (tS cs)), some (.sh (.int k)), some (oS rest), some (.sh (.int n)), some (.sh (.str a)), some (.sh b), none, none] =
    .ret (.sh (Pl.never w).d) [some pen', some (.sh (tS cs)), some (.sh (.int k)), some (oS rest), some (.sh (.int n)), some (.sh (.str a)), some (.sh b), none, none] ∧ w ≠ [] ∧ w.length ≤ 5 ∧ (∀ x ∈ w, x ∈ cs) ∧ PenOk (B + 10) pen' := by
  obtain ⟨m, pen1, e1, m0, ⟨x, hx, mx⟩, hp1⟩ := one_draw (xs := [2, 3, 5]) (rest := [some (.sh (tS cs)), some (.sh (.int k)), some (oS rest), some (.sh (.int n)), some (.sh (.str a)), some (.sh b), none, none]) (fun ρ => lit_oI3) hp (by omega) (by simp) (by simp) (by simp)
  have m5 : m ≤ 5 := by
    simp at hx
    omega
  obtain ⟨w, pen', e2, hl2, hw, hp'⟩ := sp_word (xs := cs) (call := aCall 2 [.pl 0, .pl 1] [] d__law_pick) (st := fun p => [some p, some (.sh (tS cs)), some (.sh (.int k)), some (oS rest), some (.sh (.int n)), some (.sh (.str a)), some (.sh b), none, none]) (pen0 := pen) hp1 (by omega) ⟨m0, by omega⟩ (fun _ => rfl) e1 (fun B pen d h hB => by
    obtain ⟨x, pen', e, hx, hp'⟩ := pick_tS h hB hne (by omega)
    exact ⟨x, pen', callpp h.dic (.inl ⟨_, rfl⟩) e, hx, hp'⟩)
  refine ⟨w, pen', ret_ok (op_n2 e2 ?_), (fun z => by simp [z] at hl2; omega), by omega, hw, hp'.mono (by omega)⟩
  simp [Den.gTup, shs, Pl.d]
theorem sp_until (hne : rest ≠ []) (hl : rest.length ≤ 6) : ∃ (w : List Str) (pen' : O), sRet (aOp [.ex (aC (.str "until")), .ex (aVar 5), .ex (aFz (aOp [.ex (aLc (aRng1 (aOp [.ex (aC (.int 1)), .ex (aCall 2 [.pl 0, .ex (aC (.int 3))] [] (d__law_draw))] (l2 gAdd))) [8] (aN 8) aYes (aCall 2 [.pl 0, .pl 3] [] (d__law_pick)))] (l1 gTuple)))] Den.gTup) [some pen, some (.sh (tS cs)), some (.sh (.int k)), some (oS rest), some (.sh (.int n)), some (.sh (.str a)), some (.sh b), none, none] =
    .ret (.sh (Pl.until a w).d) [some pen', some (.sh (tS cs)), some (.sh (.int k)), some (oS rest), some (.sh (.int n)), some (.sh (.str a)), some (.sh b), none, none] ∧ w ≠ [] ∧ w.length ≤ 5 ∧ (∀ x ∈ w, x ∈ rest) ∧ PenOk (B + 10) pen' := by
  obtain ⟨m, pen1, e1, m0, mx, hp1⟩ := one_draw1 (m := 3) (rest := [some (.sh (tS cs)), some (.sh (.int k)), some (oS rest), some (.sh (.int n)), some (.sh (.str a)), some (.sh b), none, none]) hp (by omega) (by omega)
  obtain ⟨w, pen', e2, hl2, hw, hp'⟩ := sp_word (xs := rest) (call := aCall 2 [.pl 0, .pl 3] [] d__law_pick) (st := fun p => [some p, some (.sh (tS cs)), some (.sh (.int k)), some (oS rest), some (.sh (.int n)), some (.sh (.str a)), some (.sh b), none, none]) (pen0 := pen) hp1 (by omega) ⟨m0, by omega⟩ (fun _ => rfl) e1 (fun B pen d h hB => by
    obtain ⟨x, pen', e, hx, hp'⟩ := pick_oS h hB hne (by omega)
    exact ⟨x, pen', call03 h.dic e, hx, hp'⟩)
  refine ⟨w, pen', ret_ok (op_n3 (var_ok rfl) e2 ?_), (fun z => by simp [z] at hl2; omega), by omega, hw, hp'.mono (by omega)⟩
  simp [Den.gTup, shs, Pl.d]
theorem sp_most (hl : rest.length ≤ 6) : ∃ (ys : List Str) (pen' : O), sRet (aOp [.ex (aC (.str "most")), .ex (aVar 4), .ex (aVar 5), .ex (aFz (aOp [.ex (aOp [.ex (aCall 3 [.pl 0, .pl 3, .ex (aC (.int 3))] [] (d__law_some))] (l1 gSortedS))] (l1 gTuple)))] Den.gTup) [some pen, some (.sh (tS cs)), some (.sh (.int k)), some (oS rest), some (.sh (.int n)), some (.sh (.str a)), some (.sh b), none, none] =
    .ret (.sh (Pl.most n a ys).d) [some pen', some (.sh (tS cs)), some (.sh (.int k)), some (oS rest), some (.sh (.int n)), some (.sh (.str a)), some (.sh b), none, none] ∧ ys.length ≤ 3 ∧ (∀ x ∈ ys, x ∈ rest) ∧ PenOk (B + 10) pen' := by
  obtain ⟨es, pen', e, hl2, ⟨r, pm⟩, hp'⟩ := t_some (S := oS rest) (ds := rest.map D.str) (most := 3) hp (by rw [List.length_map]; omega) (.inr ⟨_, rfl⟩) (gList_oS rest) (by rw [List.length_map]; exact gLen_oS rest) (by rw [List.length_map]; omega) (by omega)
  obtain ⟨zs, rfl⟩ := strs_any (vs := es) fun v hv => by
    obtain ⟨x, _, rfl⟩ := List.mem_map.mp (pm.mem_iff.mp (List.mem_append_left r hv))
    exact ⟨x, rfl⟩
  rw [List.length_map] at hl2
  have ps := sortStr_perm zs
  refine ⟨sortStr zs, pen', ?_, by rw [ps.length_eq]; exact hl2, fun x hx => ?_, hp'.mono (by rw [List.length_map]; omega)⟩
  · revert e
    generalize d__law_some = G
    intro e
    refine ret_ok (op_n4 (var_ok rfl) (var_ok rfl) (fz_ok (op1x_ok (op1x_ok (call03c hp.dic e) (sort_strs (by omega))) (gTuple_oS _))) ?_)
    simp [Den.gTup, shs, fz, Pl.d]
  · have hx2 : x ∈ zs := ps.mem_iff.mp hx
    have := pm.mem_iff.mp (List.mem_append_left r (List.mem_map_of_mem (f := D.str) hx2))
    obtain ⟨y, hy, e⟩ := List.mem_map.mp this
    cases e
    exact hy
end
theorem sp_row {pen R : O} {k : Nat} {n : Int} {a c : Str} {C : D} (hk : k = 2 ∨ k = 3 ∨ k = 5) :
    sRet (aOp [.ex (aOp [.ex (aC .non), .ex (aC .non), .ex (aFz (aOp [.ex (aC (.str "after")), .ex (aVar 5), .ex (aVar 6)] Den.gTup)), .ex (aFz (aOp [.ex (aC (.str "turns")), .ex (aVar 5), .ex (aVar 6)] Den.gTup)), .ex (aC .non), .ex (aFz (aOp [.ex (aC (.str "within")), .ex (aVar 4), .ex (aVar 5), .ex (aVar 6)] Den.gTup))] gLstS), .pl 2] (l2 gIx)) [some pen, some (.sh C), some (.sh (.int (k : Int))), some R, some (.sh (.int n)), some (.sh (.str a)), some (.sh (.str c)), none, none] =
      .ret (.sh (if k = 2 then .tup [.str "after", .str a, .str c] else if k = 3 then .tup [.str "turns", .str a, .str c] else .tup [.str "within", .int n, .str a, .str c])) [some pen, some (.sh C), some (.sh (.int (k : Int))), some R, some (.sh (.int n)), some (.sh (.str a)), some (.sh (.str c)), none, none] := by
  have hg : ∀ ds : List D, ds.length ≤ 16000000 → Den.gTup (ds.map O.sh) = some (.sh (.tup ds)) := fun ds h => gTup_sh ds h
  have t1 := hg [.str "after", .str a, .str c] (by simp)
  have t2 := hg [.str "turns", .str a, .str c] (by simp)
  have t3 := hg [.str "within", .int n, .str a, .str c] (by simp)
  simp only [List.map_cons, List.map_nil] at t1 t2 t3
  refine ret_ok ?_
  generalize hX : D.tup [.str "after", .str a, .str c] = X at t1 ⊢
  generalize hY : D.tup [.str "turns", .str a, .str c] = Y at t2 ⊢
  generalize hZ : D.tup [.str "within", .int n, .str a, .str c] = Z at t3 ⊢
  have hL : gLstS [.sh .non, .sh .non, .sh X, .sh Y, .sh .non, .sh Z] = some (.lst ([D.non, .non, X, Y, .non, Z].map O.sh)) := by simp [gLstS, shs]
  have hi : gIx (.lst ([D.non, .non, X, Y, .non, Z].map O.sh)) (.sh (.int (k : Int))) = some (.sh (if k = 2 then X else if k = 3 then Y else Z)) := by
    unfold gIx
    simp only [Den.atI_nat]
    rcases hk with rfl | rfl | rfl <;> rfl
  simp only [List.map_cons, List.map_nil] at hi hL
  simp only [aDef, pre, outs, List.map_cons, List.map_nil, List.replicate, List.cons_append, List.nil_append, List.length_cons, List.length_nil, sSeq, sSet, sRet, sRetN, sIf, sDrop, sPar, sAsg, sNext, aB, aC, aVar, aMove, aFz, aTV, aNot, aAnd, aOr, aIfE, aAndV, aOrV, aOp, aSl, aP, evA, rsv, l1, l2, Res.bind, Res.out, List.getElem?_cons_zero, List.getElem?_cons_succ, List.set_cons_zero, List.set_cons_succ, Option.map_some, Option.map_none, fz, shs, if_true, if_false, ite_true, ite_false, Bool.false_eq_true, reduceIte, reduceCtorEq, Nat.reduceAdd, Nat.reduceSub, Nat.reduceLT, Nat.reduceLeDiff, Nat.reduceEqDiff, Bool.not_true, Bool.not_false, Nat.sub_self, Nat.zero_add, and_self, true_and, and_true, Nat.lt_add_one, decide_true, decide_false, decide_eq_true_eq , gSl_tS, gLen_tS, gLen_lS, gTup_str, gIn_tS, gNotIn_tS, gIn_lS, gNotIn_lS, gEq_int, gEq_str, gNe_int, gNe_str, cut_from, cut_to , gTup_str2, gIx_tup, atI_0, atI_1, atI_2, atI_3, gSl_tup, List.mem_cons, List.not_mem_nil, or_false, false_or, true_or, or_true, not_true_eq_false, not_false_eq_true , aCall, tak, giv, List.append_nil, aMeth, k_never_until, k_never_after, k_never_turns, k_never_most, k_never_within, k_never_and, k_never_or, k_until_never, k_until_after, k_until_turns, k_until_most, k_until_within, k_until_and, k_until_or, k_after_never, k_after_until, k_after_turns, k_after_most, k_after_within, k_after_and, k_after_or, k_turns_never, k_turns_until, k_turns_after, k_turns_most, k_turns_within, k_turns_and, k_turns_or, k_most_never, k_most_until, k_most_after, k_most_turns, k_most_within, k_most_and, k_most_or, k_within_never, k_within_until, k_within_after, k_within_turns, k_within_most, k_within_and, k_within_or, k_and_never, k_and_until, k_and_after, k_and_turns, k_and_most, k_and_within, k_and_or, k_or_never, k_or_until, k_or_after, k_or_turns, k_or_most, k_or_within, k_or_and, t1, t2, t3, hL, hi]
section
variable {B : Nat} {pen : O} {cs : List Str} (hp : PenOk B pen) (hB : B + 200 < 1099511627775) (h1 : 1 ≤ cs.length) (h4 : cs.length ≤ 6) (hn : cs.Nodup) (ho : okSs cs)
include hp hB h1 h4 hn ho
theorem t_some_plain : ∃ (p : Pl) (pen' : O), d__law_some_plain [pen, .sh (tS cs)] = .ret (.sh p.d) [pen', .sh (tS cs)] ∧ p.ok ∧ PenOk (B + 20) pen' := by
  obtain ⟨k, pen1, e1, hk, hp1⟩ := sp_way hp (by omega) h1 h4 (r3 := none) (r4 := none) (r5 := none) (r6 := none) (r7 := none) (r8 := none)
  obtain ⟨a, b, pen2, e2, ha, hb, hp2⟩ := sp_two (B := B + 1) hp1 (by omega) h1 h4 hn (M := some (.sh (.int (k : Int)))) (r3 := none) (r4 := none) (r5 := none) (r6 := none) (r7 := none) (r8 := none)
  have e3 := sp_rest (B := B + 1 + 6) hp2 (by omega) h1 h4 (a := a) (M := some (.sh (.int (k : Int)))) (r4 := none) (r6 := some (.sh b)) (r8 := none)
  obtain ⟨n, pen4, e4, n0, _, hp4⟩ := one_draw (xs := [2, 3, 6]) (rest := [some (.sh (tS cs)), some (.sh (.int (k : Int))), some (oS (cs.filter fun y => !decide (y = a))), none, some (.sh (.str a)), some (.sh b), none, none]) (fun ρ => lit_oI3) hp2 (by omega) (by simp) (by simp) (by simp)
  have s4 := set_ok (i := 4) e4 (by simp)
  obtain ⟨rest, hR⟩ : ∃ r, r = cs.filter fun y => !decide (y = a) := ⟨_, rfl⟩
  rw [← hR] at e3 s4
  have hRm : ∀ x ∈ rest, x ∈ cs ∧ x ≠ a := fun x hx => by rw [hR] at hx; simpa using hx
  have hRl : rest.length ≤ 6 := by rw [hR]; exact Nat.le_trans (List.length_filter_le _ _) h4
  have hRn : ∀ c ∈ cs, c ≠ a → rest ≠ [] := fun c hc hca z => by
    have : c ∈ rest := by rw [hR]; simp [hc, hca]
    rw [z] at this
    cases this
  clear hR
  have c0 : ∀ m : Int, aB (aOp [.pl 2, .ex (aC (.int m))] (l2 gEq)) [some pen4, some (.sh (tS cs)), some (.sh (.int (k : Int))), some (oS rest), some (.sh (.int (n : Int))), some (.sh (.str a)), some (.sh b), none, none] = .ok (decide ((k : Int) = m)) [some pen4, some (.sh (tS cs)), some (.sh (.int (k : Int))), some (oS rest), some (.sh (.int (n : Int))), some (.sh (.str a)), some (.sh b), none, none] := fun m => by
    generalize oS rest = R
    generalize tS cs = C
    simp only [aDef, pre, outs, List.map_cons, List.map_nil, List.replicate, List.cons_append, List.nil_append, List.length_cons, List.length_nil, sSeq, sSet, sRet, sRetN, sIf, sDrop, sPar, sAsg, sNext, aB, aC, aVar, aMove, aFz, aTV, aNot, aAnd, aOr, aIfE, aAndV, aOrV, aOp, aSl, aP, evA, rsv, l1, l2, Res.bind, Res.out, List.getElem?_cons_zero, List.getElem?_cons_succ, List.set_cons_zero, List.set_cons_succ, Option.map_some, Option.map_none, fz, shs, if_true, if_false, ite_true, ite_false, Bool.false_eq_true, reduceIte, reduceCtorEq, Nat.reduceAdd, Nat.reduceSub, Nat.reduceLT, Nat.reduceLeDiff, Nat.reduceEqDiff, Bool.not_true, Bool.not_false, Nat.sub_self, Nat.zero_add, and_self, true_and, and_true, Nat.lt_add_one, decide_true, decide_false, decide_eq_true_eq , gSl_tS, gLen_tS, gLen_lS, gTup_str, gIn_tS, gNotIn_tS, gIn_lS, gNotIn_lS, gEq_int, gEq_str, gNe_int, gNe_str, cut_from, cut_to , gTup_str2, gIx_tup, atI_0, atI_1, atI_2, atI_3, gSl_tup, List.mem_cons, List.not_mem_nil, or_false, false_or, true_or, or_true, not_true_eq_false, not_false_eq_true , aCall, tak, giv, List.append_nil, aMeth, k_never_until, k_never_after, k_never_turns, k_never_most, k_never_within, k_never_and, k_never_or, k_until_never, k_until_after, k_until_turns, k_until_most, k_until_within, k_until_and, k_until_or, k_after_never, k_after_until, k_after_turns, k_after_most, k_after_within, k_after_and, k_after_or, k_turns_never, k_turns_until, k_turns_after, k_turns_most, k_turns_within, k_turns_and, k_turns_or, k_most_never, k_most_until, k_most_after, k_most_turns, k_most_within, k_most_and, k_most_or, k_within_never, k_within_until, k_within_after, k_within_turns, k_within_most, k_within_and, k_within_or, k_and_never, k_and_until, k_and_after, k_and_turns, k_and_most, k_and_within, k_and_or, k_or_never, k_or_until, k_or_after, k_or_turns, k_or_most, k_or_within, k_or_and]
  have run : ∀ {G1 G2 G3 G4 body : aS} {o : O} {ρ : Store}, G1 [some pen, some (.sh (tS cs)), none, none, none, none, none, none, none] = .nx [some pen1, some (.sh (tS cs)), some (.sh (.int (k : Int))), none, none, none, none, none, none] →
      G2 [some pen1, some (.sh (tS cs)), some (.sh (.int (k : Int))), none, none, none, none, none, none] = .nx [some pen2, some (.sh (tS cs)), some (.sh (.int (k : Int))), none, none, some (.sh (.str a)), some (.sh b), none, none] →
      G3 [some pen2, some (.sh (tS cs)), some (.sh (.int (k : Int))), none, none, some (.sh (.str a)), some (.sh b), none, none] = .nx [some pen2, some (.sh (tS cs)), some (.sh (.int (k : Int))), some (oS rest), none, some (.sh (.str a)), some (.sh b), none, none] →
      G4 [some pen2, some (.sh (tS cs)), some (.sh (.int (k : Int))), some (oS rest), none, some (.sh (.str a)), some (.sh b), none, none] = .nx [some pen4, some (.sh (tS cs)), some (.sh (.int (k : Int))), some (oS rest), some (.sh (.int (n : Int))), some (.sh (.str a)), some (.sh b), none, none] →
      body [some pen4, some (.sh (tS cs)), some (.sh (.int (k : Int))), some (oS rest), some (.sh (.int (n : Int))), some (.sh (.str a)), some (.sh b), none, none] = .ret o ρ → ∀ {os' : List O}, outs [true, true] [pen, .sh (tS cs)] ρ = some os' → aDef [true, true] 9 (sSeq G1 (sSeq G2 (sSeq G3 (sSeq G4 body)))) [pen, .sh (tS cs)] = .ret o os' := by
    intro G1 G2 G3 G4 body o ρ h1 h2 h3 h4 h5 os' h6
    exact def_ret rfl ((seq_nx h1).trans ((seq_nx h2).trans ((seq_nx h3).trans ((seq_nx h4).trans h5)))) h6
  rcases hk with hk | hk | ⟨hc, hk⟩
  · subst hk
    obtain ⟨w, pen5, e5, w0, wl, wm, hp5⟩ := sp_never (k := 0) (n := n) (cs := cs) (rest := rest) (a := a) (b := b) hp4 (by omega) (by intro z; simp [z] at h1) h4
    exact ⟨.never w, pen5, run e1 e2 e3 s4 (seq_ret (c0 0) e5) rfl, ⟨fun x hx => ho x (wm x hx), w0, by omega⟩, hp5.mono (by omega)⟩
  · subst hk
    obtain ⟨ys, pen5, e5, yl, ym, hp5⟩ := sp_most (k := 4) (n := n) (cs := cs) (rest := rest) (a := a) (b := b) hp4 (by omega) hRl
    refine ⟨.most n a ys, pen5, run e1 e2 e3 s4 ((seq_skip (c0 0)).trans ((seq_skip (c0 1)).trans (seq_ret (c0 4) e5))) rfl, ⟨fun x hx => ?_, fun z => (hRm a (ym a z)).2 rfl, by omega, n0⟩, hp5.mono (by omega)⟩
    rcases List.mem_cons.mp hx with rfl | hx
    · exact ho _ ha
    · exact ho x (hRm x (ym x hx)).1
  · obtain ⟨c, hcm, hca, rfl⟩ := hb hc
    have hac : okSs [a, c] := fun x hx => by
      simp at hx
      rcases hx with rfl | rfl
      · exact ho _ ha
      · exact ho _ hcm
    by_cases hk1 : k = 1
    · subst hk1
      obtain ⟨w, pen5, e5, w0, wl, wm, hp5⟩ := sp_until (k := 1) (n := n) (cs := cs) (rest := rest) (a := a) (b := .str c) hp4 (by omega) (hRn c hcm hca) hRl
      refine ⟨.until a w, pen5, run e1 e2 e3 s4 ((seq_skip (c0 0)).trans (seq_ret (c0 1) e5)) rfl, ⟨fun x hx => ?_, w0, by omega⟩, hp5.mono (by omega)⟩
      rcases List.mem_cons.mp hx with rfl | hx
      · exact ho _ ha
      · exact ho x (hRm x (wm x hx)).1
    · have hk2 : k = 2 ∨ k = 3 ∨ k = 5 := by omega
      have e5 := sp_row (pen := pen4) (R := oS rest) (k := k) (n := (n : Int)) (a := a) (c := c) (C := tS cs) hk2
      have z0 : decide ((k : Int) = 0) = false := decide_eq_false (by omega)
      have z1 : decide ((k : Int) = 1) = false := decide_eq_false (by omega)
      have z4 : decide ((k : Int) = 4) = false := decide_eq_false (by omega)
      have f := fun {o : O} {ρ : Store} {body : aS} (h : body [some pen4, some (.sh (tS cs)), some (.sh (.int (k : Int))), some (oS rest), some (.sh (.int (n : Int))), some (.sh (.str a)), some (.sh (.str c)), none, none] = .ret o ρ) (x y z : aS) => (seq_skip (g := x) (h := sSeq (sIf (aB (aOp [.pl 2, .ex (aC (.int 1))] (l2 gEq))) y sNext) (sSeq (sIf (aB (aOp [.pl 2, .ex (aC (.int 4))] (l2 gEq))) z sNext) body)) ((c0 0).trans (by rw [z0]))).trans ((seq_skip ((c0 1).trans (by rw [z1]))).trans ((seq_skip ((c0 4).trans (by rw [z4]))).trans h))
      rcases hk2 with rfl | rfl | rfl
      · exact ⟨.after a c, pen4, run e1 e2 e3 s4 (f e5 _ _ _) rfl, ⟨hac, fun z => hca z.symm⟩, hp4.mono (by omega)⟩
      · exact ⟨.turns a c, pen4, run e1 e2 e3 s4 (f e5 _ _ _) rfl, ⟨hac, fun z => hca z.symm⟩, hp4.mono (by omega)⟩
      · exact ⟨.within n a c, pen4, run e1 e2 e3 s4 (f e5 _ _ _) rfl, ⟨hac, fun z => hca z.symm, n0⟩, hp4.mono (by omega)⟩
end
end Lw
end
section
open PySem L2 Den
namespace Lw
theorem gNeE_nil (ds : List D) : gNeE (.lst (ds.map O.sh)) (.lst []) = some (.sh (.bl (!decide (ds = [])))) := by
  have e1 : fz (.lst (ds.map O.sh)) = .lst ds := by rw [fz, fzL_sh]
  have e2 : fz (.lst []) = .lst [] := by rw [fz, fzL]
  unfold gNeE
  rw [e1, e2]
  cases ds <;> simp [eqE]
theorem gEqE_nil (ds : List D) : gEqE (.lst (ds.map O.sh)) (.lst []) = some (.sh (.bl (decide (ds = [])))) := by
  have e1 : fz (.lst (ds.map O.sh)) = .lst ds := by rw [fz, fzL_sh]
  have e2 : fz (.lst []) = .lst [] := by rw [fz, fzL]
  unfold gEqE
  rw [e1, e2]
  cases ds <;> simp [eqE]
theorem op_e2 {g : List O → Option O} {g1 g2 : aE} {ρ ρ1 ρ2 : Store} {u v w : O} (h1 : g1 ρ = .ok u ρ1) (h2 : g2 ρ1 = .ok v ρ2) (hf : g [u, v] = some w) : aOp [.ex g1, .ex g2] g ρ = .ok w ρ2 := by
  simp [aOp, evA, h1, h2, Res.bind, rsv, hf]
theorem okL_all : ∀ {ss : List Sen}, (∀ s ∈ ss, s.ok) → Sen.okL ss
  | [], _ => by rw [Sen.okL]; trivial
  | s :: ss, h => by
    rw [Sen.okL]
    exact ⟨h s (by simp), okL_all fun x hx => h x (List.mem_cons_of_mem _ hx)⟩
theorem depL_all {m : Nat} : ∀ {ss : List Sen}, (∀ s ∈ ss, s.dep ≤ m) → Sen.depL ss ≤ m
  | [], _ => by rw [Sen.depL]; omega
  | s :: ss, h => by
    rw [Sen.depL]
    exact Nat.max_le.mpr ⟨h s (by simp), depL_all fun x hx => h x (List.mem_cons_of_mem _ hx)⟩
theorem plainsL_app (a b : List Sen) : Sen.plainsL (a ++ b) = Sen.plainsL a ++ Sen.plainsL b := by
  rw [plainsL_map, plainsL_map, plainsL_map, List.flatMap_append]
/-- the end of a sentence of parts -/
theorem sen_end {B : Nat} {pen : O} {C M Dp : D} {ds : List D} {r5 r6 r7 : Option O} (hp : PenOk B pen) (hB : B < 1099511627775) :
    ∃ (k : Bool) (pen' : O), aOp [.ex (aFz (aCall 2 [.pl 0, .ex (aOp [.ex (aC (.str "and")), .ex (aC (.str "or"))] gLstS)] [] (d__law_pick))), .ex (aFz (aOp [.pl 4] (l1 gTuple)))] Den.gTup [some pen, some (.sh C), some (.sh M), some (.sh Dp), some (.lst (ds.map O.sh)), r5, r6, r7] =
      .ok (.sh (.tup [.str (jn k), .tup ds])) [some pen', some (.sh C), some (.sh M), some (.sh Dp), some (.lst (ds.map O.sh)), r5, r6, r7] ∧ PenOk (B + 1) pen' := by
  obtain ⟨x, pen', e, hx, hp'⟩ := pick_oS (xs := ["and", "or"]) hp hB (by simp) (by simp)
  have hk : ∃ k, x = jn k := by
    simp only [List.mem_cons, List.not_mem_nil, or_false] at hx
    rcases hx with rfl | rfl
    · exact ⟨true, rfl⟩
    · exact ⟨false, rfl⟩
  obtain ⟨k, rfl⟩ := hk
  refine ⟨k, pen', ?_, hp'⟩
  revert e
  generalize d__law_pick = G
  intro e
  refine op_e2 (fz_ok (callp (F := G) hp.dic lit_oS2 e)) (fz_ok (op1_ok rfl (gTuple_lst ds))) ?_
  simp [Den.gTup, shs, fz]
theorem callr {F : aF} {g : aE} {pen pen' : O} {C sz dp : D} {x2 x3 x5 : Option O} {os : List O} {o : O} {rest : Store} (hd : ∃ kvs, pen = .dic kvs)
    (hg : g (some pen :: some (.sh C) :: x2 :: x3 :: some (.lst os) :: x5 :: some (.sh sz) :: rest) = .ok (.sh dp) (some pen :: some (.sh C) :: x2 :: x3 :: some (.lst os) :: x5 :: some (.sh sz) :: rest)) (hF : F [pen, .sh C, .sh sz, .sh dp] = .ret o [pen', .sh C, .sh sz, .sh dp]) :
    aCall 4 [.pl 0, .pl 1, .pl 6, .ex g] [] F (some pen :: some (.sh C) :: x2 :: x3 :: some (.lst os) :: x5 :: some (.sh sz) :: rest) = .ok o (some pen' :: some (.sh C) :: x2 :: x3 :: some (.lst os) :: x5 :: some (.sh sz) :: rest) := by
  obtain ⟨kvs, rfl⟩ := hd
  simp [aCall, evA, Res.bind, tak, giv, hg, hF]
theorem w_end {p : aT} {b : aS} {ρ ρ' : Store} (h : p ρ = .ok false ρ') : sWhile p b ρ = .nx ρ' := by
  rw [sWhile_eq, h]
  simp [Res.out]
theorem w_go {p : aT} {b : aS} {ρ ρ1 ρ2 : Store} (h : p ρ = .ok true ρ1) (hb : b ρ1 = .nx ρ2) : sWhile p b ρ = sWhile p b ρ2 := by
  rw [sWhile_eq, h]
  simp only [Res.out, if_true, hb]
def sD (ss : List Sen) : List D := ss.map Sen.d
section
variable {C M : D} {d : Nat}
/-- the size of the next part -/
theorem sen_size {B left : Nat} {pen : O} {ss : List Sen} {r6 : Option O} (hp : PenOk B pen) (hB : B + 10 < 1099511627775) (hl : 0 < left ∧ left ≤ 10) (h5 : ss.length ≤ 5) (h0 : ss = [] → 2 ≤ left) (hok : ∀ s ∈ ss, s.ok ∧ s.dep ≤ d) (hd : d ≤ 7) :
    ∃ (sz : Nat) (pen' : O), sSet 6 (aIfE (aB (aOp [.ex (aOp [.pl 4] (l1 gLen)), .ex (aC (.int 5))] (l2 gEq))) (aVar 5) (aOp [.ex (aC (.int 1)), .ex (aCall 2 [.pl 0, .ex (aIfE (aB (aOp [.pl 4, .ex (aOp [] gLstS)] (l2 gNeE))) (aVar 5) (aOp [.pl 5, .ex (aC (.int 1))] (l2 Den.gSub)))] [] (d__law_draw))] (l2 gAdd))) [some pen, some (.sh C), some (.sh M), some (.sh (.int (d : Int))), some (.lst ((sD ss).map O.sh)), some (.sh (.int (left : Int))), r6, none] =
      .nx [some pen', some (.sh C), some (.sh M), some (.sh (.int (d : Int))), some (.lst ((sD ss).map O.sh)), some (.sh (.int (left : Int))), some (.sh (.int (sz : Int))), none] ∧ 1 ≤ sz ∧ sz ≤ left ∧ (ss.length = 5 → sz = left) ∧ PenOk (B + 1) pen' := by
  have hlen : gLen (.lst ((sD ss).map O.sh)) = some (.sh (.int (ss.length : Int))) := by
    show some _ = some _
    simp [sD]
  have c5 : aB (aOp [.ex (aOp [.pl 4] (l1 gLen)), .ex (aC (.int 5))] (l2 gEq)) [some pen, some (.sh C), some (.sh M), some (.sh (.int (d : Int))), some (.lst ((sD ss).map O.sh)), some (.sh (.int (left : Int))), r6, none] = .ok (decide (ss.length = 5)) [some pen, some (.sh C), some (.sh M), some (.sh (.int (d : Int))), some (.lst ((sD ss).map O.sh)), some (.sh (.int (left : Int))), r6, none] := by
    refine b_ok (op_xx (op1_ok rfl hlen) rfl ?_)
    rw [gEq_int]
    congr 4
    simp only [eq_iff_iff]
    omega
  by_cases h : ss.length = 5
  · exact ⟨left, pen, set_ok (i := 6) ((ife_yes (c5.trans (by rw [decide_eq_true h]))).trans (var_ok rfl)) (by simp), by omega, by omega, fun _ => rfl, hp.mono (by omega)⟩
  · have g := gNeE_nil (sD ss)
    have hb : ∃ b : Nat, aIfE (aB (aOp [.pl 4, .ex (aOp [] gLstS)] (l2 gNeE))) (aVar 5) (aOp [.pl 5, .ex (aC (.int 1))] (l2 Den.gSub)) [some pen, some (.sh C), some (.sh M), some (.sh (.int (d : Int))), some (.lst ((sD ss).map O.sh)), some (.sh (.int (left : Int))), r6, none] = .ok (.sh (.int (b : Int))) [some pen, some (.sh C), some (.sh M), some (.sh (.int (d : Int))), some (.lst ((sD ss).map O.sh)), some (.sh (.int (left : Int))), r6, none] ∧ 0 < b ∧ b ≤ left := by
      have ct : aB (aOp [.pl 4, .ex (aOp [] gLstS)] (l2 gNeE)) [some pen, some (.sh C), some (.sh M), some (.sh (.int (d : Int))), some (.lst ((sD ss).map O.sh)), some (.sh (.int (left : Int))), r6, none] = .ok (!decide (sD ss = [])) [some pen, some (.sh C), some (.sh M), some (.sh (.int (d : Int))), some (.lst ((sD ss).map O.sh)), some (.sh (.int (left : Int))), r6, none] :=
        b_ok (op_pl_ex rfl rfl rfl g)
      by_cases hs : ss = []
      · have h2 := h0 hs
        have hf : (!decide (sD ss = [])) = false := by rw [hs]; rfl
        rw [hf] at ct
        refine ⟨left - 1, (ife_no ct).trans ?_, by omega, by omega⟩
        refine (op_pl_ex (S0 := .sh (.int (left : Int))) (S := .sh (.int (left : Int))) (a := .sh (.int 1)) (w := .sh (.int ((left : Int) - 1))) rfl rfl rfl rfl).trans ?_
        have : (left : Int) - 1 = ((left - 1 : Nat) : Int) := by omega
        rw [this]
      · refine ⟨left, (ife_yes (ct.trans ?_)).trans (var_ok rfl), by omega, by omega⟩
        have : ¬ sD ss = [] := fun z => hs (List.map_eq_nil_iff.mp z)
        simp [this]
    obtain ⟨b, eb, b0, b1⟩ := hb
    obtain ⟨r, pen', e, r0, r1, hp'⟩ := t_draw (many := (b : Int)) hp (by omega) (by omega)
    obtain ⟨k, rfl⟩ := Int.eq_ofNat_of_zero_le r0
    refine ⟨1 + k, pen', ?_, by omega, by omega, fun z => (h z).elim, hp'⟩
    revert e
    generalize d__law_draw = G
    intro e
    exact set_ok (i := 6) ((ife_no (c5.trans (by rw [decide_eq_false h]))).trans (op_xx rfl (callp (F := G) hp.dic eb e) (w := .sh (.int ((1 + k : Nat) : Int))) (by show some _ = some _; congr 3))) (by simp)
end
theorem op2_ok {f : O → O → Option O} {i j : Nat} {ρ : Store} {a b w : O} (h1 : ρ[i]? = some (some a)) (h2 : ρ[j]? = some (some b)) (hf : f a b = some w) : aOp [.pl i, .pl j] (l2 f) ρ = .ok w ρ := by
  simp [aOp, evA, h1, h2, Res.bind, rsv, l2, hf]
theorem sD_app (a b : List Sen) : sD (a ++ b) = sD a ++ sD b := List.map_append
theorem sen_loop {C M : D} {d K : Nat} {rec : aF} (hd : d ≤ 7)
    (hrec : ∀ (B m : Nat) (pen : O), PenOk B pen → 1 ≤ m → m ≤ 10 → B + m * K + 500 < 1099511627775 → ∃ (s : Sen) (pen' : O), rec [pen, .sh C, .sh (.int (m : Int)), .sh (.int ((d : Int) - 1))] = .ret (.sh s.d) [pen', .sh C, .sh (.int (m : Int)), .sh (.int ((d : Int) - 1))] ∧ s.ok ∧ s.dep ≤ d ∧ s.plains.length ≤ m ∧ PenOk (B + m * K) pen') :
    ∀ (fuel left B : Nat) (pen : O) (ss : List Sen) (r6 : Option O), left ≤ fuel → PenOk B pen → left ≤ 10 → (left = 0 ∨ ss.length ≤ 5) → ss.length ≤ 6 → (ss = [] → 2 ≤ left) → (∀ s ∈ ss, s.ok ∧ s.dep ≤ d) → B + left * (K + 1) + 500 < 1099511627775 →
    ∃ (ss' : List Sen) (pen' : O) (r6' : Option O), sWhile (aB (aOp [.pl 5, .ex (aC (.int 0))] (l2 gGt))) (sSeq (sSet 6 (aIfE (aB (aOp [.ex (aOp [.pl 4] (l1 gLen)), .ex (aC (.int 5))] (l2 gEq))) (aVar 5) (aOp [.ex (aC (.int 1)), .ex (aCall 2 [.pl 0, .ex (aIfE (aB (aOp [.pl 4, .ex (aOp [] gLstS)] (l2 gNeE))) (aVar 5) (aOp [.pl 5, .ex (aC (.int 1))] (l2 Den.gSub)))] [] (d__law_draw))] (l2 gAdd))))
      (sSeq (sDrop (aMeth "list" 4 [.ex (aFz (aCall 4 [.pl 0, .pl 1, .pl 6, .ex (aOp [.pl 3, .ex (aC (.int 1))] (l2 Den.gSub))] [] rec))] fAppend))
      (sSet 5 (aOp [.pl 5, .pl 6] (l2 Den.gSub))))) [some pen, some (.sh C), some (.sh M), some (.sh (.int (d : Int))), some (.lst ((sD ss).map O.sh)), some (.sh (.int (left : Int))), r6, none] =
      .nx [some pen', some (.sh C), some (.sh M), some (.sh (.int (d : Int))), some (.lst ((sD (ss ++ ss')).map O.sh)), some (.sh (.int 0)), r6', none] ∧ (∀ s ∈ ss', s.ok ∧ s.dep ≤ d) ∧ (Sen.plainsL ss').length ≤ left ∧ (left = 0 ∨ ss' ≠ []) ∧ (ss ++ ss').length ≤ 6 ∧ PenOk (B + left * (K + 1)) pen' := by
  intro fuel
  induction fuel with
  | zero =>
    intro left B pen ss r6 hf hp _ _ h6 _ hok _
    have : left = 0 := by omega
    subst this
    refine ⟨[], pen, r6, ?_, (fun s hs => by cases hs), by rw [Sen.plainsL]; simp, .inl rfl, by rw [List.append_nil]; exact h6, hp.mono (by omega)⟩
    rw [List.append_nil]
    exact w_end (b_ok (op_pl_ex rfl rfl rfl rfl))
  | succ fuel ih =>
    intro left B pen ss r6 hf hp h8 h5 h6 h0 hok hB
    by_cases hl : left = 0
    · subst hl
      refine ⟨[], pen, r6, ?_, (fun s hs => by cases hs), by rw [Sen.plainsL]; simp, .inl rfl, by rw [List.append_nil]; exact h6, hp.mono (by omega)⟩
      rw [List.append_nil]
      exact w_end (b_ok (op_pl_ex rfl rfl rfl rfl))
    · have h5' : ss.length ≤ 5 := by omega
      have hKl : left ≤ left * (K + 1) := Nat.le_mul_of_pos_right left (by omega)
      obtain ⟨sz, pen1, e1, z1, z2, z3, hp1⟩ := sen_size (C := C) (M := M) (r6 := r6) hp (by omega) ⟨by omega, h8⟩ h5' h0 hok hd
      have hm1 : sz * (K + 1) + (left - sz) * (K + 1) = left * (K + 1) := by rw [← Nat.add_mul]; congr 1; omega
      have hm2 : sz * (K + 1) = sz * K + sz := by rw [Nat.mul_add, Nat.mul_one]
      obtain ⟨s, pen2, e2, s1, s2, s3, hp2⟩ := hrec (B + 1) sz pen1 hp1 z1 (by omega) (by omega)
      have hls : (left : Int) - (sz : Int) = ((left - sz : Nat) : Int) := by omega
      obtain ⟨ss', pen', r6', e3, t1, t2, t3, t4, t5⟩ := ih (left - sz) (B + 1 + sz * K) pen2 (ss ++ [s]) (some (.sh (.int (sz : Int)))) (by omega) hp2 (by omega) (by
        rw [List.length_append, List.length_singleton]
        by_cases hq : ss.length = 5
        · have := z3 hq; omega
        · omega) (by rw [List.length_append, List.length_singleton]; omega) (fun z => by simp at z) (fun x hx => by
        rcases List.mem_append.mp hx with hx | hx
        · exact hok x hx
        · rw [List.mem_singleton.mp hx]; exact ⟨s1, s2⟩) (by omega)
      refine ⟨s :: ss', pen', r6', ?_, fun x hx => ?_, by rw [Sen.plainsL, List.length_append]; omega, .inr (by simp), by rw [List.append_assoc] at t4; exact t4, t5.mono (by omega)⟩
      · have ea : (ss ++ [s]) ++ ss' = ss ++ s :: ss' := by simp
        rw [ea] at e3
        refine (w_go (ρ1 := [some pen, some (.sh C), some (.sh M), some (.sh (.int (d : Int))), some (.lst ((sD ss).map O.sh)), some (.sh (.int (left : Int))), r6, none]) (ρ2 := [some pen2, some (.sh C), some (.sh M), some (.sh (.int (d : Int))), some (.lst ((sD (ss ++ [s])).map O.sh)), some (.sh (.int ((left - sz : Nat) : Int))), some (.sh (.int (sz : Int))), none]) (b_ok (op_pl_ex rfl rfl rfl ?_)) ?_).trans e3
        · have hpos : decide ((0 : Int) < (left : Int)) = true := decide_eq_true (by omega)
          show some (O.sh (D.bl _)) = _
          rw [hpos]
        · refine (seq_nx e1).trans ?_
          have hc := callr (F := rec) (g := aOp [.pl 3, .ex (aC (.int 1))] (l2 Den.gSub)) (x2 := some (.sh M)) (x3 := some (.sh (.int (d : Int)))) (os := (sD ss).map O.sh) (x5 := some (.sh (.int (left : Int)))) (rest := [none]) hp1.dic (op_pl_ex (S0 := .sh (.int (d : Int))) (S := .sh (.int (d : Int))) rfl rfl rfl rfl) e2
          have hl0 : (sD ss).length ≤ 1000000 := by rw [sD, List.length_map]; omega
          have m := drop_ok (meth_ok (T := "list") (i := 4) (f := fAppend) (o0 := .lst ((sD ss).map O.sh)) (ox := .lst ((sD ss).map O.sh)) rfl rfl (fz_ok hc) rfl (append_ok hl0))
          refine (seq_nx m).trans ?_
          have e5 : sD ss ++ [s.d] = sD (ss ++ [s]) := by rw [sD_app]; rfl
          show sSet 5 _ [some pen2, some (.sh C), some (.sh M), some (.sh (.int (d : Int))), some (.lst ((sD ss ++ [s.d]).map O.sh)), some (.sh (.int (left : Int))), some (.sh (.int (sz : Int))), none] = _
          rw [e5, ← hls]
          exact set_ok (i := 5) (op2_ok rfl rfl rfl) (by simp)
      · rcases List.mem_cons.mp hx with rfl | hx
        · exact ⟨s1, s2⟩
        · exact t1 x hx
theorem pls_of : ∀ {vs : List D}, (∀ v ∈ vs, ∃ p : Pl, p.ok ∧ v = p.d) → ∃ ss : List Sen, vs = sD ss ∧ (∀ s ∈ ss, s.ok ∧ s.dep = 0) ∧ (Sen.plainsL ss).length = ss.length
  | [], _ => ⟨[], rfl, (fun s hs => by cases hs), by rw [Sen.plainsL]; rfl⟩
  | v :: vs, h => by
    obtain ⟨p, hp, rfl⟩ := h v (by simp)
    obtain ⟨ss, rfl, h1, h2⟩ := pls_of (vs := vs) fun u hu => h u (List.mem_cons_of_mem _ hu)
    refine ⟨.one p :: ss, ?_, fun s hs => ?_, ?_⟩
    · show _ = Sen.d (.one p) :: sD ss
      rw [Sen.d]
    · rcases List.mem_cons.mp hs with rfl | hs
      · exact ⟨by rw [Sen.ok]; exact hp, by rw [Sen.dep]⟩
      · exact h1 s hs
    · rw [Sen.plainsL, Sen.plains, List.length_append, h2]
      simp [Nat.add_comm]
theorem join_ok {k : Bool} {ss : List Sen} (h0 : ss ≠ []) (h1 : ∀ s ∈ ss, s.ok) (h2 : ss.length ≤ 6) (h3 : (Sen.plainsL ss).length ≤ 10) : (Sen.join k ss).ok := by
  rw [Sen.ok]
  exact ⟨h0, ⟨by omega, by omega⟩, okL_all h1⟩
theorem join_d (k : Bool) (ss : List Sen) : (Sen.join k ss).d = .tup [.str (jn k), .tup (sD ss)] := by
  rw [Sen.d, dL_map]
  rfl
section
variable {cs : List Str} (h1 : 1 ≤ cs.length) (h4 : cs.length ≤ 6) (hn : cs.Nodup) (ho : okSs cs)
include h1 h4 hn ho
theorem sen_leaf {B m : Nat} {pen : O} {Dp : D} (hp : PenOk B pen) (hB : B + m * 21 + 500 < 1099511627775) (hm : 1 ≤ m ∧ m ≤ 10) :
    ∃ (s : Sen) (ρ : Store) (pen' : O), sSeq (sSet 4 (aLc (aRng1 (aOp [.pl 2, .ex (aC (.int 6))] (l2 gMin2))) [7] (aN 7) aYes (aCall 2 [.pl 0, .pl 1] [] (d__law_some_plain))))
      (sRet (aIfE (aB (aOp [.ex (aOp [.pl 4] (l1 gLen)), .ex (aC (.int 1))] (l2 gEq))) (aOp [.pl 4, .ex (aC (.int 0))] (l2 gIx)) (aOp [.ex (aFz (aCall 2 [.pl 0, .ex (aOp [.ex (aC (.str "and")), .ex (aC (.str "or"))] gLstS)] [] (d__law_pick))), .ex (aFz (aOp [.pl 4] (l1 gTuple)))] Den.gTup))) [some pen, some (.sh (tS cs)), some (.sh (.int (m : Int))), some (.sh Dp), none, none, none, none] =
      .ret (.sh s.d) ρ ∧ outs [true, true, true, true] [pen, .sh (tS cs), .sh (.int (m : Int)), .sh Dp] ρ = some [pen', .sh (tS cs), .sh (.int (m : Int)), .sh Dp] ∧ s.ok ∧ s.dep ≤ 1 ∧ s.plains.length ≤ m ∧ PenOk (B + m * 21) pen' := by
  obtain ⟨q, hq⟩ : ∃ q, q = min m 6 := ⟨_, rfl⟩
  have hmin : gMin2 (.sh (.int (m : Int))) (.sh (.int 6)) = some (.sh (.int (q : Int))) := by
    show some (O.sh (D.int _)) = _
    congr 3
    split <;> omega
  have hlen : (rngD 0 (q : Int).toNat).length = q := by simp [rngD]
  have hPl : ∀ (B : Nat) (pen : O), PenOk B pen → B + 200 < 1099511627775 → ∃ (p : Pl) (pen' : O), d__law_some_plain [pen, .sh (tS cs)] = .ret (.sh p.d) [pen', .sh (tS cs)] ∧ p.ok ∧ PenOk (B + 20) pen' := fun B pen h hB => t_some_plain h hB h1 h4 hn ho
  revert hPl
  generalize d__law_some_plain = F
  intro hPl
  obtain ⟨vs, pen2, e, hl, hv, hp2⟩ := aLcQ (i := 7) (c := 20) (ge := aCall 2 [.pl 0, .pl 1] [] F) (Pd := fun _ v => ∃ p : Pl, p.ok ∧ v = p.d) (fun p => [some p, some (.sh (tS cs)), some (.sh (.int (m : Int))), some (.sh Dp), none, none, none, none]) (fun _ => rfl) (fun _ => True) (ρ0 := [some pen, some (.sh (tS cs)), some (.sh (.int (m : Int))), some (.sh Dp), none, none, none, none]) (B := B) (pen := pen) (rng1_ok (op_pl_ex (i := 2) (g := aC (.int 6)) (S0 := .sh (.int (m : Int))) (S := .sh (.int (m : Int))) (a := .sh (.int 6)) (ρ := [some pen, some (.sh (tS cs)), some (.sh (.int (m : Int))), some (.sh Dp), none, none, none, none]) (ρ' := [some pen, some (.sh (tS cs)), some (.sh (.int (m : Int))), some (.sh Dp), none, none, none, none]) rfl rfl rfl hmin) (by omega)) (by rw [hlen]; omega) (fun _ _ => trivial) hp (by rw [hlen]; omega) (fun B pen d _ h hB => by
    obtain ⟨p, pen', e, po, hp'⟩ := hPl B pen h (by omega)
    exact ⟨_, pen', _, callpp h.dic (.inl ⟨_, rfl⟩) e, rfl, ⟨p, po, rfl⟩, hp'⟩)
  rw [hlen] at hl hp2
  obtain ⟨ss, rfl, hs, hpl⟩ := pls_of (vs := vs) fun v hm => by
    obtain ⟨k, hk⟩ := List.getElem?_of_mem hm
    have hk2 : k < (rngD 0 (q : Int).toNat).length := by rw [hlen, ← hl]; exact (List.getElem?_eq_some_iff.mp hk).1
    exact hv k _ v (List.getElem?_eq_getElem hk2) hk
  have hsl : ss.length = q := by rw [← hl, sD, List.length_map]
  have s4 := set_ok (i := 4) e (by simp)
  have ce : aB (aOp [.ex (aOp [.pl 4] (l1 gLen)), .ex (aC (.int 1))] (l2 gEq)) [some pen2, some (.sh (tS cs)), some (.sh (.int (m : Int))), some (.sh Dp), some (.lst ((sD ss).map O.sh)), none, none, none] = .ok (decide (ss.length = 1)) [some pen2, some (.sh (tS cs)), some (.sh (.int (m : Int))), some (.sh Dp), some (.lst ((sD ss).map O.sh)), none, none, none] := by
    refine b_ok (op_xx (op1_ok rfl (w := .sh (.int (ss.length : Int))) (by show some _ = some _; simp [sD])) rfl ?_)
    rw [gEq_int]
    congr 4
    simp only [eq_iff_iff]
    omega
  by_cases h : ss.length = 1
  · match ss, h, hs, hpl, s4, ce with
    | [s], h, hs, hpl, s4, ce =>
      refine ⟨s, _, pen2, (seq_nx s4).trans (ret_ok ((ife_yes (ce.trans (by rw [decide_eq_true h]))).trans (op_pl_ex rfl rfl rfl rfl))), rfl, (hs s (by simp)).1, by have := (hs s (by simp)).2; omega, ?_, hp2.mono (by omega)⟩
      have : s.plains.length = 1 := by
        rw [Sen.plainsL, Sen.plainsL, List.append_nil] at hpl
        exact hpl
      omega
  · obtain ⟨k, pen', e2, hp'⟩ := sen_end (C := tS cs) (M := .int (m : Int)) (Dp := Dp) (ds := sD ss) (r5 := none) (r6 := none) (r7 := none) hp2 (by omega)
    refine ⟨.join k ss, [some pen', some (.sh (tS cs)), some (.sh (.int (m : Int))), some (.sh Dp), some (.lst ((sD ss).map O.sh)), none, none, none], pen', (seq_nx s4).trans (ret_ok ((ife_no (ce.trans (by rw [decide_eq_false h]))).trans ?_)), rfl, join_ok (fun z => by rw [z] at hsl; simp at hsl; omega) (fun s hs' => (hs s hs').1) (by omega) (by omega), ?_, by rw [Sen.plains]; omega, hp'.mono (by omega)⟩
    · rw [join_d]
      exact e2
    · rw [Sen.dep]
      have := depL_all (m := 0) fun s hs' => Nat.le_of_eq (hs s hs').2
      omega
end
theorem or_ok1 {p q : aT} {ρ ρ' : Store} (h : p ρ = .ok true ρ') : aOr p q ρ = .ok true ρ' := by simp [aOr, h, Res.bind]
theorem or_ok2 {p q : aT} {ρ ρ1 ρ2 : Store} {b : Bool} (h : p ρ = .ok false ρ1) (h2 : q ρ1 = .ok b ρ2) : aOr p q ρ = .ok b ρ2 := by simp [aOr, h, h2, Res.bind]
section
variable {cs : List Str} (h1 : 1 ≤ cs.length) (h4 : cs.length ≤ 6) (hn : cs.Nodup) (ho : okSs cs)
include h1 h4 hn ho
theorem t_some_sentence : ∀ (n d m B : Nat) (pen : O), d < n → d ≤ 7 → 1 ≤ m → m ≤ 10 → PenOk B pen → B + m * (21 + 2 * d) + 500 < 1099511627775 →
    ∃ (s : Sen) (pen' : O), d__law_some_sentence n [pen, .sh (tS cs), .sh (.int (m : Int)), .sh (.int (d : Int))] = .ret (.sh s.d) [pen', .sh (tS cs), .sh (.int (m : Int)), .sh (.int (d : Int))] ∧ s.ok ∧ s.dep ≤ d + 1 ∧ s.plains.length ≤ m ∧ PenOk (B + m * (21 + 2 * d)) pen' := by
  intro n
  induction n with
  | zero => intro d m B pen h; omega
  | succ n ih =>
    intro d m B pen hd h7 m1 m8 hp hB
    have hmm : m * 21 ≤ m * (21 + 2 * d) := Nat.mul_le_mul_left m (by omega)
    have cm : aB (aOp [.pl 2, .ex (aC (.int 1))] (l2 gEq)) [some pen, some (.sh (tS cs)), some (.sh (.int (m : Int))), some (.sh (.int (d : Int))), none, none, none, none] = .ok (decide ((m : Int) = 1)) [some pen, some (.sh (tS cs)), some (.sh (.int (m : Int))), some (.sh (.int (d : Int))), none, none, none, none] :=
      b_ok (op_pl_ex (i := 2) (g := aC (.int 1)) (S0 := .sh (.int (m : Int))) (S := .sh (.int (m : Int))) (a := .sh (.int 1)) rfl rfl rfl (gEq_int _ _))
    have cd : aB (aOp [.pl 3, .ex (aC (.int 0))] (l2 gEq)) [some pen, some (.sh (tS cs)), some (.sh (.int (m : Int))), some (.sh (.int (d : Int))), none, none, none, none] = .ok (decide ((d : Int) = 0)) [some pen, some (.sh (tS cs)), some (.sh (.int (m : Int))), some (.sh (.int (d : Int))), none, none, none, none] :=
      b_ok (op_pl_ex (i := 3) (g := aC (.int 0)) (S0 := .sh (.int (d : Int))) (S := .sh (.int (d : Int))) (a := .sh (.int 0)) rfl rfl rfl (gEq_int _ _))
    show ∃ (s : Sen) (pen' : O), b__law_some_sentence (d__law_some_sentence n) _ = _ ∧ _
    by_cases h : m = 1 ∨ d = 0
    · obtain ⟨s, ρ, pen', e, o1, so, sd, sp, hp'⟩ := sen_leaf (Dp := .int (d : Int)) h1 h4 hn ho hp (by omega) ⟨m1, m8⟩
      refine ⟨s, pen', ?_, so, by omega, sp, hp'.mono (by omega)⟩
      have c : aOr (aB (aOp [.pl 2, .ex (aC (.int 1))] (l2 gEq))) (aB (aOp [.pl 3, .ex (aC (.int 0))] (l2 gEq))) [some pen, some (.sh (tS cs)), some (.sh (.int (m : Int))), some (.sh (.int (d : Int))), none, none, none, none] = .ok true [some pen, some (.sh (tS cs)), some (.sh (.int (m : Int))), some (.sh (.int (d : Int))), none, none, none, none] := by
        by_cases hm : m = 1
        · refine or_ok1 (cm.trans ?_)
          rw [decide_eq_true (by omega)]
        · refine or_ok2 (b := true) (cm.trans ?_) (cd.trans ?_)
          · rw [decide_eq_false (by omega)]
          · rw [decide_eq_true (by omega)]
      unfold b__law_some_sentence
      generalize d__law_some_sentence n = rec
      clear ih
      exact def_ret rfl (seq_ret c e) o1
    · have hm : ¬ m = 1 := fun z => h (.inl z)
      have hd0 : ¬ d = 0 := fun z => h (.inr z)
      have c : aOr (aB (aOp [.pl 2, .ex (aC (.int 1))] (l2 gEq))) (aB (aOp [.pl 3, .ex (aC (.int 0))] (l2 gEq))) [some pen, some (.sh (tS cs)), some (.sh (.int (m : Int))), some (.sh (.int (d : Int))), none, none, none, none] = .ok false [some pen, some (.sh (tS cs)), some (.sh (.int (m : Int))), some (.sh (.int (d : Int))), none, none, none, none] := by
        refine or_ok2 (cm.trans ?_) (cd.trans ?_)
        · rw [decide_eq_false (by omega)]
        · rw [decide_eq_false (by omega)]
      obtain ⟨d', rfl⟩ : ∃ d', d = d' + 1 := ⟨d - 1, by omega⟩
      have ed : ((d' + 1 : Nat) : Int) - 1 = (d' : Int) := by omega
      have hK : m * (21 + 2 * (d' + 1)) = m * (21 + 2 * d' + 1) + m := by
        have : 21 + 2 * (d' + 1) = (21 + 2 * d' + 1) + 1 := by omega
        rw [this, Nat.mul_add, Nat.mul_one]
      unfold b__law_some_sentence
      revert ih
      generalize d__law_some_sentence n = rec
      intro ih
      obtain ⟨ss, pen1, r6', e1, t1, t2, t3, t4, hp1⟩ := sen_loop (C := tS cs) (M := .int (m : Int)) (d := d' + 1) (K := 21 + 2 * d') (rec := rec) h7 (fun B k pen hp k1 k8 hB => by
        obtain ⟨s, pen', e, so, sd, sp, hp'⟩ := ih d' k B pen (by omega) (by omega) k1 k8 hp hB
        exact ⟨s, pen', by rw [ed]; exact e, so, sd, sp, hp'⟩) m m B pen [] none (Nat.le_refl _) hp m8 (.inr (by simp)) (by simp) (fun _ => by omega) (fun s hs => by cases hs) (by omega)
      rw [List.nil_append] at e1 t4
      obtain ⟨k, pen', e2, hp'⟩ := sen_end (C := tS cs) (M := .int (m : Int)) (Dp := .int ((d' + 1 : Nat) : Int)) (ds := sD ss) (r5 := some (.sh (.int 0))) (r6 := r6') (r7 := none) hp1 (by omega)
      have hs0 : ss ≠ [] := t3.resolve_left (by omega)
      refine ⟨.join k ss, pen', ?_, join_ok hs0 (fun s hs => (t1 s hs).1) t4 (by omega), ?_, by rw [Sen.plains]; exact t2, hp'.mono (by omega)⟩
      · rw [join_d]
        have p0 := par_ok (i := 4) (j := 5) (g := aOp [] gLstS) (h := aVar 2) (o := .lst []) (u := .sh (.int (m : Int))) (ρ := [some pen, some (.sh (tS cs)), some (.sh (.int (m : Int))), some (.sh (.int ((d' + 1 : Nat) : Int))), none, none, none, none]) (ρ1 := [some pen, some (.sh (tS cs)), some (.sh (.int (m : Int))), some (.sh (.int ((d' + 1 : Nat) : Int))), none, none, none, none]) rfl (var_ok (i := 2) rfl) (by simp) (by simp)
        exact def_ret rfl ((seq_skip c).trans ((seq_nx p0).trans ((seq_nx e1).trans (ret_ok e2)))) rfl
      · rw [Sen.dep]
        have := depL_all (m := d' + 1) fun s hs => (t1 s hs).2
        omega
end
end Lw
end
section
open PySem L2 Den
namespace Lw
/-! ### what is a name -/
def Kn (d : D) : Prop := ∃ t, tyN d = some t
def isS : D → Bool
  | .str _ => true
  | _ => false
def isT : D → Bool
  | .tup _ => true
  | _ => false
def isI : D → Bool
  | .int _ => true
  | .bl _ => true
  | _ => false
def isBo : D → Bool
  | .bl _ => true
  | _ => false
theorem isi_S {d : D} (h : Kn d) : gIsi "str" (.sh d) = some (.sh (.bl (isS d))) := by
  obtain ⟨t, h⟩ := h
  cases d <;> first | rfl | cases h
theorem isi_T {d : D} (h : Kn d) : gIsi "tuple" (.sh d) = some (.sh (.bl (isT d))) := by
  obtain ⟨t, h⟩ := h
  cases d <;> first | rfl | cases h
theorem isi_I {d : D} (h : Kn d) : gIsi "int" (.sh d) = some (.sh (.bl (isI d))) := by
  obtain ⟨t, h⟩ := h
  cases d <;> first | rfl | cases h
theorem isi_B {d : D} (h : Kn d) : gIsi "bool" (.sh d) = some (.sh (.bl (isBo d))) := by
  obtain ⟨t, h⟩ := h
  cases d <;> first | rfl | cases h
def lowC (c : Nat) : Bool := decide (97 ≤ c) && decide (c ≤ 122)
def nmC (c : Nat) : Bool := lowC c || (decide (48 ≤ c) && decide (c ≤ 57))
def hdB : List Nat → Bool
  | c :: _ => lowC c
  | [] => false
def nmB (z : Str) : Bool := decide (1 ≤ z.length) && (decide (z.length ≤ 12) && (hdB z.cps.toList && z.cps.toList.all nmC))
def isN : D → Bool
  | .str z => nmB z
  | _ => false
theorem al_has : ∀ c : Nat, decide (c ∈ al.cps.toList) = lowC c := by
  intro c
  have e : al.cps.toList = (List.range 26).map fun i => 97 + i := by decide +kernel
  rw [e]
  unfold lowC
  rw [← Bool.decide_and, decide_eq_decide, List.mem_map]
  constructor
  · rintro ⟨i, hi, rfl⟩
    have := List.mem_range.mp hi
    omega
  · intro h
    exact ⟨c - 97, List.mem_range.mpr (by omega), by omega⟩
def al36 : Str := "abcdefghijklmnopqrstuvwxyz0123456789"
theorem al36_has : ∀ c : Nat, decide (c ∈ al36.cps.toList) = nmC c := by
  intro c
  have e : al36.cps.toList = ((List.range 26).map fun i => 97 + i) ++ (List.range 10).map fun i => 48 + i := by decide +kernel
  rw [e]
  unfold nmC lowC
  rw [← Bool.decide_and, ← Bool.decide_and, ← Bool.decide_or, decide_eq_decide, List.mem_append, List.mem_map, List.mem_map]
  constructor
  · rintro (⟨i, hi, rfl⟩ | ⟨i, hi, rfl⟩) <;> have := List.mem_range.mp hi <;> omega
  · rintro (h | h)
    · exact .inl ⟨c - 97, List.mem_range.mpr (by omega), by omega⟩
    · exact .inr ⟨c - 48, List.mem_range.mpr (by omega), by omega⟩
theorem notIn_ch (c : Nat) (z : Str) : gNotIn (.sh (.str ⟨#[c]⟩)) (.sh (.str z)) = some (.sh (.bl (!decide (c ∈ z.cps.toList)))) := rfl
theorem chain_le {ga gb gc : aE} {ρ : Store} {a b c : Int} (h1 : ga ρ = .ok (.sh (.int a)) ρ) (h2 : gb ρ = .ok (.sh (.int b)) ρ) (h3 : gc ρ = .ok (.sh (.int c)) ρ) : aChain gLe gLe ga gb gc ρ = .ok (.sh (.bl (decide (a ≤ b) && decide (b ≤ c)))) ρ := by
  have e : gLe (.sh (.int a)) (.sh (.int b)) = some (.sh (.bl (decide (a ≤ b)))) := rfl
  have e2 : gLe (.sh (.int b)) (.sh (.int c)) = some (.sh (.bl (decide (b ≤ c)))) := rfl
  unfold aChain
  rw [h1]
  simp only [Res.bind, h2, e]
  by_cases h : a ≤ b
  · simp [h, h3, Res.bind, e2]
  · simp [h]
theorem len12 {z : Str} (h : 1 ≤ z.length) : ∃ c r, z.cps.toList = c :: r := by
  rw [len_cps] at h
  match hz : z.cps.toList with
  | [] => rw [hz] at h; simp at h
  | c :: r => exact ⟨c, r, rfl⟩
theorem ix0_str {z : Str} {c : Nat} {r : List Nat} (h : z.cps.toList = c :: r) (hl : z.length ≤ 16000000) : gIx (.sh (.str z)) (.sh (.int 0)) = some (.sh (.str ⟨#[c]⟩)) := by
  unfold gIx
  simp only
  rw [if_pos hl, h, Den.atI_0]
  rfl
def chD (c : Nat) : D := .str ⟨#[c]⟩
theorem chs_filter (p : Nat → Bool) (cs : List Nat) : ((cs.map chD).filter fun d => match d with
    | .str z => match z.cps.toList with
      | [c] => p c
      | _ => false
    | _ => false) = (cs.filter p).map chD := by
  induction cs with
  | nil => rfl
  | cons c cs ih =>
    rw [List.map_cons, List.filter_cons, ih, List.filter_cons]
    show (if p c = true then _ else _) = _
    cases p c <;> rfl
theorem t_law_is_name {d : D} (h : Kn d) (hz : ∀ z, d = .str z → z.length ≤ 16000000) : d__law_is_name [.sh d] = .ret (.sh (.bl (isN d))) [.sh d] := by
  have hS := isi_S h
  unfold d__law_is_name
  cases hd : isS d with
  | false =>
    have e : isN d = false := by cases d <;> first | rfl | cases hd
    rw [hd] at hS
    rw [e]
    exact def_ret (ρ := [some (.sh d), none]) rfl (seq_ret (or_ok1 (not_ok (b := false) (b_ok (op1_ok rfl hS)))) (ret_ok rfl)) rfl
  | true =>
    obtain ⟨z, rfl⟩ : ∃ z, d = .str z := by cases d <;> first | exact ⟨_, rfl⟩ | cases hd
    have hl := hz z rfl
    rw [hd] at hS
    have c1 : aNot (aB (aOp [.pl 0] (l1 (gIsi "str")))) [some (.sh (.str z)), none] = .ok false [some (.sh (.str z)), none] := not_ok (b := true) (b_ok (op1_ok rfl hS))
    have c2 := not_ok (b_ok (chain_le (a := 1) (c := 12) (ρ := [some (.sh (.str z)), none]) (ga := aC (.int 1)) (gc := aC (.int 12)) rfl (op1_ok (i := 0) rfl (gLen_str hl)) rfl))
    have e12 : (decide ((1 : Int) ≤ (z.length : Int)) && decide ((z.length : Int) ≤ 12)) = (decide (1 ≤ z.length) && decide (z.length ≤ 12)) := by
      rw [← Bool.decide_and, ← Bool.decide_and, decide_eq_decide]
      omega
    rw [e12] at c2
    cases hb : (decide (1 ≤ z.length) && decide (z.length ≤ 12)) with
    | false =>
      have e : isN (.str z) = false := by
        show (decide (1 ≤ z.length) && (decide (z.length ≤ 12) && _)) = false
        rw [← Bool.and_assoc, hb]
        rfl
      rw [hb] at c2
      rw [e]
      exact def_ret (ρ := [some (.sh (.str z)), none]) rfl (seq_ret (or_ok2 c1 (or_ok1 c2)) (ret_ok rfl)) rfl
    | true =>
      rw [hb] at c2
      rw [Bool.and_eq_true, decide_eq_true_eq, decide_eq_true_eq] at hb
      obtain ⟨c, r, hcr⟩ := len12 hb.1
      have c3 : aB (aOp [.ex (aOp [.pl 0, .ex (aC (.int 0))] (l2 gIx)), .ex (aC (.str "abcdefghijklmnopqrstuvwxyz"))] (l2 gNotIn)) [some (.sh (.str z)), none] = .ok (!lowC c) [some (.sh (.str z)), none] := by
        refine b_ok (op_xx (op_pl_ex (i := 0) rfl rfl rfl (ix0_str hcr hl)) rfl ?_)
        have := notIn_ch c al
        rw [al_has] at this
        exact this
      have eN : isN (.str z) = (lowC c && z.cps.toList.all nmC) := by
        show (decide (1 ≤ z.length) && (decide (z.length ≤ 12) && (hdB z.cps.toList && _))) = _
        rw [decide_eq_true hb.1, decide_eq_true hb.2, hcr]
        rfl
      rw [eN]
      cases hc : lowC c with
      | false =>
        rw [hc] at c3
        exact def_ret (ρ := [some (.sh (.str z)), none]) rfl (seq_ret (or_ok2 c1 (or_ok2 c2 c3)) (ret_ok rfl)) rfl
      | true =>
        rw [hc] at c3
        have lc := aLc_filter (src := aItems (aVar 0)) (i := 1) (tt := aB (aOp [.pl 1, .ex (aC (.str "abcdefghijklmnopqrstuvwxyz0123456789"))] (l2 gNotIn))) (ge := aVar 1) (ρ := [some (.sh (.str z)), none]) (ds := z.cps.toList.map chD) (fun d => match d with
          | .str z => match z.cps.toList with
            | [c] => !nmC c
            | _ => false
          | _ => false) id (items_ok (var_ok rfl) rfl) (by rw [List.length_map, ← len_cps]; omega) rfl (fun d hd => by
            obtain ⟨c, _, rfl⟩ := List.mem_map.mp hd
            have e36 := notIn_ch c al36
            rw [al36_has] at e36
            exact ⟨_, b_ok (op_pl_ex (i := 1) (S0 := .sh (chD c)) (S := .sh (chD c)) (a := .sh (.str al36)) rfl rfl rfl e36), (fun _ => rfl), fun _ => ⟨_, _, var_ok rfl, rfl, rfl⟩⟩)
        rw [chs_filter (fun c => !nmC c), List.map_id] at lc
        refine def_ret (ρ := [some (.sh (.str z)), none]) rfl ((seq_skip (or_ok2 c1 (or_ok2 c2 c3))).trans (ret_ok ?_)) rfl
        refine op_xx lc rfl ?_
        refine (gEqE_nil _).trans ?_
        congr 3
        rw [Bool.true_and, Bool.eq_iff_iff, decide_eq_true_eq, List.map_eq_nil_iff, List.filter_eq_nil_iff, List.all_eq_true]
        simp
end Lw
end
section
open PySem L2 Den
namespace Lw
def upC (c : Nat) : Bool := decide (65 ≤ c) && decide (c ≤ 90)
theorem uni_all : ((List.range 128).all fun c => (Unicode.isAlnum c == (nmC c || upC c)) && ((Unicode.isAlpha c == (lowC c || upC c)) && ((Unicode.isLower c == lowC c) && ((Unicode.isUpper c == upC c) && (Unicode.isTitle c == false))))) = true := by decide +kernel
theorem uni {c : Nat} (h : c < 128) : Unicode.isAlnum c = (nmC c || upC c) ∧ Unicode.isAlpha c = (lowC c || upC c) ∧ Unicode.isLower c = lowC c ∧ Unicode.isUpper c = upC c ∧ Unicode.isTitle c = false := by
  have := List.all_eq_true.mp uni_all c (List.mem_range.mpr h)
  simp only [Bool.and_eq_true, beq_iff_eq] at this
  exact this
theorem low_up {c : Nat} : lowC c = true → upC c = false := by
  unfold lowC upC
  intro h
  rw [Bool.and_eq_true, decide_eq_true_eq, decide_eq_true_eq] at h
  rw [Bool.and_eq_false_iff, decide_eq_false_iff_not, decide_eq_false_iff_not]
  omega
theorem nm_up {c : Nat} : nmC c = true → upC c = false ∧ c < 128 := by
  unfold nmC lowC upC
  intro h
  rw [Bool.or_eq_true, Bool.and_eq_true, Bool.and_eq_true, decide_eq_true_eq, decide_eq_true_eq, decide_eq_true_eq, decide_eq_true_eq] at h
  rw [Bool.and_eq_false_iff, decide_eq_false_iff_not, decide_eq_false_iff_not]
  omega
theorem name_agree (c : Nat) (r : List Nat) : ((c :: r).all (fun c => decide (c < 128)) && ((c :: r).all Unicode.isAlnum && (((c :: r).any Unicode.isLower && !(c :: r).any fun c => Unicode.isUpper c || Unicode.isTitle c) && Unicode.isAlpha c))) = (lowC c && (c :: r).all nmC) := by
  rw [Bool.eq_iff_iff]
  simp only [Bool.and_eq_true, Bool.not_eq_true', List.all_eq_true, decide_eq_true_eq]
  constructor
  · rintro ⟨h1, h2, ⟨h3, h4⟩, h5⟩
    have nu : ∀ x ∈ c :: r, upC x = false := fun x hx => by
      have := List.any_eq_false.mp h4 x hx
      rw [(uni (h1 x hx)).2.2.2.1] at this
      cases hu : upC x with
      | false => rfl
      | true => rw [hu] at this; simp at this
    refine ⟨?_, fun x hx => ?_⟩
    · rw [(uni (h1 c (by simp))).2.1, nu c (by simp), Bool.or_false] at h5
      exact h5
    · have := h2 x hx
      rw [(uni (h1 x hx)).1, nu x hx, Bool.or_false] at this
      exact this
  · rintro ⟨h1, h2⟩
    have lt : ∀ x ∈ c :: r, x < 128 := fun x hx => (nm_up (h2 x hx)).2
    refine ⟨lt, fun x hx => ?_, ⟨?_, ?_⟩, ?_⟩
    · rw [(uni (lt x hx)).1, h2 x hx]; rfl
    · exact List.any_eq_true.mpr ⟨c, by simp, by rw [(uni (lt c (by simp))).2.2.1]; exact h1⟩
    · refine List.any_eq_false.mpr fun x hx => ?_
      rw [(uni (lt x hx)).2.2.2.1, (uni (lt x hx)).2.2.2.2, (nm_up (h2 x hx)).1]
      simp
    · rw [(uni (lt c (by simp))).2.1, h1]; rfl
theorem andv_no {p : aT} {g : aE} {ρ ρ' : Store} (h : p ρ = .ok false ρ') : aAndV p g ρ = .ok (.sh (.bl false)) ρ' := by simp [aAndV, h, Res.bind]
theorem andv_on {p : aT} {g : aE} {ρ ρ1 ρ2 : Store} {o : O} (h : p ρ = .ok true ρ1) (h2 : g ρ1 = .ok o ρ2) : aAndV p g ρ = .ok o ρ2 := by simp [aAndV, h, h2, Res.bind]
theorem andv_ok {p : aT} {g : aE} {ρ : Store} {b c : Bool} (h : p ρ = .ok b ρ) (h2 : b = true → g ρ = .ok (.sh (.bl c)) ρ) : aAndV p g ρ = .ok (.sh (.bl (b && c))) ρ := by
  cases b with
  | true => rw [andv_on h (h2 rfl)]; rfl
  | false => rw [andv_no h]; rfl
theorem all_cps (z : Str) (p : Nat → Bool) : z.cps.all p = z.cps.toList.all p := by rw [← Array.all_toList]
theorem any_cps (z : Str) (p : Nat → Bool) : z.cps.any p = z.cps.toList.any p := by rw [← Array.any_toList]
theorem t_is_name {d : D} (h : Kn d) (hz : ∀ z, d = .str z → z.length ≤ 16000000) : d_is_name [.sh d] = .ret (.sh (.bl (isN d))) [.sh d] := by
  have hS := isi_S h
  unfold d_is_name
  cases hd : isS d with
  | false =>
    have e : isN d = false := by cases d <;> first | rfl | cases hd
    rw [hd] at hS
    rw [e]
    exact def_ret (ρ := [some (.sh d)]) rfl (seq_ret (or_ok1 (not_ok (b := false) (b_ok (op1_ok rfl hS)))) (ret_ok rfl)) rfl
  | true =>
    obtain ⟨z, rfl⟩ : ∃ z, d = .str z := by cases d <;> first | exact ⟨_, rfl⟩ | cases hd
    have hl := hz z rfl
    rw [hd] at hS
    have c1 : aNot (aB (aOp [.pl 0] (l1 (gIsi "str")))) [some (.sh (.str z))] = .ok false [some (.sh (.str z))] := not_ok (b := true) (b_ok (op1_ok rfl hS))
    have c2 := not_ok (b_ok (chain_le (a := 1) (c := 12) (ρ := [some (.sh (.str z))]) (ga := aC (.int 1)) (gc := aC (.int 12)) rfl (op1_ok (i := 0) rfl (gLen_str hl)) rfl))
    have e12 : (decide ((1 : Int) ≤ (z.length : Int)) && decide ((z.length : Int) ≤ 12)) = (decide (1 ≤ z.length) && decide (z.length ≤ 12)) := by
      rw [← Bool.decide_and, ← Bool.decide_and, decide_eq_decide]
      omega
    rw [e12] at c2
    cases hb : (decide (1 ≤ z.length) && decide (z.length ≤ 12)) with
    | false =>
      have e : isN (.str z) = false := by
        show (decide (1 ≤ z.length) && (decide (z.length ≤ 12) && _)) = false
        rw [← Bool.and_assoc, hb]
        rfl
      rw [hb] at c2
      rw [e]
      exact def_ret (ρ := [some (.sh (.str z))]) rfl (seq_ret (or_ok2 c1 (or_ok1 c2)) (ret_ok rfl)) rfl
    | true =>
      rw [hb] at c2
      rw [Bool.and_eq_true, decide_eq_true_eq, decide_eq_true_eq] at hb
      obtain ⟨c, r, hcr⟩ := len12 hb.1
      have st : ∀ (t : Str → Bool), aB (aOp [.pl 0] (l1 (gStT t))) [some (.sh (.str z))] = .ok (t z) [some (.sh (.str z))] := fun t => b_ok (op1_ok rfl rfl)
      have a1 : Txt.isascii z = (c :: r).all fun c => decide (c < 128) := by
        show z.cps.all _ = _
        rw [all_cps, hcr]
      have a2 : Txt.isalnum z = (c :: r).all Unicode.isAlnum := by
        show (decide (z.length > 0) && z.cps.all Unicode.isAlnum) = _
        rw [decide_eq_true (by omega), Bool.true_and, all_cps, hcr]
      have a3 : Txt.islower z = ((c :: r).any Unicode.isLower && !(c :: r).any fun c => Unicode.isUpper c || Unicode.isTitle c) := by
        show (z.cps.any Unicode.isLower && !z.cps.any _) = _
        rw [any_cps, any_cps, hcr]
      have a4 : Txt.isalpha ⟨#[c]⟩ = Unicode.isAlpha c := by
        show (decide (1 > 0) && (#[c] : Array Nat).all Unicode.isAlpha) = _
        simp
      have eN : isN (.str z) = (Txt.isascii z && (Txt.isalnum z && (Txt.islower z && Txt.isalpha ⟨#[c]⟩))) := by
        show (decide (1 ≤ z.length) && (decide (z.length ≤ 12) && (hdB z.cps.toList && z.cps.toList.all nmC))) = _
        rw [decide_eq_true hb.1, decide_eq_true hb.2, hcr, a1, a2, a3, a4, name_agree]
        rfl
      rw [eN]
      cases ha : Txt.isascii z with
      | false =>
        have c3 := not_ok (st Txt.isascii)
        rw [ha] at c3
        exact def_ret (ρ := [some (.sh (.str z))]) rfl (seq_ret (or_ok2 c1 (or_ok2 c2 c3)) (ret_ok rfl)) rfl
      | true =>
        have c3 := not_ok (st Txt.isascii)
        rw [ha] at c3
        refine def_ret (ρ := [some (.sh (.str z))]) rfl ((seq_skip (or_ok2 c1 (or_ok2 c2 c3))).trans (ret_ok ?_)) rfl
        rw [Bool.true_and]
        refine andv_ok (st Txt.isalnum) fun _ => andv_ok (st Txt.islower) fun _ => ?_
        exact op1x_ok (op_pl_ex (i := 0) rfl rfl rfl (ix0_str hcr hl)) rfl
end Lw
end
section
open PySem L2 Den
namespace Lw
theorem gAny_bl (bs : List Bool) : gAny (.lst ((bs.map D.bl).map O.sh)) = some (.sh (.bl (bs.any id))) := by
  have h : lstD (.lst ((bs.map D.bl).map O.sh)) = some (bs.map D.bl) := shs_map _
  unfold gAny onBools
  rw [h]
  simp only [boolsD_map]
theorem gAll_bl (bs : List Bool) : gAll (.lst ((bs.map D.bl).map O.sh)) = some (.sh (.bl (bs.all id))) := by
  have h : lstD (.lst ((bs.map D.bl).map O.sh)) = some (bs.map D.bl) := shs_map _
  unfold gAll onBools
  rw [h]
  simp only [boolsD_map]
mutual
/-- data that the judges can look at -/
def Fine : D → Prop
  | .non => True
  | .bl _ => True
  | .int _ => True
  | .str z => z.length ≤ 16000000
  | .tup ds => ds.length ≤ 100 ∧ FineL ds
  | .lst ds => ds.length ≤ 100 ∧ FineL ds
  | .dic _ => True
  | _ => False
def FineL : List D → Prop
  | [] => True
  | d :: ds => Fine d ∧ FineL ds
end
theorem fineL {ds : List D} : FineL ds ↔ ∀ d ∈ ds, Fine d := by
  induction ds with
  | nil => simp [FineL]
  | cons d ds ih => simp [FineL, ih]
theorem fine_tup {ds : List D} : Fine (.tup ds) ↔ ds.length ≤ 100 ∧ ∀ d ∈ ds, Fine d := by rw [Fine, fineL]
theorem fine_kn {d : D} (h : Fine d) : Kn d := by
  cases d <;> first | exact ⟨_, rfl⟩ | (simp [Fine] at h)
theorem fine_z {d : D} (h : Fine d) : ∀ z, d = .str z → z.length ≤ 16000000 := by
  rintro z rfl
  simpa [Fine] using h
theorem f_is_name {d : D} (h : Fine d) : d_is_name [.sh d] = .ret (.sh (.bl (isN d))) [.sh d] := t_is_name (fine_kn h) (fine_z h)
theorem f_law_is_name {d : D} (h : Fine d) : d__law_is_name [.sh d] = .ret (.sh (.bl (isN d))) [.sh d] := t_law_is_name (fine_kn h) (fine_z h)
theorem calls1 {F : aF} {i : Nat} {a : D} {o : O} {ρ : Store} (h1 : ρ[i]? = some (some (.sh a))) (h : F [.sh a] = .ret o [.sh a]) : aCall 1 [.pl i] [] F ρ = .ok o ρ := by
  simp [aCall, evA, h1, Res.bind, tak, giv, h]
theorem callx1 {F : aF} {g : aE} {a : D} {o : O} {ρ : Store} (h1 : g ρ = .ok (.sh a) ρ) (h : F [.sh a] = .ret o [.sh a]) : aCall 1 [.ex g] [] F ρ = .ok o ρ := by
  simp [aCall, evA, h1, Res.bind, tak, giv, h]
theorem callx2 {F : aF} {g g2 : aE} {a b : D} {o : O} {ρ : Store} (h1 : g ρ = .ok (.sh a) ρ) (h2 : g2 ρ = .ok (.sh b) ρ) (h : F [.sh a, .sh b] = .ret o [.sh a, .sh b]) : aCall 2 [.ex g, .ex g2] [] F ρ = .ok o ρ := by
  simp [aCall, evA, h1, h2, Res.bind, tak, giv, h]
theorem callx3 {F : aF} {g : aE} {a b c : D} {o : O} {ρ : Store} (h1 : g ρ = .ok (.sh a) ρ) (h : F [.sh a, .sh b, .sh c] = .ret o [.sh a, .sh b, .sh c]) : aCall 3 [.ex g, .ex (aC b), .ex (aC c)] [] F ρ = .ok o ρ := by
  simp [aCall, evA, aC, h1, Res.bind, tak, giv, h]
/-- all items are names -/
theorem all_names {F : aF} {n : Nat} {ds : List D} {src : aI} {i : Nat} {ρ : Store} (hF : ∀ d, Fine d → F [.sh d] = .ret (.sh (.bl (isN d))) [.sh d]) (hs : src ρ = .ok ds ρ) (hd : ∀ d ∈ ds, Fine d) (hl : ds.length ≤ 100) (hi : ρ[i]? = some none) :
    aLc src [i] (aN i) aYes (aCall 1 [.pl i] [] F) ρ = .ok (.lst ((ds.map fun d => D.bl (isN d)).map O.sh)) ρ := by
  refine aLc_map (fun d => .bl (isN d)) hs (by omega) hi fun d hm => ⟨.sh (.bl (isN d)), ρ.set i (some (.sh d)), ?_, rfl, by rw [List.set_set]; exact set_same hi⟩
  have hlt := (List.getElem?_eq_some_iff.mp hi).1
  exact calls1 (List.getElem?_set_self hlt) (hF d (hd d hm))
theorem odd_names {F : aF} {ds : List D} {src : aI} {i : Nat} {ρ : Store} (hF : ∀ d, Fine d → F [.sh d] = .ret (.sh (.bl (isN d))) [.sh d]) (hs : src ρ = .ok ds ρ) (hd : ∀ d ∈ ds, Fine d) (hl : ds.length ≤ 100) (hi : ρ[i]? = some none) :
    aLc src [i] (aN i) (aNot (aB (aCall 1 [.pl i] [] F))) (aVar i) ρ = .ok (.lst ((ds.filter fun d => !isN d).map O.sh)) ρ := by
  have hlt := (List.getElem?_eq_some_iff.mp hi).1
  have z := aLc_filter (src := src) (i := i) (tt := aNot (aB (aCall 1 [.pl i] [] F))) (ge := aVar i) (ρ := ρ) (ds := ds) (fun d => !isN d) id hs (by omega) hi fun d hm =>
    ⟨ρ.set i (some (.sh d)), not_ok (b_ok (calls1 (List.getElem?_set_self hlt) (hF d (hd d hm)))), (fun _ => by rw [List.set_set]; exact set_same hi), fun _ => ⟨_, _, var_ok (List.getElem?_set_self hlt), rfl, by rw [List.set_set]; exact set_same hi⟩⟩
  rw [List.map_id] at z
  exact z
def isWd : D → Bool
  | .tup ds => ds.all isN
  | _ => false
theorem t_is_word {d : D} (h : Fine d) : d_is_word [.sh d] = .ret (.sh (.bl (isWd d))) [.sh d] := by
  have hT := isi_T (fine_kn h)
  unfold d_is_word
  have e : isWd d = (isT d && isWd d) := by cases d <;> rfl
  rw [e]
  refine def_ret (ρ := [some (.sh d), none]) rfl (ret_ok (andv_ok (b_ok (op1_ok rfl hT)) fun ht => ?_)) rfl
  obtain ⟨ds, rfl⟩ : ∃ ds, d = .tup ds := by cases d <;> first | exact ⟨_, rfl⟩ | cases ht
  rw [fine_tup] at h
  have lc := all_names (F := d_is_name) (n := 0) (src := aItems (aVar 0)) (i := 1) (ρ := [some (.sh (.tup ds)), none]) (fun d hd => f_is_name hd) (items_ok (var_ok rfl) rfl) h.2 h.1 rfl
  have ga := gAll_bl (ds.map isN)
  have em : ds.map (fun d => D.bl (isN d)) = (ds.map isN).map D.bl := by rw [List.map_map]; rfl
  rw [em] at lc
  refine op1x_ok lc (ga.trans ?_)
  show some _ = some _
  congr 3
  rw [List.all_map]
  rfl
def lenB (a b : Nat) : D → Bool
  | .tup ds => decide (a ≤ ds.length) && decide (ds.length ≤ b)
  | _ => false
def isSh (d : D) : Bool := isWd d && lenB 1 5 d
theorem chain_len {ga gc : aE} {ρ : Store} {i a b : Nat} {ds : List D} (h1 : ga ρ = .ok (.sh (.int (a : Int))) ρ) (h2 : ρ[i]? = some (some (.sh (.tup ds)))) (h3 : gc ρ = .ok (.sh (.int (b : Int))) ρ) :
    aChain gLe gLe ga (aOp [.pl i] (l1 gLen)) gc ρ = .ok (.sh (.bl (lenB a b (.tup ds)))) ρ := by
  rw [chain_le h1 (op1_ok h2 rfl) h3]
  congr 3
  show _ = (decide (a ≤ ds.length) && decide (ds.length ≤ b))
  rw [← Bool.decide_and, ← Bool.decide_and, decide_eq_decide]
  omega
theorem t_is_short {d : D} (h : Fine d) : d_is_short [.sh d] = .ret (.sh (.bl (isSh d))) [.sh d] := by
  unfold d_is_short
  refine def_ret (ρ := [some (.sh d)]) rfl (ret_ok (andv_ok (b_ok (calls1 rfl (t_is_word h))) fun ht => ?_)) rfl
  obtain ⟨ds, rfl⟩ : ∃ ds, d = .tup ds := by cases d <;> first | exact ⟨_, rfl⟩ | cases ht
  exact chain_len (i := 0) (a := 1) (b := 5) rfl rfl rfl
theorem none_odd (ds : List D) : decide ((ds.filter fun d => !isN d) = []) = ds.all isN := by
  rw [Bool.eq_iff_iff, decide_eq_true_eq, List.filter_eq_nil_iff, List.all_eq_true]
  simp
theorem t_is_row {d : D} (h : Fine d) : d__law_is_row [.sh d] = .ret (.sh (.bl (isSh d))) [.sh d] := by
  have hT := isi_T (fine_kn h)
  unfold d__law_is_row
  have e : isSh d = (isT d && (lenB 1 5 d && isWd d)) := by
    unfold isSh
    cases d <;> first | rfl | (rw [Bool.and_comm]; rfl)
  rw [e]
  refine def_ret (ρ := [some (.sh d), none]) rfl (ret_ok (andv_ok (b_ok (op1_ok rfl hT)) fun ht => ?_)) rfl
  obtain ⟨ds, rfl⟩ : ∃ ds, d = .tup ds := by cases d <;> first | exact ⟨_, rfl⟩ | cases ht
  rw [fine_tup] at h
  refine andv_ok (b_ok (chain_len (i := 0) (a := 1) (b := 5) rfl rfl rfl)) fun _ => ?_
  have lc := odd_names (F := d__law_is_name) (src := aItems (aVar 0)) (i := 1) (ρ := [some (.sh (.tup ds)), none]) (fun d hd => f_law_is_name hd) (items_ok (var_ok rfl) rfl) h.2 h.1 rfl
  refine op_xx lc rfl ((gEqE_nil _).trans ?_)
  rw [none_odd]
  rfl
end Lw
end
section
open PySem L2 Den
namespace Lw
/-! ### two names; resets -/
def strD' : D → Str
  | .str z => z
  | _ => ""
def twoB : List D → Bool
  | [a, b] => isN a && (isN b && !decide (strD' a = strD' b))
  | _ => false
theorem isN_str {d : D} (h : isN d = true) : d = .str (strD' d) := by cases d <;> first | rfl | cases h
theorem ne_names {a b : D} (h1 : isN a = true) (h2 : isN b = true) : gNe (.sh a) (.sh b) = some (.sh (.bl (!decide (strD' a = strD' b)))) := by
  rw [isN_str h1, isN_str h2]
  exact gNe_str _ _
theorem ix_tup {ds : List D} {i : Nat} {d : D} (h : ds[i]? = some d) : gIx (.sh (.tup ds)) (.sh (.int (i : Int))) = some (.sh d) := by
  rw [gIx_tup, Den.atI_nat, h]
  rfl
theorem ix_ok {i j : Nat} {ρ : Store} {ds : List D} {d : D} (h : ρ[i]? = some (some (.sh (.tup ds)))) (hd : ds[j]? = some d) : aOp [.pl i, .ex (aC (.int (j : Int)))] (l2 gIx) ρ = .ok (.sh d) ρ :=
  op_pl_ex h rfl h (ix_tup hd)
theorem len_eq {i : Nat} {k : Nat} {ρ : Store} {ds : List D} (h : ρ[i]? = some (some (.sh (.tup ds)))) : aOp [.ex (aOp [.pl i] (l1 gLen)), .ex (aC (.int (k : Int)))] (l2 gEq) ρ = .ok (.sh (.bl (decide (ds.length = k)))) ρ := by
  refine op_xx (op1_ok h rfl) rfl ?_
  rw [gEq_int]
  congr 4
  simp only [eq_iff_iff]
  omega
theorem len_ne {i : Nat} {k : Nat} {ρ : Store} {ds : List D} (h : ρ[i]? = some (some (.sh (.tup ds)))) : aOp [.ex (aOp [.pl i] (l1 gLen)), .ex (aC (.int (k : Int)))] (l2 gNe) ρ = .ok (.sh (.bl (!decide (ds.length = k)))) ρ := by
  refine op_xx (op1_ok h rfl) rfl ?_
  rw [gNe_int]
  congr 5
  simp only [eq_iff_iff]
  omega
theorem t_are_two {ds : List D} (h : ∀ d ∈ ds, Fine d) : d_are_two [.sh (.tup ds)] = .ret (.sh (.bl (twoB ds))) [.sh (.tup ds)] := by
  unfold d_are_two
  have e : twoB ds = (decide (ds.length = 2) && twoB ds) := by
    match ds with
    | [] => rfl
    | [_] => rfl
    | [_, _] => simp
    | _ :: _ :: _ :: r => simp [twoB]
  rw [e]
  refine def_ret (ρ := [some (.sh (.tup ds))]) rfl (ret_ok (andv_ok (b_ok (len_eq (i := 0) (k := 2) rfl)) fun h2 => ?_)) rfl
  match ds, h2, h with
  | [a, b], _, h =>
    have i0 := ix_ok (i := 0) (j := 0) (ρ := [some (.sh (.tup [a, b]))]) rfl rfl
    have i1 := ix_ok (i := 0) (j := 1) (ρ := [some (.sh (.tup [a, b]))]) rfl rfl
    refine andv_ok (b_ok (callx1 i0 (f_is_name (h a (by simp))))) fun ha => andv_ok (b_ok (callx1 i1 (f_is_name (h b (by simp))))) fun hb => ?_
    exact op_xx i0 i1 (ne_names ha hb)
  | [], z, _ => simp at z
  | [_], z, _ => simp at z
  | _ :: _ :: _ :: r, z, _ => simp at z
def wholeB : D → Bool
  | .int i => decide (1 ≤ i) && decide (i ≤ 6)
  | _ => false
theorem t_is_whole {d : D} (h : Fine d) : d_is_whole [.sh d, .sh (.int 1), .sh (.int 6)] = .ret (.sh (.bl (wholeB d))) [.sh d, .sh (.int 1), .sh (.int 6)] := by
  have hI := isi_I (fine_kn h)
  have hB := isi_B (fine_kn h)
  unfold d_is_whole
  cases d with
  | int i =>
    have c1 : aNot (aB (aOp [.pl 0] (l1 (gIsi "int")))) [some (.sh (.int i)), some (.sh (.int 1)), some (.sh (.int 6))] = .ok false [some (.sh (.int i)), some (.sh (.int 1)), some (.sh (.int 6))] := not_ok (b := true) (b_ok (op1_ok rfl hI))
    have c2 : aB (aOp [.pl 0] (l1 (gIsi "bool"))) [some (.sh (.int i)), some (.sh (.int 1)), some (.sh (.int 6))] = .ok false [some (.sh (.int i)), some (.sh (.int 1)), some (.sh (.int 6))] := b_ok (op1_ok rfl hB)
    have c3 : aB (aOp [.pl 0, .pl 1] (l2 gLt)) [some (.sh (.int i)), some (.sh (.int 1)), some (.sh (.int 6))] = .ok (decide (i < 1)) [some (.sh (.int i)), some (.sh (.int 1)), some (.sh (.int 6))] := b_ok (op2_ok rfl rfl rfl)
    by_cases hi : i < 1
    · have e : wholeB (.int i) = false := by simp only [wholeB]; rw [decide_eq_false (by omega)]; rfl
      rw [decide_eq_true hi] at c3
      rw [e]
      exact def_ret rfl (seq_ret (or_ok2 c1 (or_ok2 c2 c3)) (ret_ok rfl)) rfl
    · have e : wholeB (.int i) = decide (i ≤ 6) := by simp only [wholeB]; rw [decide_eq_true (by omega)]; rfl
      rw [decide_eq_false hi] at c3
      rw [e]
      refine def_ret (ρ := [some (.sh (.int i)), some (.sh (.int 1)), some (.sh (.int 6))]) rfl ((seq_skip (or_ok2 c1 (or_ok2 c2 c3))).trans (ret_ok ?_)) rfl
      have c4 : aB (aOp [.pl 2] (l1 gIsN)) [some (.sh (.int i)), some (.sh (.int 1)), some (.sh (.int 6))] = .ok false [some (.sh (.int i)), some (.sh (.int 1)), some (.sh (.int 6))] := b_ok (op1_ok rfl rfl)
      have c5 : aOp [.pl 0, .pl 2] (l2 gLe) [some (.sh (.int i)), some (.sh (.int 1)), some (.sh (.int 6))] = .ok (.sh (.bl (decide (i ≤ 6)))) [some (.sh (.int i)), some (.sh (.int 1)), some (.sh (.int 6))] := op2_ok rfl rfl rfl
      simp [aOrV, c4, c5, Res.bind]
  | bl b =>
    have c1 : aNot (aB (aOp [.pl 0] (l1 (gIsi "int")))) [some (.sh (.bl b)), some (.sh (.int 1)), some (.sh (.int 6))] = .ok false [some (.sh (.bl b)), some (.sh (.int 1)), some (.sh (.int 6))] := not_ok (b := true) (b_ok (op1_ok rfl hI))
    have c2 : aB (aOp [.pl 0] (l1 (gIsi "bool"))) [some (.sh (.bl b)), some (.sh (.int 1)), some (.sh (.int 6))] = .ok true [some (.sh (.bl b)), some (.sh (.int 1)), some (.sh (.int 6))] := b_ok (op1_ok rfl hB)
    exact def_ret (ρ := [some (.sh (.bl b)), some (.sh (.int 1)), some (.sh (.int 6))]) rfl (seq_ret (or_ok2 c1 (or_ok1 c2)) (ret_ok rfl)) rfl
  | non => exact def_ret (ρ := [some (.sh .non), some (.sh (.int 1)), some (.sh (.int 6))]) rfl (seq_ret (or_ok1 (not_ok (b := false) (b_ok (op1_ok rfl hI)))) (ret_ok rfl)) rfl
  | str z => exact def_ret (ρ := [some (.sh (.str z)), some (.sh (.int 1)), some (.sh (.int 6))]) rfl (seq_ret (or_ok1 (not_ok (b := false) (b_ok (op1_ok rfl hI)))) (ret_ok rfl)) rfl
  | tup z => exact def_ret (ρ := [some (.sh (.tup z)), some (.sh (.int 1)), some (.sh (.int 6))]) rfl (seq_ret (or_ok1 (not_ok (b := false) (b_ok (op1_ok rfl hI)))) (ret_ok rfl)) rfl
  | lst z => exact def_ret (ρ := [some (.sh (.lst z)), some (.sh (.int 1)), some (.sh (.int 6))]) rfl (seq_ret (or_ok1 (not_ok (b := false) (b_ok (op1_ok rfl hI)))) (ret_ok rfl)) rfl
  | dic z => exact def_ret (ρ := [some (.sh (.dic z)), some (.sh (.int 1)), some (.sh (.int 6))]) rfl (seq_ret (or_ok1 (not_ok (b := false) (b_ok (op1_ok rfl hI)))) (ret_ok rfl)) rfl
  | wls z => simp [Fine] at h
  | obj c z => simp [Fine] at h
  | xd z => simp [Fine] at h
theorem tv_ok {p : aT} {ρ ρ' : Store} {b : Bool} (h : p ρ = .ok b ρ') : aTV p ρ = .ok (.sh (.bl b)) ρ' := by simp [aTV, h, Res.bind]
theorem t_law_is_whole {d : D} (h : Fine d) : d__law_is_whole [.sh d, .sh (.int 1), .sh (.int 6)] = .ret (.sh (.bl (wholeB d))) [.sh d, .sh (.int 1), .sh (.int 6)] := by
  have hI := isi_I (fine_kn h)
  have hB := isi_B (fine_kn h)
  unfold d__law_is_whole
  have e : wholeB d = (isI d && (!isBo d && wholeB d)) := by cases d <;> rfl
  rw [e]
  refine def_ret (ρ := [some (.sh d), some (.sh (.int 1)), some (.sh (.int 6))]) rfl (ret_ok (andv_ok (b_ok (op1_ok rfl hI)) fun h1 => andv_ok ?_ fun h2 => ?_)) rfl
  · have c := not_ok (b_ok (op1_ok (i := 0) (ρ := [some (.sh d), some (.sh (.int 1)), some (.sh (.int 6))]) rfl hB))
    exact b_ok (tv_ok c)
  · obtain ⟨i, rfl⟩ : ∃ i, d = .int i := by cases d <;> first | exact ⟨_, rfl⟩ | (cases h1; done) | (cases h2; done)
    exact chain_le (a := 1) (b := i) (c := 6) (var_ok rfl) (var_ok rfl) (var_ok rfl)
end Lw
end
section
open PySem L2 Den
namespace Lw
/-! ### resets -/
def ltS (a b : Str) : Bool := decide (a.cps.toList < b.cps.toList)
def ascB : List Str → Bool
  | a :: b :: r => ltS a b && ascB (b :: r)
  | _ => true
def pairs2 : List Str → List (Str × Str)
  | a :: b :: r => (a, b) :: pairs2 (b :: r)
  | _ => []
theorem asc_pairs : ∀ ys : List Str, ascB ys = (pairs2 ys).all fun p => ltS p.1 p.2
  | [] => rfl
  | [_] => rfl
  | a :: b :: r => by rw [ascB, pairs2, List.all_cons, asc_pairs (b :: r)]
def rsB (x : Str) : D → Bool
  | .tup ds => ds.all isN && (decide (ds.length ≤ 3) && (!decide (x ∈ ds.map strD') && ascB (ds.map strD')))
  | _ => false
theorem names_map : ∀ {ds : List D}, ds.all isN = true → ds = (ds.map strD').map D.str
  | [], _ => rfl
  | d :: ds, h => by
    rw [List.all_cons, Bool.and_eq_true] at h
    rw [List.map_cons, List.map_cons, ← isN_str h.1, ← names_map h.2]
theorem lcL_two {A B : Option O} {ge : aE} {f : Str → Str → D} (hg : ∀ a b : Str, ∃ o, ge [A, B, some (.sh (.str a)), some (.sh (.str b))] = .ok o [A, B, some (.sh (.str a)), some (.sh (.str b))] ∧ fz o = f a b) : ∀ ps : List (Str × Str),
    lcL [2, 3] (aUnp [(aN 2), (aN 3)]) aYes ge (ps.map fun p => D.tup [.str p.1, .str p.2]) [A, B, none, none] = .ok (ps.map fun p => f p.1 p.2) [A, B, none, none]
  | [] => rfl
  | p :: ps => by
    obtain ⟨o, e, ef⟩ := hg p.1 p.2
    rw [List.map_cons, List.map_cons, ← ef]
    exact lcL_turn (ρ1 := [A, B, some (.sh (.str p.1)), some (.sh (.str p.2))]) rfl e (lcL_two hg ps)
theorem zip_pairs : ∀ ys : List Str, ((ys.map D.str).zip ((ys.drop 1).map D.str)).map (fun p => D.tup [p.1, p.2]) = (pairs2 ys).map fun p => D.tup [.str p.1, .str p.2]
  | [] => rfl
  | [_] => rfl
  | a :: b :: r => by
    have ih := zip_pairs (b :: r)
    show D.tup [.str a, .str b] :: _ = D.tup [.str a, .str b] :: _
    exact congrArg (_ :: ·) ih
theorem lt_str (a b : Str) : gLt (.sh (.str a)) (.sh (.str b)) = some (.sh (.bl (ltS a b))) := rfl
theorem le_str (a b : Str) : gLe (.sh (.str a)) (.sh (.str b)) = some (.sh (.bl (!ltS b a))) := rfl
theorem t_are_resets {d : D} {x : Str} (h : Fine d) : d_are_resets [.sh d, .sh (.str x)] = .ret (.sh (.bl (rsB x d))) [.sh d, .sh (.str x)] := by
  unfold d_are_resets
  have c1 : aNot (aB (aCall 1 [.pl 0] [] d_is_word)) [some (.sh d), some (.sh (.str x)), none, none] = .ok (!isWd d) [some (.sh d), some (.sh (.str x)), none, none] := not_ok (b_ok (calls1 rfl (t_is_word h)))
  cases hw : isWd d with
  | false =>
    have e : rsB x d = false := by
      cases d <;> first | rfl | skip
      rename_i ds
      show (ds.all isN && _) = false
      have : ds.all isN = false := hw
      rw [this]
      rfl
    rw [hw] at c1
    rw [e]
    exact def_ret (ρ := [some (.sh d), some (.sh (.str x)), none, none]) rfl (seq_ret (or_ok1 c1) (ret_ok rfl)) rfl
  | true =>
    obtain ⟨ds, rfl⟩ : ∃ ds, d = .tup ds := by cases d <;> first | exact ⟨_, rfl⟩ | cases hw
    have hall : ds.all isN = true := hw
    rw [hw] at c1
    have em := names_map hall
    obtain ⟨ys, hys⟩ : ∃ ys, ys = ds.map strD' := ⟨_, rfl⟩
    rw [← hys] at em
    have e : rsB x (.tup ds) = (decide (ys.length ≤ 3) && (!decide (x ∈ ys) && ascB ys)) := by
      show (ds.all isN && _) = _
      rw [hall, ← hys, hys, List.length_map, Bool.true_and]
    rw [e]
    clear e hys hall hw
    subst em
    have c2 : aB (aOp [.ex (aOp [.pl 0] (l1 gLen)), .ex (aC c_MOST_RESETS)] (l2 gGt)) [some (.sh (.tup (ys.map D.str))), some (.sh (.str x)), none, none] = .ok (!decide (ys.length ≤ 3)) [some (.sh (.tup (ys.map D.str))), some (.sh (.str x)), none, none] := by
      refine b_ok (op_xx (op1_ok rfl (gLen_tS ys)) rfl ?_)
      show some (O.sh (D.bl (decide ((3 : Int) < (ys.length : Int))))) = _
      congr 3
      rw [← decide_not, decide_eq_decide]
      omega
    have c3 : aB (aOp [.pl 1, .pl 0] (l2 gIn)) [some (.sh (.tup (ys.map D.str))), some (.sh (.str x)), none, none] = .ok (decide (x ∈ ys)) [some (.sh (.tup (ys.map D.str))), some (.sh (.str x)), none, none] := b_ok (op2_ok rfl rfl (gIn_tS x ys))
    cases h3 : decide (ys.length ≤ 3) with
    | false =>
      rw [h3] at c2
      exact def_ret (ρ := [some (.sh (.tup (ys.map D.str))), some (.sh (.str x)), none, none]) rfl (seq_ret (or_ok2 c1 (or_ok1 c2)) (ret_ok rfl)) rfl
    | true =>
      rw [h3] at c2
      cases hx : decide (x ∈ ys) with
      | true =>
        rw [hx] at c3
        exact def_ret (ρ := [some (.sh (.tup (ys.map D.str))), some (.sh (.str x)), none, none]) rfl (seq_ret (or_ok2 c1 (or_ok2 c2 c3)) (ret_ok rfl)) rfl
      | false =>
        rw [hx] at c3
        refine def_ret (ρ := [some (.sh (.tup (ys.map D.str))), some (.sh (.str x)), none, none]) rfl ((seq_skip (or_ok2 c1 (or_ok2 c2 c3))).trans (ret_ok ?_)) rfl
        have hz : aZip (aVar 0) (aFz (aSl (.pl 0) (some (aC (.int 1))) none gSl)) [some (.sh (.tup (ys.map D.str))), some (.sh (.str x)), none, none] = .ok ((pairs2 ys).map fun p => D.tup [.str p.1, .str p.2]) [some (.sh (.tup (ys.map D.str))), some (.sh (.str x)), none, none] := by
          have s1 : aFz (aSl (.pl 0) (some (aC (.int 1))) none gSl) [some (.sh (.tup (ys.map D.str))), some (.sh (.str x)), none, none] = .ok (.sh (tS (ys.drop 1))) [some (.sh (.tup (ys.map D.str))), some (.sh (.str x)), none, none] := by
            refine fz_ok (o := .sh (tS (ys.drop 1))) (sl_from (j := 1) (evp_ok rfl) rfl (rsp_ok rfl) ?_)
            have := gSl_tS ys (some 1) none
            have c := cut_from ys 1
            rw [show ((1 : Nat) : Int) = 1 from rfl] at c
            rw [c] at this
            exact this
          unfold aZip
          rw [var_ok (i := 0) (d := .tup (ys.map D.str)) rfl]
          simp only [Res.bind, s1]
          exact congrArg (fun z => Res.ok z _) (zip_pairs ys)
        have lc : aLc (aZip (aVar 0) (aFz (aSl (.pl 0) (some (aC (.int 1))) none gSl))) [2, 3] (aUnp [(aN 2), (aN 3)]) aYes (aOp [.pl 2, .pl 3] (l2 gLt)) [some (.sh (.tup (ys.map D.str))), some (.sh (.str x)), none, none] =
            .ok (.lst (((pairs2 ys).map fun p => D.bl (ltS p.1 p.2)).map O.sh)) [some (.sh (.tup (ys.map D.str))), some (.sh (.str x)), none, none] := by
          have l0 := lcL_two (A := some (.sh (.tup (ys.map D.str)))) (B := some (.sh (.str x))) (ge := aOp [.pl 2, .pl 3] (l2 gLt)) (f := fun a b => .bl (ltS a b)) (fun a b => ⟨_, op2_ok rfl rfl (lt_str a b), rfl⟩) (pairs2 ys)
          have pl : ∀ zs : List Str, (pairs2 zs).length ≤ zs.length := by
            intro zs
            induction zs with
            | nil => simp [pairs2]
            | cons a r ih =>
              cases r with
              | nil => simp [pairs2]
              | cons b r => rw [pairs2, List.length_cons, List.length_cons]; omega
          have h3' := of_decide_eq_true h3
          have p3 := pl ys
          unfold aLc
          rw [hz]
          simp only [Res.bind]
          rw [if_pos (by rw [List.length_map]; omega)]
          have w : wipeS [some (O.sh (.tup (ys.map D.str))), some (.sh (.str x)), none, none] [2, 3] = [some (.sh (.tup (ys.map D.str))), some (.sh (.str x)), none, none] := rfl
          rw [w, l0]
          rfl
        have em : ((pairs2 ys).map fun p => D.bl (ltS p.1 p.2)) = ((pairs2 ys).map fun p => ltS p.1 p.2).map D.bl := by rw [List.map_map]; rfl
        rw [em] at lc
        refine op1x_ok lc ((gAll_bl _).trans ?_)
        rw [asc_pairs, List.all_map]
        rfl
end Lw
end
section
open PySem L2 Den
namespace Lw
/-! ### plain sentences judged -/
def itms : D → List Str
  | .tup ds => ds.map strD'
  | _ => []
def pNever : List D → Bool
  | [a] => isSh a
  | _ => false
def pUntil : List D → Bool
  | [a, b] => isN a && (isSh b && !decide (strD' a ∈ itms b))
  | _ => false
def pThree (k : Str) : List D → Bool
  | [a, b, c] => wholeB a && (if k = "within" then twoB [b, c] else decide (k = "most") && (isN b && rsB (strD' b) c))
  | _ => false
def plB (k : Str) (rest : List D) : Bool :=
  if k = "never" then pNever rest else if k = "until" then pUntil rest else if k = "after" ∨ k = "turns" then twoB rest else pThree k rest
theorem gIn_oS (c : Str) (xs : List Str) : gIn (.sh (.str c)) (oS xs) = some (.sh (.bl (decide (c ∈ xs)))) := by
  have h := gNotIn_oS c xs
  simp only [gNotIn, Option.map_eq_some_iff] at h
  obtain ⟨b, hb, e⟩ := h
  simp only [gIn, hb, Option.map_some]
  injection e with e
  injection e with e
  congr 3
  cases b <;> cases hd : decide (c ∈ xs) <;> rw [hd] at e <;> first | rfl | cases e
theorem sl_rest {i : Nat} {ρ : Store} {d : D} {ds : List D} (h : ρ[i]? = some (some (.sh (.tup (d :: ds))))) : aSl (.pl i) (some (aC (.int 1))) none gSl ρ = .ok (.sh (.tup ds)) ρ := by
  refine sl_from (j := 1) (evp_ok h) rfl (rsp_ok h) ?_
  rw [gSl_tup]
  have := cut_from (d :: ds) 1
  rw [show ((1 : Nat) : Int) = 1 from rfl] at this
  rw [this]
  rfl
theorem notin_names {a b : D} (h1 : isN a = true) (h2 : isSh b = true) : gNotIn (.sh a) (.sh b) = some (.sh (.bl (!decide (strD' a ∈ itms b)))) := by
  obtain ⟨ds, rfl⟩ : ∃ ds, b = .tup ds := by cases b <;> first | exact ⟨_, rfl⟩ | cases h2
  have hall : ds.all isN = true := (Bool.and_eq_true_iff.mp h2).1
  have em := names_map hall
  rw [isN_str h1]
  show gNotIn (.sh (.str (strD' a))) (.sh (.tup ds)) = some (.sh (.bl (!decide (strD' a ∈ ds.map strD'))))
  obtain ⟨ys, hys⟩ : ∃ ys, ys = ds.map strD' := ⟨_, rfl⟩
  rw [← hys] at em ⊢
  rw [em]
  exact gNotIn_tS _ ys
section
variable {k : Str} {rest : List D} (h : ∀ d ∈ rest, Fine d)
include h
theorem k_is' {V : Option O} {w : Str} : aB (aOp [.pl 1, .ex (aC (.str w))] (l2 gEq)) [V, some (.sh (.str k)), some (.sh (.tup rest))] = .ok (decide (k = w)) [V, some (.sh (.str k)), some (.sh (.tup rest))] := b_ok (op_pl_ex rfl rfl rfl (gEq_str k w))
theorem t_is_plain : d_is_plain [.sh (.tup (.str k :: rest))] = .ret (.sh (.bl (plB k rest))) [.sh (.tup (.str k :: rest))] := by
  obtain ⟨V, hV⟩ : ∃ V, V = some (O.sh (.tup (.str k :: rest))) := ⟨_, rfl⟩
  have p0 := par_ok (i := 1) (j := 2) (g := aOp [.pl 0, .ex (aC (.int 0))] (l2 gIx)) (h := aSl (.pl 0) (some (aC (.int 1))) none gSl) (ρ := [some (.sh (.tup (.str k :: rest))), none, none]) (ix_ok (j := 0) rfl rfl) (sl_rest rfl) (by simp) (by simp)
  have kq := fun w => k_is' (k := k) (rest := rest) h (V := V) (w := w)
  have lq := fun j => len_eq (i := 2) (k := j) (ρ := [V, some (.sh (.str k)), some (.sh (.tup rest))]) rfl
  have fin : ∀ {body : aS} {b : Bool}, body [V, some (.sh (.str k)), some (.sh (.tup rest))] = .ret (.sh (.bl b)) [V, some (.sh (.str k)), some (.sh (.tup rest))] → aDef [true] 3 (sSeq (sPar 1 2 (aOp [.pl 0, .ex (aC (.int 0))] (l2 gIx)) (aSl (.pl 0) (some (aC (.int 1))) none gSl)) body) [.sh (.tup (.str k :: rest))] = .ret (.sh (.bl b)) [.sh (.tup (.str k :: rest))] := by
    intro body b hb
    subst hV
    exact def_ret rfl ((seq_nx p0).trans hb) rfl
  unfold d_is_plain
  refine fin ?_
  clear fin p0
  unfold plB
  by_cases k1 : k = "never"
  · rw [if_pos k1]
    refine seq_ret ((kq "never").trans (by rw [decide_eq_true k1])) (ret_ok ?_)
    have e : pNever rest = (decide (rest.length = 1) && pNever rest) := by
      match rest with
      | [] => rfl
      | [_] => simp
      | _ :: _ :: r => simp [pNever]
    rw [e]
    refine andv_ok (b_ok (lq 1)) fun hl => ?_
    match rest, hl, h with
    | [a], _, h => exact callx1 (ix_ok (j := 0) rfl rfl) (t_is_short (h a (by simp)))
    | [], z, _ => simp at z
    | _ :: _ :: r, z, _ => simp at z
  · rw [if_neg k1]
    refine (seq_skip ((kq "never").trans (by rw [decide_eq_false k1]))).trans ?_
    by_cases k2 : k = "until"
    · rw [if_pos k2]
      refine seq_ret ((kq "until").trans (by rw [decide_eq_true k2])) (ret_ok ?_)
      have e : pUntil rest = (decide (rest.length = 2) && pUntil rest) := by
        match rest with
        | [] => rfl
        | [_] => rfl
        | [_, _] => simp
        | _ :: _ :: _ :: r => simp [pUntil]
      rw [e]
      refine andv_ok (b_ok (lq 2)) fun hl => ?_
      match rest, hl, h with
      | [a, b], _, h =>
        have i0 := ix_ok (i := 2) (j := 0) (ρ := [V, some (.sh (.str k)), some (.sh (.tup [a, b]))]) rfl rfl
        have i1 := ix_ok (i := 2) (j := 1) (ρ := [V, some (.sh (.str k)), some (.sh (.tup [a, b]))]) rfl rfl
        exact andv_ok (b_ok (callx1 i0 (f_is_name (h a (by simp))))) fun ha => andv_ok (b_ok (callx1 i1 (t_is_short (h b (by simp))))) fun hb => op_xx i0 i1 (notin_names ha hb)
      | [], z, _ => simp at z
      | [_], z, _ => simp at z
      | _ :: _ :: _ :: r, z, _ => simp at z
    · rw [if_neg k2]
      refine (seq_skip ((kq "until").trans (by rw [decide_eq_false k2]))).trans ?_
      have kin : aB (aOp [.pl 1, .ex (aOp [.ex (aC (.str "after")), .ex (aC (.str "turns"))] Den.gTup)] (l2 gIn)) [V, some (.sh (.str k)), some (.sh (.tup rest))] = .ok (decide (k = "after" ∨ k = "turns")) [V, some (.sh (.str k)), some (.sh (.tup rest))] := by
        refine b_ok (op_pl_ex (i := 1) (S0 := .sh (.str k)) (S := .sh (.str k)) (a := .sh (tS ["after", "turns"])) rfl (op_e2 rfl rfl (gTup_str2 _ _)) rfl ?_)
        rw [gIn_tS]
        congr 3
        rw [decide_eq_decide]
        simp
      by_cases k3 : k = "after" ∨ k = "turns"
      · rw [if_pos k3]
        exact seq_ret (kin.trans (by rw [decide_eq_true k3])) (ret_ok (calls1 (i := 2) rfl (t_are_two h)))
      · rw [if_neg k3]
        refine (seq_skip (kin.trans (by rw [decide_eq_false k3]))).trans ?_
        by_cases h3 : rest.length = 3
        · match rest, h3, h with
          | [a, b, c], _, h =>
            have i0 := ix_ok (i := 2) (j := 0) (ρ := [V, some (.sh (.str k)), some (.sh (.tup [a, b, c]))]) rfl rfl
            have i1 := ix_ok (i := 2) (j := 1) (ρ := [V, some (.sh (.str k)), some (.sh (.tup [a, b, c]))]) rfl rfl
            have i2 := ix_ok (i := 2) (j := 2) (ρ := [V, some (.sh (.str k)), some (.sh (.tup [a, b, c]))]) rfl rfl
            have l3 := b_ok (len_ne (i := 2) (k := 3) (ρ := [V, some (.sh (.str k)), some (.sh (.tup [a, b, c]))]) rfl)
            have cw := not_ok (b_ok (callx3 (b := .int 1) (c := .int 6) i0 (t_is_whole (h a (by simp)))))
            show _ = Out.ret (.sh (.bl (wholeB a && _))) _
            cases hw : wholeB a with
            | false =>
              rw [hw] at cw
              exact seq_ret (or_ok2 l3 cw) (ret_ok rfl)
            | true =>
              rw [hw] at cw
              refine (seq_skip (or_ok2 l3 cw)).trans ?_
              have kq' := fun w => k_is' (k := k) (rest := [a, b, c]) h (V := V) (w := w)
              rw [Bool.true_and]
              by_cases k4 : k = "within"
              · rw [if_pos k4]
                refine seq_ret ((kq' "within").trans (by rw [decide_eq_true k4])) (ret_ok ?_)
                exact callx1 (sl_rest rfl) (t_are_two (ds := [b, c]) fun d hd => h d (List.mem_cons_of_mem _ hd))
              · rw [if_neg k4]
                refine (seq_skip ((kq' "within").trans (by rw [decide_eq_false k4]))).trans (ret_ok ?_)
                refine andv_ok (kq' "most") fun _ => andv_ok (b_ok (callx1 i1 (f_is_name (h b (by simp))))) fun hb => ?_
                have r := t_are_resets (d := c) (x := strD' b) (h c (by simp))
                rw [← isN_str hb] at r
                exact callx2 i2 i1 r
        · have e : pThree k rest = false := by
            match rest, h3 with
            | [], _ => rfl
            | [_], _ => rfl
            | [_, _], _ => rfl
            | [_, _, _], z => simp at z
            | _ :: _ :: _ :: _ :: r, _ => rfl
          rw [e]
          have l3 := b_ok (len_ne (i := 2) (k := 3) (ρ := [V, some (.sh (.str k)), some (.sh (.tup rest))]) rfl)
          rw [decide_eq_false h3] at l3
          exact seq_ret (or_ok1 l3) (ret_ok rfl)
end
end Lw
end
section
open PySem L2 Den
namespace Lw
theorem asc_ix : ∀ ys : List Str, ys.length ≤ 3 → ascB ys = (List.range (ys.length - 1)).all fun k => ltS (ys.getD k "") (ys.getD (k + 1) "")
  | [], _ => rfl
  | [_], _ => rfl
  | [a, b], _ => by simp [ascB, List.range, List.range.loop]
  | [a, b, c], _ => by simp [ascB, List.range, List.range.loop]
  | _ :: _ :: _ :: _ :: r, h => by simp at h
theorem len_gt {g : aE} {k : Nat} {ρ : Store} {ds : List D} (h : g ρ = .ok (.sh (.tup ds)) ρ) : aOp [.ex (aOp [.ex g] (l1 gLen)), .ex (aC (.int (k : Int)))] (l2 gGt) ρ = .ok (.sh (.bl (!decide (ds.length ≤ k)))) ρ := by
  refine op_xx (op1x_ok h rfl) rfl ?_
  show some (O.sh (D.bl (decide ((k : Int) < (ds.length : Int))))) = _
  congr 3
  rw [← decide_not, decide_eq_decide]
  omega
theorem names_tS {ds : List D} (h : ds.all isN = true) : D.tup ds = tS (ds.map strD') := congrArg D.tup (names_map h)
theorem asc_comp {V K R : Option O} {g : aE} {ys : List Str} (yl : ys.length ≤ 3) (hg : ∀ x : Option O, g [V, K, R, none, x] = .ok (.sh (tS ys)) [V, K, R, none, x]) :
    aOp [.ex (aLc (aRng2 (.ex (aC (.int 1))) (.ex (aOp [.ex g] (l1 gLen)))) [4] (aN 4) (aB (aOp [.ex (aOp [.ex g, .pl 4] (l2 gIx)), .ex (aOp [.ex g, .ex (aOp [.pl 4, .ex (aC (.int 1))] (l2 Den.gSub))] (l2 gIx))] (l2 gLe))) (aVar 4)), .ex (aOp [] gLstS)] (l2 gEqE) [V, K, R, none, none] = .ok (.sh (.bl (ascB ys))) [V, K, R, none, none] := by
  obtain ⟨xs, hxs⟩ : ∃ xs : List Int, xs = (List.range (ys.length - 1)).map fun k : Nat => (1 : Int) + (k : Int) := ⟨_, rfl⟩
  have src : aRng2 (.ex (aC (.int 1))) (.ex (aOp [.ex g] (l1 gLen))) [V, K, R, none, none] = .ok (xs.map D.int) [V, K, R, none, none] := by
    have ev : evA [.ex (aC (.int 1)), .ex (aOp [.ex g] (l1 gLen))] [V, K, R, none, none] = .ok [.o (.sh (.int 1)), .o (.sh (.int (ys.length : Int)))] [V, K, R, none, none] := by
      have hl := op1x_ok (f := gLen) (hg none) (gLen_tS ys)
      simp [evA, aC, Res.bind, hl]
    have rv : rsv [V, K, R, none, none] [.o (.sh (.int 1)), .o (.sh (.int (ys.length : Int)))] = some [.sh (.int 1), .sh (.int (ys.length : Int))] := rfl
    unfold aRng2
    rw [ev]
    simp only [Res.bind, rv]
    rw [if_pos (by omega), hxs, List.map_map]
    have : ((ys.length : Int) - 1).toNat = ys.length - 1 := by omega
    rw [this]
    rfl
  have lc := aLc_fI (src := aRng2 (.ex (aC (.int 1))) (.ex (aOp [.ex g] (l1 gLen)))) (i := 4) (tt := aB (aOp [.ex (aOp [.ex g, .pl 4] (l2 gIx)), .ex (aOp [.ex g, .ex (aOp [.pl 4, .ex (aC (.int 1))] (l2 Den.gSub))] (l2 gIx))] (l2 gLe))) (ge := aVar 4) (ρ := [V, K, R, none, none]) (xs := xs)
    (fun y => !ltS (ys.getD (y.toNat - 1) "") (ys.getD y.toNat "")) src (by rw [hxs]; simp; omega) rfl (fun y hy => by
      rw [hxs] at hy
      obtain ⟨k, hk, rfl⟩ := List.mem_map.mp hy
      have hk2 := List.mem_range.mp hk
      have e1 : (1 : Int) + (k : Int) = ((k + 1 : Nat) : Int) := by omega
      have e2 : ((k + 1 : Nat) : Int) - 1 = (k : Int) := by omega
      rw [e1]
      show _ = Res.ok (!ltS (ys.getD (k + 1 - 1) "") (ys.getD (k + 1) "")) _
      rw [Nat.add_sub_cancel]
      have x1 : ys[k + 1]? = some (ys.getD (k + 1) "") := by rw [List.getD_eq_getElem?_getD, List.getElem?_eq_getElem (by omega)]; rfl
      have x0 : ys[k]? = some (ys.getD k "") := by rw [List.getD_eq_getElem?_getD, List.getElem?_eq_getElem (by omega)]; rfl
      have i1 : aOp [.pl 4, .ex (aC (.int 1))] (l2 Den.gSub) [V, K, R, none, some (.sh (.int ((k + 1 : Nat) : Int)))] = .ok (.sh (.int (k : Int))) [V, K, R, none, some (.sh (.int ((k + 1 : Nat) : Int)))] := by
        refine op_pl_ex (i := 4) rfl rfl rfl ?_
        show some (O.sh (D.int _)) = _
        rw [e2]
      exact b_ok (op_xx (op_ex_pl (hg _) rfl (gIx_tS x1)) (op_xx (hg _) i1 (gIx_tS x0)) (le_str _ _))) (fun y _ => var_ok rfl)
  have e0 : aOp [] gLstS [V, K, R, none, none] = .ok (.lst []) [V, K, R, none, none] := rfl
  obtain ⟨zs, hzs⟩ : ∃ zs, zs = xs.filter fun y => !ltS (ys.getD (y.toNat - 1) "") (ys.getD y.toNat "") := ⟨_, rfl⟩
  rw [← hzs] at lc
  have fin : decide (zs.map D.int = []) = ascB ys := by
    rw [hzs]
    clear lc src e0 hg hzs
    rw [asc_ix ys yl, Bool.eq_iff_iff, decide_eq_true_eq, List.map_eq_nil_iff, List.filter_eq_nil_iff, List.all_eq_true, hxs]
    constructor
    · intro hh k hk
      have := hh _ (List.mem_map_of_mem hk)
      have e1 : ((1 : Int) + (k : Int)).toNat = k + 1 := by omega
      rw [e1, Nat.add_sub_cancel] at this
      simpa using this
    · intro hh y hy
      obtain ⟨k, hk, rfl⟩ := List.mem_map.mp hy
      have e1 : ((1 : Int) + (k : Int)).toNat = k + 1 := by omega
      rw [e1, Nat.add_sub_cancel, hh k hk]
      simp
  rw [← fin]
  exact op_xx (a := oI zs) (b := .lst []) lc e0 (gEqE_nil (zs.map D.int))
section
variable {k : Str} {rest : List D} (h : ∀ d ∈ rest, Fine d)
include h
theorem k_ls {V : Option O} {w : Str} : aB (aOp [.pl 1, .ex (aC (.str w))] (l2 gEq)) [V, some (.sh (.str k)), some (.sh (.tup rest)), none, none] = .ok (decide (k = w)) [V, some (.sh (.str k)), some (.sh (.tup rest)), none, none] := b_ok (op_pl_ex rfl rfl rfl (gEq_str k w))
theorem t_law_is_plain : d__law_is_plain [.sh (.tup (.str k :: rest))] = .ret (.sh (.bl (plB k rest))) [.sh (.tup (.str k :: rest))] := by
  obtain ⟨V, hV⟩ : ∃ V, V = some (O.sh (.tup (.str k :: rest))) := ⟨_, rfl⟩
  have p0 := asg_ok (g := aOp [.ex (aFz (aOp [.pl 0, .ex (aC (.int 0))] (l2 gIx))), .ex (aFz (aSl (.pl 0) (some (aC (.int 1))) none gSl))] Den.gTup) (tg := aUnp [(aN 1), (aN 2)]) (ρ := [some (.sh (.tup (.str k :: rest))), none, none, none, none]) (o := .sh (.tup [.str k, .tup rest]))
    (op_e2 (fz_ok (ix_ok (j := 0) rfl rfl)) (fz_ok (sl_rest rfl)) (gTup_sh [.str k, .tup rest] (by simp))) (ρ2 := [some (.sh (.tup (.str k :: rest))), some (.sh (.str k)), some (.sh (.tup rest)), none, none]) rfl
  have kq := fun w => k_ls (k := k) (rest := rest) h (V := V) (w := w)
  have lq := fun j => len_eq (i := 2) (k := j) (ρ := [V, some (.sh (.str k)), some (.sh (.tup rest)), none, none]) rfl
  have fin : ∀ {body : aS} {b : Bool}, body [V, some (.sh (.str k)), some (.sh (.tup rest)), none, none] = .ret (.sh (.bl b)) [V, some (.sh (.str k)), some (.sh (.tup rest)), none, none] → aDef [true] 5 (sSeq (sAsg (aOp [.ex (aFz (aOp [.pl 0, .ex (aC (.int 0))] (l2 gIx))), .ex (aFz (aSl (.pl 0) (some (aC (.int 1))) none gSl))] Den.gTup) (aUnp [(aN 1), (aN 2)])) body) [.sh (.tup (.str k :: rest))] = .ret (.sh (.bl b)) [.sh (.tup (.str k :: rest))] := by
    intro body b hb
    subst hV
    exact def_ret rfl ((seq_nx p0).trans hb) rfl
  unfold d__law_is_plain
  refine fin ?_
  clear fin p0
  unfold plB
  by_cases k1 : k = "never"
  · rw [if_pos k1]
    refine seq_ret ((kq "never").trans (by rw [decide_eq_true k1])) (ret_ok ?_)
    have e : pNever rest = (decide (rest.length = 1) && pNever rest) := by
      match rest with
      | [] => rfl
      | [_] => simp
      | _ :: _ :: r => simp [pNever]
    rw [e]
    refine andv_ok (b_ok (lq 1)) fun hl => ?_
    match rest, hl, h with
    | [a], _, h => exact callx1 (ix_ok (j := 0) rfl rfl) (t_is_row (h a (by simp)))
    | [], z, _ => simp at z
    | _ :: _ :: r, z, _ => simp at z
  · rw [if_neg k1]
    refine (seq_skip ((kq "never").trans (by rw [decide_eq_false k1]))).trans ?_
    by_cases k2 : k = "until"
    · rw [if_pos k2]
      refine seq_ret ((kq "until").trans (by rw [decide_eq_true k2])) (ret_ok ?_)
      have e : pUntil rest = (decide (rest.length = 2) && pUntil rest) := by
        match rest with
        | [] => rfl
        | [_] => rfl
        | [_, _] => simp
        | _ :: _ :: _ :: r => simp [pUntil]
      rw [e]
      refine andv_ok (b_ok (lq 2)) fun hl => ?_
      match rest, hl, h with
      | [a, b], _, h =>
        have i0 := ix_ok (i := 2) (j := 0) (ρ := [V, some (.sh (.str k)), some (.sh (.tup [a, b])), none, none]) rfl rfl
        have i1 := ix_ok (i := 2) (j := 1) (ρ := [V, some (.sh (.str k)), some (.sh (.tup [a, b])), none, none]) rfl rfl
        exact andv_ok (b_ok (callx1 i0 (f_law_is_name (h a (by simp))))) fun ha => andv_ok (b_ok (callx1 i1 (t_is_row (h b (by simp))))) fun hb => op_xx i0 i1 (notin_names ha hb)
      | [], z, _ => simp at z
      | [_], z, _ => simp at z
      | _ :: _ :: _ :: r, z, _ => simp at z
    · rw [if_neg k2]
      refine (seq_skip ((kq "until").trans (by rw [decide_eq_false k2]))).trans ?_
      have kin : aB (aOp [.pl 1, .ex (aOp [.ex (aC (.str "after")), .ex (aC (.str "turns"))] gLstS)] (l2 gIn)) [V, some (.sh (.str k)), some (.sh (.tup rest)), none, none] = .ok (decide (k = "after" ∨ k = "turns")) [V, some (.sh (.str k)), some (.sh (.tup rest)), none, none] := by
        refine b_ok (op_pl_ex (i := 1) (S0 := .sh (.str k)) (S := .sh (.str k)) (a := oS ["after", "turns"]) rfl lit_oS2 rfl ?_)
        rw [gIn_oS]
        congr 3
        rw [decide_eq_decide]
        simp
      by_cases k3 : k = "after" ∨ k = "turns"
      · rw [if_pos k3]
        refine seq_ret (kin.trans (by rw [decide_eq_true k3])) (ret_ok ?_)
        have e : twoB rest = (decide (rest.length = 2) && twoB rest) := by
          match rest with
          | [] => rfl
          | [_] => rfl
          | [_, _] => simp
          | _ :: _ :: _ :: r => simp [twoB]
        rw [e]
        refine andv_ok (b_ok (lq 2)) fun hl => ?_
        match rest, hl, h with
        | [a, b], _, h =>
          have i0 := ix_ok (i := 2) (j := 0) (ρ := [V, some (.sh (.str k)), some (.sh (.tup [a, b])), none, none]) rfl rfl
          have i1 := ix_ok (i := 2) (j := 1) (ρ := [V, some (.sh (.str k)), some (.sh (.tup [a, b])), none, none]) rfl rfl
          exact andv_ok (b_ok (callx1 i0 (f_law_is_name (h a (by simp))))) fun ha => andv_ok (b_ok (callx1 i1 (f_law_is_name (h b (by simp))))) fun hb => op_xx i0 i1 (ne_names ha hb)
        | [], z, _ => simp at z
        | [_], z, _ => simp at z
        | _ :: _ :: _ :: r, z, _ => simp at z
      · rw [if_neg k3]
        refine (seq_skip (kin.trans (by rw [decide_eq_false k3]))).trans ?_
        by_cases h3 : rest.length = 3
        · match rest, h3, h with
          | [a, b, c], _, h =>
            have i0 := ix_ok (i := 2) (j := 0) (ρ := [V, some (.sh (.str k)), some (.sh (.tup [a, b, c])), none, none]) rfl rfl
            have i1 := ix_ok (i := 2) (j := 1) (ρ := [V, some (.sh (.str k)), some (.sh (.tup [a, b, c])), none, none]) rfl rfl
            have i2 := ix_ok (i := 2) (j := 2) (ρ := [V, some (.sh (.str k)), some (.sh (.tup [a, b, c])), none, none]) rfl rfl
            have l3 := b_ok (len_ne (i := 2) (k := 3) (ρ := [V, some (.sh (.str k)), some (.sh (.tup [a, b, c])), none, none]) rfl)
            have cw := not_ok (b_ok (callx3 (b := .int 1) (c := .int 6) i0 (t_law_is_whole (h a (by simp)))))
            have cb := not_ok (b_ok (callx1 i1 (f_law_is_name (h b (by simp)))))
            show _ = Out.ret (.sh (.bl (wholeB a && (if k = "within" then isN b && (isN c && !decide (strD' b = strD' c)) else decide (k = "most") && (isN b && rsB (strD' b) c))))) _
            cases hw : wholeB a with
            | false =>
              rw [hw] at cw
              exact seq_ret (or_ok2 l3 (or_ok1 cw)) (ret_ok rfl)
            | true =>
              rw [hw] at cw
              rw [Bool.true_and]
              cases hb : isN b with
              | false =>
                rw [hb] at cb
                have e : (if k = "within" then false && (isN c && !decide (strD' b = strD' c)) else decide (k = "most") && (false && rsB (strD' b) c)) = false := by split <;> simp
                rw [e]
                exact seq_ret (or_ok2 l3 (or_ok2 cw cb)) (ret_ok rfl)
              | true =>
                rw [hb] at cb
                refine (seq_skip (or_ok2 l3 (or_ok2 cw cb))).trans ?_
                have kq' := fun w => k_ls (k := k) (rest := [a, b, c]) h (V := V) (w := w)
                rw [Bool.true_and, Bool.true_and]
                by_cases k4 : k = "within"
                · rw [if_pos k4]
                  refine seq_ret ((kq' "within").trans (by rw [decide_eq_true k4])) (ret_ok ?_)
                  exact andv_ok (b_ok (callx1 i2 (f_law_is_name (h c (by simp))))) fun hc => op_xx i1 i2 (ne_names hb hc)
                · rw [if_neg k4]
                  refine (seq_skip ((kq' "within").trans (by rw [decide_eq_false k4]))).trans ?_
                  have cm : aB (aOp [.pl 1, .ex (aC (.str "most"))] (l2 gNe)) [V, some (.sh (.str k)), some (.sh (.tup [a, b, c])), none, none] = .ok (!decide (k = "most")) [V, some (.sh (.str k)), some (.sh (.tup [a, b, c])), none, none] := b_ok (op_pl_ex rfl rfl rfl (gNe_str k "most"))
                  by_cases k5 : k = "most"
                  · rw [decide_eq_true k5] at cm ⊢
                    rw [Bool.true_and]
                    have fc := h c (by simp)
                    have ct := not_ok (b_ok (op1x_ok i2 (isi_T (fine_kn fc))))
                    cases ht : isT c with
                    | false =>
                      rw [ht] at ct
                      have e : rsB (strD' b) c = false := by cases c <;> first | rfl | cases ht
                      rw [e]
                      exact seq_ret (or_ok2 cm (or_ok1 ct)) (ret_ok rfl)
                    | true =>
                      rw [ht] at ct
                      obtain ⟨ds, rfl⟩ : ∃ ds, c = .tup ds := by cases c <;> first | exact ⟨_, rfl⟩ | cases ht
                      rw [fine_tup] at fc
                      have cl := b_ok (len_gt (k := 3) i2)
                      show _ = Out.ret (.sh (.bl (ds.all isN && (decide (ds.length ≤ 3) && (!decide (strD' b ∈ ds.map strD') && ascB (ds.map strD')))))) _
                      cases hl : decide (ds.length ≤ 3) with
                      | false =>
                        rw [hl] at cl
                        rw [Bool.false_and, Bool.and_false]
                        exact seq_ret (or_ok2 cm (or_ok2 ct (or_ok1 cl))) (ret_ok rfl)
                      | true =>
                        rw [hl] at cl
                        have lc := odd_names (F := d__law_is_name) (src := aItems (aFz (aOp [.pl 2, .ex (aC (.int 2))] (l2 gIx)))) (i := 3) (ρ := [V, some (.sh (.str k)), some (.sh (.tup [a, b, .tup ds])), none, none]) (fun d hd => f_law_is_name hd) (items_ok (fz_ok i2) rfl) fc.2 fc.1 rfl
                        have co : aB (aOp [.ex (aLc (aItems (aFz (aOp [.pl 2, .ex (aC (.int 2))] (l2 gIx)))) [3] (aN 3) (aNot (aB (aCall 1 [.pl 3] [] (d__law_is_name)))) (aVar 3)), .ex (aOp [] gLstS)] (l2 gNeE)) [V, some (.sh (.str k)), some (.sh (.tup [a, b, .tup ds])), none, none] = .ok (!ds.all isN) [V, some (.sh (.str k)), some (.sh (.tup [a, b, .tup ds])), none, none] := by
                          refine b_ok (op_xx lc rfl ((gNeE_nil _).trans ?_))
                          rw [none_odd]
                        cases hn : ds.all isN with
                        | false =>
                          rw [hn] at co
                          rw [Bool.false_and]
                          exact seq_ret (or_ok2 cm (or_ok2 ct (or_ok2 cl co))) (ret_ok rfl)
                        | true =>
                          rw [hn] at co
                          refine (seq_skip (or_ok2 cm (or_ok2 ct (or_ok2 cl co)))).trans (ret_ok ?_)
                          rw [Bool.true_and, Bool.true_and]
                          obtain ⟨ys, hys⟩ : ∃ ys, ys = ds.map strD' := ⟨_, rfl⟩
                          have et := names_tS hn
                          rw [← hys] at et ⊢
                          have yl : ys.length ≤ 3 := by rw [hys, List.length_map]; exact of_decide_eq_true hl
                          rw [et] at i1 i2 ⊢
                          refine andv_ok (b_ok (op_xx (w := .sh (.bl (!decide (strD' b ∈ ys)))) i1 i2 (by rw [isN_str hb]; exact gNotIn_tS _ ys))) fun _ => ?_
                          exact asc_comp yl fun x => ix_ok (i := 2) (j := 2) rfl rfl
                  · rw [decide_eq_false k5] at cm ⊢
                    exact seq_ret (or_ok1 cm) (ret_ok rfl)
        · have e : pThree k rest = false := by
            match rest, h3 with
            | [], _ => rfl
            | [_], _ => rfl
            | [_, _], _ => rfl
            | [_, _, _], z => simp at z
            | _ :: _ :: _ :: _ :: r, _ => rfl
          rw [e]
          have l3 := b_ok (len_ne (i := 2) (k := 3) (ρ := [V, some (.sh (.str k)), some (.sh (.tup rest)), none, none]) rfl)
          rw [decide_eq_false h3] at l3
          exact seq_ret (or_ok1 l3) (ret_ok rfl)
end
end Lw
end
section
open PySem L2 Den
namespace Lw
/-! ### how many plain sentences; 100 and more: none -/
mutual
def many : D → Nat
  | .tup ds => manyT ds
  | _ => 100
def manyT : List D → Nat
  | .str k :: rest => if k = "and" ∨ k = "or" then manyJ rest else if plB k rest then 1 else 100
  | _ => 100
def manyJ : List D → Nat
  | [.tup parts] => if 2 ≤ parts.length ∧ parts.length ≤ 6 then manyL parts else 100
  | _ => 100
def manyL : List D → Nat
  | [] => 0
  | d :: ds => many d + manyL ds
end
mutual
/-- how deep joints stand in one another, at most -/
def jd : D → Nat
  | .tup ds => jdT ds
  | _ => 0
def jdT : List D → Nat
  | [_, .tup parts] => jdL parts + 1
  | _ => 0
def jdL : List D → Nat
  | [] => 0
  | d :: ds => max (jd d) (jdL ds)
end
theorem manyL_sum : ∀ ds : List D, ((ds.map fun d => (many d : Int)).sum : Int) = (manyL ds : Int)
  | [] => by rw [manyL]; rfl
  | d :: ds => by
    rw [manyL, List.map_cons, List.sum_cons, manyL_sum ds]
    omega
theorem jdL_mem {ds : List D} : ∀ {d : D}, d ∈ ds → jd d ≤ jdL ds := by
  induction ds with
  | nil => intro d h; cases h
  | cons e ds ih =>
    intro d h
    rw [jdL]
    rcases List.mem_cons.mp h with rfl | h
    · exact Nat.le_max_left _ _
    · exact Nat.le_trans (ih h) (Nat.le_max_right _ _)
theorem gSum_oI (xs : List Int) : gSum (oI xs) = some (.sh (.int xs.sum)) := by
  unfold gSum onInts
  rw [lstD_oI]
  simp only [intsD_map]
  rfl
theorem t_law_many : ∀ (n : Nat) (d : D), Fine d → jd d < n → d__law_many n [.sh d] = .ret (.sh (.int (many d : Nat))) [.sh d]
  | 0, d, _, h => by omega
  | n + 1, d, hf, hj => by
    have hT := isi_T (fine_kn hf)
    show b__law_many (d__law_many n) _ = _
    unfold b__law_many
    have c1 : aNot (aB (aOp [.pl 0] (l1 (gIsi "tuple")))) [some (.sh d), none] = .ok (!isT d) [some (.sh d), none] := not_ok (b_ok (op1_ok rfl hT))
    cases ht : isT d with
    | false =>
      have e : many d = 100 := by cases d <;> first | (simp [many]; done) | (cases ht; done)
      rw [ht] at c1
      rw [e]
      exact def_ret rfl (seq_ret (or_ok1 c1) (ret_ok rfl)) rfl
    | true =>
      obtain ⟨ds, rfl⟩ : ∃ ds, d = .tup ds := by cases d <;> first | exact ⟨_, rfl⟩ | cases ht
      rw [ht] at c1
      rw [fine_tup] at hf
      rw [jd] at hj
      rw [many]
      have c2 : aB (aOp [.pl 0, .ex (aOp [] Den.gTup)] (l2 gEqE)) [some (.sh (.tup ds)), none] = .ok ds.isEmpty [some (.sh (.tup ds)), none] := b_ok (op_pl_ex (i := 0) (S0 := .sh (.tup ds)) (S := .sh (.tup ds)) (a := .sh (.tup [])) rfl rfl rfl rfl)
      match ds, hf, hj, c1, c2 with
      | [], hf, hj, c1, c2 =>
        have e : manyT [] = 100 := by simp [manyT]
        rw [e]
        exact def_ret rfl (seq_ret (or_ok2 c1 (or_ok1 c2)) (ret_ok rfl)) rfl
      | v :: rest, hf, hj, c1, c2 =>
        have i0 := ix_ok (i := 0) (j := 0) (ρ := [some (.sh (.tup (v :: rest))), none]) rfl rfl
        have fv := hf.2 v (by simp)
        have c3 := not_ok (b_ok (op1x_ok i0 (isi_S (fine_kn fv))))
        cases hs : isS v with
        | false =>
          have e : manyT (v :: rest) = 100 := by cases v <;> first | (simp [manyT]; done) | (cases hs; done)
          rw [hs] at c3
          rw [e]
          exact def_ret rfl (seq_ret (or_ok2 c1 (or_ok2 c2 c3)) (ret_ok rfl)) rfl
        | true =>
          obtain ⟨k, rfl⟩ : ∃ k, v = .str k := by cases v <;> first | exact ⟨_, rfl⟩ | cases hs
          rw [hs] at c3
          have fr : ∀ d ∈ rest, Fine d := fun d hd => hf.2 d (List.mem_cons_of_mem _ hd)
          rw [manyT]
          have s1 := fun h : aS => seq_skip (g := sRet (aC (.int 100))) (h := h) (or_ok2 c1 (or_ok2 c2 c3))
          have cj : aB (aOp [.ex (aOp [.pl 0, .ex (aC (.int 0))] (l2 gIx)), .ex (aOp [.ex (aC (.str "and")), .ex (aC (.str "or"))] gLstS)] (l2 gNotIn)) [some (.sh (.tup (.str k :: rest))), none] = .ok (!decide (k = "and" ∨ k = "or")) [some (.sh (.tup (.str k :: rest))), none] := by
            refine b_ok (op_xx i0 lit_oS2 ?_)
            rw [gNotIn_oS]
            congr 4
            rw [decide_eq_decide]
            simp
          by_cases hk : k = "and" ∨ k = "or"
          · rw [if_pos hk]
            rw [decide_eq_true hk] at cj
            have s2 := fun h : aS => (s1 _).trans (seq_skip (g := sRet (aIfE (aB (aCall 1 [.pl 0] [] (d__law_is_plain))) (aC (.int 1)) (aC (.int 100)))) (h := h) cj)
            have ln2 := b_ok (len_ne (i := 0) (k := 2) (ρ := [some (.sh (.tup (.str k :: rest))), none]) rfl)
            match rest, fr, hj, s2, ln2 with
            | [], _, _, s2, ln2 =>
              have e : manyJ [] = 100 := by simp [manyJ]
              rw [e]
              exact def_ret rfl ((s2 _).trans (seq_ret (or_ok1 ln2) (ret_ok rfl))) rfl
            | _ :: _ :: r, _, _, s2, ln2 =>
              have e : ∀ a b : D, manyJ (a :: b :: r) = 100 := fun a b => by rw [manyJ]; intro parts hh; simp at hh
              rw [e]
              rw [decide_eq_false (by simp)] at ln2
              exact def_ret rfl ((s2 _).trans (seq_ret (or_ok1 ln2) (ret_ok rfl))) rfl
            | [p], fr, hj, s2, ln2 =>
              have fp := fr p (by simp)
              have i1 := ix_ok (i := 0) (j := 1) (ρ := [some (.sh (.tup [.str k, p])), none]) rfl rfl
              have ct := not_ok (b_ok (op1x_ok i1 (isi_T (fine_kn fp))))
              cases ht : isT p with
              | false =>
                have e : manyJ [p] = 100 := by cases p <;> first | (simp [manyJ]; done) | (cases ht; done)
                rw [ht] at ct
                rw [e]
                exact def_ret rfl ((s2 _).trans (seq_ret (or_ok2 ln2 (or_ok1 ct)) (ret_ok rfl))) rfl
              | true =>
                obtain ⟨parts, rfl⟩ : ∃ parts, p = .tup parts := by cases p <;> first | exact ⟨_, rfl⟩ | cases ht
                rw [ht] at ct
                rw [fine_tup] at fp
                rw [jdT] at hj
                have cc := not_ok (b_ok (chain_le (a := 2) (b := (parts.length : Int)) (c := 6) (ga := aC (.int 2)) (gc := aC (.int 6)) (ρ := [some (.sh (.tup [.str k, .tup parts])), none]) rfl (op1x_ok (f := gLen) (w := .sh (.int (parts.length : Int))) i1 rfl) rfl))
                have e26 : (decide ((2 : Int) ≤ (parts.length : Int)) && decide ((parts.length : Int) ≤ 6)) = decide (2 ≤ parts.length ∧ parts.length ≤ 6) := by
                  rw [← Bool.decide_and, decide_eq_decide]
                  omega
                rw [e26] at cc
                rw [manyJ]
                by_cases h26 : 2 ≤ parts.length ∧ parts.length ≤ 6
                · rw [decide_eq_true h26] at cc
                  rw [if_pos h26]
                  have lc := aLc_mI (src := aItems (aFz (aOp [.pl 0, .ex (aC (.int 1))] (l2 gIx)))) (i := 1) (ge := aCall 1 [.pl 1] [] (d__law_many n)) (ρ := [some (.sh (.tup [.str k, .tup parts])), none]) (ds := parts) (fun d => (many d : Int)) (items_ok (fz_ok i1) rfl) (by omega) rfl (fun d hd =>
                    calls1 (i := 1) rfl (t_law_many n d (fp.2 d hd) (by have := jdL_mem hd; omega)))
                  refine def_ret (ρ := [some (.sh (.tup [.str k, .tup parts])), none]) rfl ((s2 _).trans ((seq_skip (or_ok2 ln2 (or_ok2 ct cc))).trans (ret_ok (op1x_ok lc ?_)))) rfl
                  rw [gSum_oI, manyL_sum]
                · rw [decide_eq_false h26] at cc
                  rw [if_neg h26]
                  exact def_ret rfl ((s2 _).trans (seq_ret (or_ok2 ln2 (or_ok2 ct cc)) (ret_ok rfl))) rfl
          · rw [if_neg hk]
            rw [decide_eq_false hk] at cj
            refine def_ret (ρ := [some (.sh (.tup (.str k :: rest))), none]) rfl ((s1 _).trans (seq_ret cj (ret_ok ?_))) rfl
            have cp := b_ok (calls1 (i := 0) (ρ := [some (.sh (.tup (.str k :: rest))), none]) rfl (t_law_is_plain (k := k) fr))
            cases hp : plB k rest with
            | true =>
              rw [hp] at cp
              exact (ife_yes cp).trans rfl
            | false =>
              rw [hp] at cp
              exact (ife_no cp).trans rfl
end Lw
end
section
open PySem L2 Den
namespace Lw
/-! ### the program's loop -/
mutual
def szD : D → Nat
  | .tup ds => szL ds + 1
  | _ => 1
def szL : List D → Nat
  | [] => 0
  | d :: ds => szD d + szL ds
end
theorem szL_app (a b : List D) : szL (a ++ b) = szL a + szL b := by
  induction a with
  | nil => rw [List.nil_append, szL]; omega
  | cons d a ih => rw [List.cons_append, szL, szL, ih]; omega
theorem manyL_app (a b : List D) : manyL (a ++ b) = manyL a + manyL b := by
  induction a with
  | nil => rw [List.nil_append, manyL]; omega
  | cons d a ih => rw [List.cons_append, manyL, manyL, ih]; omega
mutual
theorem many_pos : ∀ d : D, 1 ≤ many d
  | .tup ds => by rw [many]; exact manyT_pos ds
  | .non => by simp [many]
  | .bl _ => by simp [many]
  | .int _ => by simp [many]
  | .str _ => by simp [many]
  | .lst _ => by simp [many]
  | .wls _ => by simp [many]
  | .dic _ => by simp [many]
  | .obj _ _ => by simp [many]
  | .xd _ => by simp [many]
theorem manyT_pos : ∀ ds : List D, 1 ≤ manyT ds
  | [] => by simp [manyT]
  | .str k :: rest => by
    rw [manyT]
    split
    · exact manyJ_pos rest
    · split <;> omega
  | .non :: _ => by simp [manyT]
  | .bl _ :: _ => by simp [manyT]
  | .int _ :: _ => by simp [manyT]
  | .tup _ :: _ => by simp [manyT]
  | .lst _ :: _ => by simp [manyT]
  | .wls _ :: _ => by simp [manyT]
  | .dic _ :: _ => by simp [manyT]
  | .obj _ _ :: _ => by simp [manyT]
  | .xd _ :: _ => by simp [manyT]
theorem manyJ_pos : ∀ ds : List D, 1 ≤ manyJ ds
  | [] => by simp [manyJ]
  | [.tup parts] => by
    rw [manyJ]
    split
    · rename_i h
      have := manyL_ge parts
      omega
    · omega
  | [.non] => by simp [manyJ]
  | [.bl _] => by simp [manyJ]
  | [.int _] => by simp [manyJ]
  | [.str _] => by simp [manyJ]
  | [.lst _] => by simp [manyJ]
  | [.wls _] => by simp [manyJ]
  | [.dic _] => by simp [manyJ]
  | [.obj _ _] => by simp [manyJ]
  | [.xd _] => by simp [manyJ]
  | a :: b :: r => by
    have : manyJ (a :: b :: r) = 100 := by rw [manyJ]; intro parts hh; simp at hh
    omega
theorem manyL_ge : ∀ ds : List D, ds.length ≤ manyL ds
  | [] => by simp
  | d :: ds => by
    have h1 := many_pos d
    have h2 := manyL_ge ds
    rw [manyL, List.length_cons]
    omega
end
/-- what a popped thing is: none: nothing right; some none: a plain sentence; some parts -/
def kindJ : List D → Option (Option (List D))
  | [.tup parts] => if 2 ≤ parts.length ∧ parts.length ≤ 6 then some (some parts) else none
  | _ => none
def kindD : D → Option (Option (List D))
  | .tup (.str k :: rest) => if k = "and" ∨ k = "or" then kindJ rest else if plB k rest then some none else none
  | _ => none
def cntK : Option (Option (List D)) → Nat
  | none => 100
  | some none => 1
  | some (some parts) => manyL parts
theorem many_kind (d : D) : many d = cntK (kindD d) := by
  cases d with
  | tup ds =>
    rw [many]
    match ds with
    | [] => simp [manyT, kindD, cntK]
    | v :: rest =>
      cases v with
      | str k =>
        rw [manyT]
        unfold kindD
        by_cases hk : k = "and" ∨ k = "or"
        · simp only [if_pos hk]
          match rest with
          | [] => simp [manyJ, cntK, kindJ]
          | a :: b :: r =>
            have : manyJ (a :: b :: r) = 100 := by rw [manyJ]; intro parts hh; simp at hh
            rw [this]
            cases a <;> rfl
          | [p] =>
            cases p with
            | tup parts =>
              rw [manyJ]
              unfold kindJ
              simp only
              split <;> rfl
            | _ => simp [manyJ, cntK, kindJ]
        · simp only [if_neg hk]
          split <;> rfl
      | _ => simp [manyT, kindD, cntK]
  | _ => simp [many, kindD, cntK]
theorem pop_ok (ls : List D) (d : D) : fPop (.lst ((ls ++ [d]).map O.sh)) [] = some (.lst (ls.map O.sh), .sh d) := by
  unfold fPop
  simp only [List.map_append, List.map_cons, List.map_nil]
  have h1 : (ls.map O.sh ++ [O.sh d])[(ls.map O.sh ++ [O.sh d]).length - 1]? = some (.sh d) := by
    rw [List.length_append, List.length_singleton, Nat.add_sub_cancel, List.getElem?_append_right (Nat.le_refl _), Nat.sub_self]
    rfl
  rw [h1]
  simp
theorem meth0_ok {T : String} {i : Nat} {f : O → List O → Option (O × O)} {ρ : Store} {o0 o' w : O} (h0 : ρ[i]? = some (some o0)) (hk : kindO o0 = T) (hf : f o0 [] = some (o', w)) : aMeth T i [] f ρ = .ok w (ρ.set i (some o')) := by
  simp [aMeth, evA, h0, hk, Res.bind, rsv, hf]
noncomputable abbrev pBody : aS := (sSeq (sSet 3 (aMeth "list" 2 [] fPop))
    (sSeq (sIf (aOr (aNot (aB (aOp [.pl 3] (l1 (gIsi "tuple"))))) (aOr (aB (aOp [.ex (aOp [.pl 3] (l1 gLen)), .ex (aC (.int 0))] (l2 gEq))) (aNot (aB (aOp [.ex (aOp [.pl 3, .ex (aC (.int 0))] (l2 gIx))] (l1 (gIsi "str"))))))) (sRet (aC .non)) sNext)
    (sSeq (sIf (aB (aOp [.ex (aOp [.pl 3, .ex (aC (.int 0))] (l2 gIx)), .ex (aC c_JOINTS)] (l2 gNotIn))) (sSeq (sIf (aNot (aB (aCall 1 [.pl 3] [] (d_is_plain)))) (sRet (aC .non)) sNext)
    (sAug 1 (aC (.int 1)) gAddI)) (sIf (aOr (aB (aOp [.ex (aOp [.pl 3] (l1 gLen)), .ex (aC (.int 2))] (l2 gNe))) (aOr (aNot (aB (aOp [.ex (aOp [.pl 3, .ex (aC (.int 1))] (l2 gIx))] (l1 (gIsi "tuple"))))) (aNot (aB (aChain gLe gLe (aC (.int 2)) (aOp [.ex (aOp [.pl 3, .ex (aC (.int 1))] (l2 gIx))] (l1 gLen)) (aC c_MOST_PARTS)))))) (sRet (aC .non)) (sDrop (aMeth "list" 2 [.ex (aOp [.pl 3, .ex (aC (.int 1))] (l2 gIx))] fExtA))))
    (sIf (aB (aOp [.ex (aOp [.pl 1, .ex (aOp [.pl 2] (l1 gLen))] (l2 gAdd)), .ex (aC c_MOST_PLAIN)] (l2 gGt))) (sRet (aC .non)) sNext))))
abbrev pSt (P : D) (c : Nat) (ls : List D) (v : Option O) : Store := [some (.sh P), some (.sh (.int (c : Int))), some (.lst (ls.map O.sh)), v]
def chkP (P : D) (c : Nat) (ls : List D) (v : Option O) : Out := if c + ls.length ≤ 8 then .nx (pSt P c ls v) else .ret (.sh .non) (pSt P c ls v)
theorem chk_ok {P : D} {c : Nat} {ls : List D} {v : Option O} : sIf (aB (aOp [.ex (aOp [.pl 1, .ex (aOp [.pl 2] (l1 gLen))] (l2 gAdd)), .ex (aC c_MOST_PLAIN)] (l2 gGt))) (sRet (aC .non)) sNext (pSt P c ls v) = chkP P c ls v := by
  have hl : gLen (.lst (ls.map O.sh)) = some (.sh (.int (ls.length : Int))) := by
    show some _ = some _
    simp
  have t : aB (aOp [.ex (aOp [.pl 1, .ex (aOp [.pl 2] (l1 gLen))] (l2 gAdd)), .ex (aC c_MOST_PLAIN)] (l2 gGt)) (pSt P c ls v) = .ok (!decide (c + ls.length ≤ 8)) (pSt P c ls v) := by
    refine b_ok (op_xx (op_pl_ex (i := 1) (S0 := .sh (.int (c : Int))) (S := .sh (.int (c : Int))) (a := .sh (.int (ls.length : Int))) rfl (op1_ok rfl hl) rfl rfl) rfl ?_)
    show some (O.sh (D.bl (decide ((8 : Int) < (c : Int) + (ls.length : Int))))) = _
    congr 3
    rw [← decide_not, decide_eq_decide]
    omega
  unfold chkP
  by_cases h : c + ls.length ≤ 8
  · rw [if_pos h]
    rw [decide_eq_true h] at t
    exact (if_no t).trans rfl
  · rw [if_neg h]
    rw [decide_eq_false h] at t
    exact (if_yes t).trans (ret_ok rfl)
theorem body_ok {P d : D} {c : Nat} {ls : List D} {v : Option O} (hd : Fine d) (hl : ls.length ≤ 100) : pBody (pSt P c (ls ++ [d]) v) = match kindD d with
    | none => .ret (.sh .non) (pSt P c ls (some (.sh d)))
    | some none => chkP P (c + 1) ls (some (.sh d))
    | some (some parts) => chkP P c (ls ++ parts) (some (.sh d)) := by
  have s0 : sSet 3 (aMeth "list" 2 [] fPop) (pSt P c (ls ++ [d]) v) = .nx (pSt P c ls (some (.sh d))) := set_ok (i := 3) (meth0_ok (T := "list") (i := 2) (f := fPop) (ρ := pSt P c (ls ++ [d]) v) rfl rfl (pop_ok ls d)) (by simp)
  refine (seq_nx s0).trans ?_
  have hT := isi_T (fine_kn hd)
  have c1 := not_ok (b_ok (op1_ok (i := 3) (ρ := pSt P c ls (some (.sh d))) rfl hT))
  cases ht : isT d with
  | false =>
    have e : kindD d = none := by cases d <;> first | rfl | (cases ht; done)
    rw [ht] at c1
    rw [e]
    exact seq_ret (or_ok1 c1) (ret_ok rfl)
  | true =>
    obtain ⟨ds, rfl⟩ : ∃ ds, d = .tup ds := by cases d <;> first | exact ⟨_, rfl⟩ | cases ht
    rw [ht] at c1
    rw [fine_tup] at hd
    have c2 := b_ok (len_eq (i := 3) (k := 0) (ρ := pSt P c ls (some (.sh (.tup ds)))) rfl)
    match ds, hd, c1, c2 with
    | [], hd, c1, c2 => exact seq_ret (or_ok2 c1 (or_ok1 c2)) (ret_ok rfl)
    | w :: rest, hd, c1, c2 =>
      rw [decide_eq_false (by simp)] at c2
      have i0 := ix_ok (i := 3) (j := 0) (ρ := pSt P c ls (some (.sh (.tup (w :: rest))))) rfl rfl
      have fw := hd.2 w (by simp)
      have c3 := not_ok (b_ok (op1x_ok i0 (isi_S (fine_kn fw))))
      cases hs : isS w with
      | false =>
        have e : kindD (.tup (w :: rest)) = none := by cases w <;> first | rfl | (cases hs; done)
        rw [hs] at c3
        rw [e]
        exact seq_ret (or_ok2 c1 (or_ok2 c2 c3)) (ret_ok rfl)
      | true =>
        obtain ⟨k, rfl⟩ : ∃ k, w = .str k := by cases w <;> first | exact ⟨_, rfl⟩ | cases hs
        rw [hs] at c3
        have fr : ∀ d ∈ rest, Fine d := fun d hm => hd.2 d (List.mem_cons_of_mem _ hm)
        refine (seq_skip (or_ok2 c1 (or_ok2 c2 c3))).trans ?_
        have cj : aB (aOp [.ex (aOp [.pl 3, .ex (aC (.int 0))] (l2 gIx)), .ex (aC c_JOINTS)] (l2 gNotIn)) (pSt P c ls (some (.sh (.tup (.str k :: rest))))) = .ok (!decide (k = "and" ∨ k = "or")) (pSt P c ls (some (.sh (.tup (.str k :: rest))))) := by
          refine b_ok (op_xx (b := .sh (tS ["and", "or"])) i0 rfl ?_)
          rw [gNotIn_tS]
          congr 4
          rw [decide_eq_decide]
          simp
        by_cases hk : k = "and" ∨ k = "or"
        · rw [decide_eq_true hk] at cj
          have kd : kindD (.tup (.str k :: rest)) = kindJ rest := if_pos hk
          have ln2 := b_ok (len_ne (i := 3) (k := 2) (ρ := pSt P c ls (some (.sh (.tup (.str k :: rest))))) rfl)
          match rest, fr, kd, ln2, cj with
          | [], _, kd, ln2, cj =>
            rw [kd]
            exact seq_ret0 ((if_no cj).trans ((if_yes (or_ok1 ln2)).trans (ret_ok rfl)))
          | a :: b :: r, _, kd, ln2, cj =>
            rw [decide_eq_false (by simp)] at ln2
            have e : kindJ (a :: b :: r) = none := by cases a <;> rfl
            rw [kd, e]
            exact seq_ret0 ((if_no cj).trans ((if_yes (or_ok1 ln2)).trans (ret_ok rfl)))
          | [p], fr, kd, ln2, cj =>
            have fp := fr p (by simp)
            have i1 := ix_ok (i := 3) (j := 1) (ρ := pSt P c ls (some (.sh (.tup [.str k, p])))) rfl rfl
            have ct := not_ok (b_ok (op1x_ok i1 (isi_T (fine_kn fp))))
            cases ht : isT p with
            | false =>
              rw [ht] at ct
              have e : kindD (.tup [.str k, p]) = none := by rw [kd]; cases p <;> first | rfl | (cases ht; done)
              rw [e]
              exact seq_ret0 ((if_no cj).trans ((if_yes (or_ok2 ln2 (or_ok1 ct))).trans (ret_ok rfl)))
            | true =>
              obtain ⟨parts, rfl⟩ : ∃ parts, p = .tup parts := by cases p <;> first | exact ⟨_, rfl⟩ | cases ht
              rw [ht] at ct
              rw [fine_tup] at fp
              have cc := not_ok (b_ok (chain_le (a := 2) (b := (parts.length : Int)) (c := 6) (ga := aC (.int 2)) (gc := aC c_MOST_PARTS) (ρ := pSt P c ls (some (.sh (.tup [.str k, .tup parts])))) rfl (op1x_ok (f := gLen) (w := .sh (.int (parts.length : Int))) i1 rfl) rfl))
              have e26 : (decide ((2 : Int) ≤ (parts.length : Int)) && decide ((parts.length : Int) ≤ 6)) = decide (2 ≤ parts.length ∧ parts.length ≤ 6) := by
                rw [← Bool.decide_and, decide_eq_decide]
                omega
              rw [e26] at cc
              rw [kd]
              unfold kindJ
              simp only
              by_cases h26 : 2 ≤ parts.length ∧ parts.length ≤ 6
              · rw [decide_eq_true h26] at cc
                rw [if_pos h26]
                have ex : fExtA (.lst (ls.map O.sh)) [.sh (.tup parts)] = some (.lst ((ls ++ parts).map O.sh), .sh .non) := by
                  show (if _ then _ else _) = _
                  rw [if_pos (by rw [List.length_map]; omega), List.map_append]
                have me := drop_ok (meth_ok (T := "list") (i := 2) (f := fExtA) (o0 := .lst (ls.map O.sh)) (ox := .lst (ls.map O.sh)) (ρ := pSt P c ls (some (.sh (.tup [.str k, .tup parts])))) rfl rfl i1 rfl ex)
                exact (seq_nx ((if_no cj).trans ((if_no (or_ok2 ln2 (or_ok2 ct cc))).trans me))).trans chk_ok
              · rw [decide_eq_false h26] at cc
                rw [if_neg h26]
                exact seq_ret0 ((if_no cj).trans ((if_yes (or_ok2 ln2 (or_ok2 ct cc))).trans (ret_ok rfl)))
        · rw [decide_eq_false hk] at cj
          have kd : kindD (.tup (.str k :: rest)) = if plB k rest then some none else none := if_neg hk
          have cp := not_ok (b_ok (calls1 (i := 3) (ρ := pSt P c ls (some (.sh (.tup (.str k :: rest))))) rfl (t_is_plain (k := k) fr)))
          rw [kd]
          cases hp : plB k rest with
          | true =>
            rw [hp] at cp
            have au : sAug 1 (aC (.int 1)) gAddI (pSt P c ls (some (.sh (.tup (.str k :: rest))))) = .nx (pSt P (c + 1) ls (some (.sh (.tup (.str k :: rest))))) := by
              show Out.nx _ = _
              have : ((c + 1 : Nat) : Int) = (c : Int) + 1 := by omega
              unfold pSt
              rw [this]
              rfl
            exact (seq_nx ((if_yes cj).trans ((seq_skip cp).trans au))).trans chk_ok
          | false =>
            rw [hp] at cp
            exact seq_ret0 ((if_yes cj).trans (seq_ret cp (ret_ok rfl)))
end Lw
end
section
open PySem L2 Den
namespace Lw
theorem kind_parts {d : D} {parts : List D} (h : kindD d = some (some parts)) (hf : Fine d) : szL parts < szD d ∧ (∀ x ∈ parts, Fine x) ∧ parts.length ≤ 6 := by
  cases d with
  | tup ds =>
    match ds with
    | [] => simp [kindD] at h
    | v :: rest =>
      cases v with
      | str k =>
        unfold kindD at h
        simp only at h
        split at h
        · match rest with
          | [] => simp [kindJ] at h
          | a :: b :: r =>
            have e : kindJ (a :: b :: r) = none := by cases a <;> rfl
            rw [e] at h
            cases h
          | [p] =>
            cases p with
            | tup ps =>
              unfold kindJ at h
              simp only at h
              split at h
              · rename_i h26
                injection h with h
                injection h with h
                subst h
                rw [fine_tup] at hf
                have f2 := hf.2 (.tup ps) (by simp)
                rw [fine_tup] at f2
                refine ⟨?_, f2.2, h26.2⟩
                rw [szD, szL, szL, szL, szD]
                omega
              · cases h
            | _ => simp [kindJ] at h
        · split at h <;> cases h
      | _ => simp [kindD] at h
  | _ => simp [kindD] at h
theorem w_ret {p : aT} {b : aS} {ρ ρ1 ρ2 : Store} {o : O} (h : p ρ = .ok true ρ1) (hb : b ρ1 = .ret o ρ2) : sWhile p b ρ = .ret o ρ2 := by
  rw [sWhile_eq, h]
  simp only [Res.out, if_true, hb]
theorem line_ne {P : D} {c : Nat} {ls : List D} {v : Option O} : aB (aOp [.pl 2, .ex (aOp [] gLstS)] (l2 gNeE)) (pSt P c ls v) = .ok (!decide (ls = [])) (pSt P c ls v) :=
  b_ok (op_pl_ex (i := 2) (S0 := .lst (ls.map O.sh)) (S := .lst (ls.map O.sh)) (a := .lst []) rfl rfl rfl (gNeE_nil ls))
theorem among_loop {P : D} : ∀ (N c : Nat) (ls : List D) (v : Option O), szL ls ≤ N → (∀ d ∈ ls, Fine d) → c + ls.length ≤ 8 →
    ∃ (v' : Option O) (ls' : List D) (c' : Nat), sWhile (aB (aOp [.pl 2, .ex (aOp [] gLstS)] (l2 gNeE))) pBody (pSt P c ls v) = if c + manyL ls ≤ 8 then .nx (pSt P (c + manyL ls) [] v') else .ret (.sh .non) (pSt P c' ls' v') := by
  intro N
  induction N with
  | zero =>
    intro c ls v hz hf hc
    have : ls = [] := by
      cases ls with
      | nil => rfl
      | cons d ds =>
        have hd : 1 ≤ szD d := by cases d <;> simp [szD]
        rw [szL] at hz
        omega
    subst this
    refine ⟨v, [], 0, ?_⟩
    rw [manyL, if_pos (by simpa using hc)]
    exact w_end line_ne
  | succ N ih =>
    intro c ls v hz hf hc
    rcases List.eq_nil_or_concat ls with rfl | ⟨l0, d, rfl⟩
    · refine ⟨v, [], 0, ?_⟩
      rw [manyL, if_pos (by simpa using hc)]
      exact w_end line_ne
    · simp only [List.concat_eq_append] at hz hf hc ⊢
      have fd := hf d (by simp)
      have fl : ∀ x ∈ l0, Fine x := fun x hx => hf x (List.mem_append_left _ hx)
      rw [List.length_append, List.length_singleton] at hc
      rw [szL_app, szL, szL] at hz
      have go : aB (aOp [.pl 2, .ex (aOp [] gLstS)] (l2 gNeE)) (pSt P c (l0 ++ [d]) v) = .ok true (pSt P c (l0 ++ [d]) v) := by
        rw [line_ne]
        simp
      have hb := body_ok (P := P) (c := c) (ls := l0) (v := v) fd (by omega)
      have hm := many_kind d
      rw [manyL_app, manyL, manyL, Nat.add_zero]
      cases hk : kindD d with
      | none =>
        rw [hk] at hb hm
        refine ⟨some (.sh d), l0, c, ?_⟩
        rw [hm]
        show _ = if c + (manyL l0 + 100) ≤ 8 then _ else _
        rw [if_neg (by omega)]
        exact w_ret go hb
      | some kk =>
        cases kk with
        | none =>
          rw [hk] at hb hm
          have h1 : 1 ≤ szD d := by cases d <;> simp [szD]
          obtain ⟨v', ls', c', e⟩ := ih (c + 1) l0 (some (.sh d)) (by omega) fl (by omega)
          refine ⟨v', ls', c', ?_⟩
          have hb' : pBody (pSt P c (l0 ++ [d]) v) = .nx (pSt P (c + 1) l0 (some (.sh d))) := by
            rw [hb]
            show chkP _ _ _ _ = _
            unfold chkP
            rw [if_pos (by omega)]
          have hm1 : many d = 1 := hm
          have this : c + 1 + manyL l0 = c + (manyL l0 + 1) := by omega
          rw [w_go go hb', e, hm1, this]
        | some parts =>
          rw [hk] at hb hm
          obtain ⟨z1, z2, z3⟩ := kind_parts hk fd
          have hm' : many d = manyL parts := hm
          rw [hm']
          by_cases h8 : c + (l0 ++ parts).length ≤ 8
          · have hb' : pBody (pSt P c (l0 ++ [d]) v) = .nx (pSt P c (l0 ++ parts) (some (.sh d))) := by
              rw [hb]
              show chkP _ _ _ _ = _
              unfold chkP
              rw [if_pos h8]
            obtain ⟨v', ls', c', e⟩ := ih c (l0 ++ parts) (some (.sh d)) (by rw [szL_app]; omega) (fun x hx => by
              rcases List.mem_append.mp hx with hx | hx
              · exact fl x hx
              · exact z2 x hx) h8
            refine ⟨v', ls', c', ?_⟩
            rw [w_go go hb', e, manyL_app]
          · have hb' : pBody (pSt P c (l0 ++ [d]) v) = .ret (.sh .non) (pSt P c (l0 ++ parts) (some (.sh d))) := by
              rw [hb]
              show chkP _ _ _ _ = _
              unfold chkP
              rw [if_neg h8]
            refine ⟨some (.sh d), l0 ++ parts, c, ?_⟩
            have g1 := manyL_ge l0
            have g2 := manyL_ge parts
            rw [List.length_append] at h8
            rw [if_neg (by omega)]
            exact w_ret go hb'
theorem t_plain_among {d : D} (h : Fine d) : d_plain_among [.sh (.tup [d])] = .ret (.sh (if many d ≤ 8 then .int (many d : Nat) else .non)) [.sh (.tup [d])] := by
  obtain ⟨v', ls', c', e⟩ := among_loop (P := .tup [d]) (szL [d]) 0 [d] none (Nat.le_refl _) (fun x hx => by rw [List.mem_singleton.mp hx]; exact h) (by simp)
  have e0 : manyL [d] = many d := by rw [manyL, manyL]; omega
  rw [e0, Nat.zero_add] at e
  have p0 := par_ok (i := 1) (j := 2) (g := aC (.int 0)) (h := aOp [.pl 0] (l1 gList)) (ρ := [some (.sh (.tup [d])), none, none, none]) (ρ1 := [some (.sh (.tup [d])), none, none, none]) (o := .sh (.int 0)) (u := .lst ([d].map O.sh)) rfl (op1_ok rfl rfl) (by simp) (by simp)
  unfold d_plain_among
  by_cases h8 : many d ≤ 8
  · rw [if_pos h8] at e ⊢
    exact def_ret rfl ((seq_nx p0).trans ((seq_nx e).trans (ret_ok rfl))) rfl
  · rw [if_neg h8] at e ⊢
    exact def_ret rfl ((seq_nx p0).trans (seq_ret0 e)) rfl
theorem op_e1 {g : List O → Option O} {g1 : aE} {ρ ρ1 : Store} {u w : O} (h1 : g1 ρ = .ok u ρ1) (hf : g [u] = some w) : aOp [.ex g1] g ρ = .ok w ρ1 := by
  simp [aOp, evA, h1, Res.bind, rsv, hf]
theorem t_is_sentence {d : D} (h : Fine d) : d_is_sentence [.sh d] = .ret (.sh (.bl (decide (many d ≤ 8)))) [.sh d] := by
  unfold d_is_sentence
  refine def_ret (ρ := [some (.sh d)]) rfl (ret_ok (op1x_ok (callx1 (a := .tup [d]) (op_e1 (var_ok rfl) (gTup_sh [d] (by simp))) (t_plain_among h)) ?_)) rfl
  by_cases h8 : many d ≤ 8
  · rw [if_pos h8, decide_eq_true h8]; rfl
  · rw [if_neg h8, decide_eq_false h8]; rfl
theorem t_judged {d : D} (h : Fine d) (hj : jd d < 8) : d__law_judged [.sh d] = .ret (.sh (.bl true)) [.sh d] := by
  unfold d__law_judged
  have l8 : aOp [.ex (aCall 1 [.pl 0] [] (d__law_many 8)), .ex (aC (.int 8))] (l2 gLe) [some (.sh d)] = .ok (.sh (.bl (decide (many d ≤ 8)))) [some (.sh d)] := by
    refine op_xx (calls1 (i := 0) rfl (t_law_many 8 d h hj)) rfl ?_
    show some (O.sh (D.bl (decide ((many d : Int) ≤ 8)))) = _
    congr 3
    rw [decide_eq_decide]
    omega
  exact def_ret (ρ := [some (.sh d)]) rfl (ret_ok (callx2 (calls1 (i := 0) rfl (t_is_sentence h)) l8 (same_bl 7 _))) rfl
end Lw
end
section
open PySem L2 Den
namespace Lw
theorem pl_shape (p : Pl) : ∃ k rest, p.d = .tup (.str k :: rest) ∧ k ≠ "and" ∧ k ≠ "or" := by
  cases p with
  | never r => exact ⟨_, _, rfl, k_never_and, k_never_or⟩
  | «until» a r => exact ⟨_, _, rfl, k_until_and, k_until_or⟩
  | after a b => exact ⟨_, _, rfl, k_after_and, k_after_or⟩
  | turns a b => exact ⟨_, _, rfl, k_turns_and, k_turns_or⟩
  | most n a cs => exact ⟨_, _, rfl, k_most_and, k_most_or⟩
  | within n a b => exact ⟨_, _, rfl, k_within_and, k_within_or⟩
theorem jn_in (k : Bool) : jn k = "and" ∨ jn k = "or" := by cases k <;> simp [jn]
theorem joints : c_JOINTS = tS ["and", "or"] := rfl
theorem lc2L_flat {i j : Nat} {src1 : aI} {ρ : Store} (hi : ρ[i]? = some none) (hj : ρ[j]? = some none) (hij : i ≠ j) : ∀ (ps : List (D × List D)), (∀ p ∈ ps, src1 (ρ.set i (some (.sh p.1))) = .ok p.2 (ρ.set i (some (.sh p.1)))) →
    lc2L [i, j] [j] (aN i) aYes src1 (aN j) aYes (aVar j) (ps.map Prod.fst) ρ = .ok (ps.flatMap Prod.snd) ρ
  | [], _ => rfl
  | p :: ps, h => by
    have li : i < ρ.length := (List.getElem?_eq_some_iff.mp hi).1
    have lj : j < ρ.length := (List.getElem?_eq_some_iff.mp hj).1
    have h1 := h p (by simp)
    have ih := lc2L_flat hi hj hij ps fun q hq => h q (by simp [hq])
    rw [List.map_cons, lc2L, aN_in li]
    simp only [aYes, Res.bind, if_true, h1]
    have hj2 : (ρ.set i (some (O.sh p.1)))[j]? = some none := by rw [List.getElem?_set_ne hij]; exact hj
    have w1 : wipeS (ρ.set i (some (O.sh p.1))) [j] = ρ.set i (some (O.sh p.1)) := set_same hj2
    have z := lcL_map (i := j) (ge := aVar j) (ρ := ρ.set i (some (O.sh p.1))) (ds := p.2) id (by rw [List.length_set]; exact lj) w1 (fun d _ => ⟨.sh d, (ρ.set i (some (O.sh p.1))).set j (some (.sh d)), by
      unfold aVar
      rw [List.getElem?_set_self (by rw [List.length_set]; exact lj)], rfl, by
      show ((ρ.set i (some (O.sh p.1))).set j (some (.sh d))).set j none = _
      rw [List.set_set]
      exact set_same hj2⟩)
    have e : lcL [j] (aN j) (fun ρ => Res.ok true ρ) (aVar j) p.2 (wipeS (ρ.set i (some (O.sh p.1))) [j]) = .ok (p.2.map id) (ρ.set i (some (O.sh p.1))) := by rw [w1]; exact z
    have w2 : wipeS (ρ.set i (some (O.sh p.1))) [i, j] = ρ := by
      show ((ρ.set i (some (O.sh p.1))).set j none).set i none = ρ
      rw [set_same hj2, List.set_set]
      exact set_same hi
    have ih' : lc2L [i, j] [j] (aN i) (fun ρ => Res.ok true ρ) src1 (aN j) (fun ρ => Res.ok true ρ) (aVar j) (ps.map Prod.fst) ρ = .ok (ps.flatMap Prod.snd) ρ := ih
    first
      | (rw [e]; simp only; rw [w2, ih']; simp)
      | (rw [w1, z]; simp only; rw [w2, ih]; simp)
theorem aLc2_flat {src src1 : aI} {i j : Nat} {ρ : Store} (ps : List (D × List D)) (hs : src ρ = .ok (ps.map Prod.fst) ρ) (hi : ρ[i]? = some none) (hj : ρ[j]? = some none) (hij : i ≠ j) (hl : (ps.flatMap Prod.snd).length ≤ 16000000)
    (h : ∀ p ∈ ps, src1 (ρ.set i (some (.sh p.1))) = .ok p.2 (ρ.set i (some (.sh p.1)))) :
    aLc2 src [i, j] [j] (aN i) aYes src1 (aN j) aYes (aVar j) ρ = .ok (.lst ((ps.flatMap Prod.snd).map O.sh)) ρ := by
  have w1 : wipeS ρ [j] = ρ := set_same hj
  have w : wipeS ρ [i, j] = ρ := by
    show (wipeS ρ [j]).set i none = ρ
    rw [w1]
    exact set_same hi
  have r : restS ρ [i, j] ρ = ρ := by
    show ((ρ.set i ((wipeS ρ [j])[i]?).join).set j (ρ[j]?).join) = ρ
    rw [w1, hi, hj]
    simp only [Option.join, Option.bind, id]
    rw [set_same hi, set_same hj]
  unfold aLc2
  rw [hs]
  simp only [Res.bind]
  rw [w, lc2L_flat hi hj hij ps h]
  simp only
  rw [if_pos hl, r]
theorem t_plain_of : ∀ (n : Nat) (s : Sen), s.ok → s.dep < n → d_plain_of n [.sh s.d] = .ret (.lst ((s.plains.map Pl.d).map O.sh)) [.sh s.d]
  | 0, s, _, h => by omega
  | n + 1, .one p, _, _ => by
    obtain ⟨k, rest, e, h1, h2⟩ := pl_shape p
    have es : (Sen.one p).d = .tup (.str k :: rest) := by rw [Sen.d, e]
    rw [es]
    unfold d_plain_of b_plain_of
    simp only [aDef, pre, outs, List.map_cons, List.map_nil, List.replicate, List.cons_append, List.nil_append, List.length_cons, List.length_nil, sSeq, sSet, sRet, sRetN, sIf, sDrop, sPar, sAsg, sNext, aB, aC, aVar, aMove, aFz, aTV, aNot, aAnd, aOr, aIfE, aAndV, aOrV, aOp, aSl, aP, evA, rsv, l1, l2, Res.bind, Res.out, List.getElem?_cons_zero, List.getElem?_cons_succ, List.set_cons_zero, List.set_cons_succ, Option.map_some, Option.map_none, fz, shs, if_true, if_false, ite_true, ite_false, Bool.false_eq_true, reduceIte, reduceCtorEq, Nat.reduceAdd, Nat.reduceSub, Nat.reduceLT, Nat.reduceLeDiff, Nat.reduceEqDiff, Bool.not_true, Bool.not_false, Nat.sub_self, Nat.zero_add, and_self, true_and, and_true, Nat.lt_add_one, decide_true, decide_false, decide_eq_true_eq , gSl_tS, gLen_tS, gLen_lS, gTup_str, gIn_tS, gNotIn_tS, gIn_lS, gNotIn_lS, gEq_int, gEq_str, gNe_int, gNe_str, cut_from, cut_to , gTup_str2, gIx_tup, atI_0, atI_1, atI_2, atI_3, gSl_tup, List.mem_cons, List.not_mem_nil, or_false, false_or, true_or, or_true, not_true_eq_false, not_false_eq_true , aCall, tak, giv, List.append_nil, aMeth, k_never_until, k_never_after, k_never_turns, k_never_most, k_never_within, k_never_and, k_never_or, k_until_never, k_until_after, k_until_turns, k_until_most, k_until_within, k_until_and, k_until_or, k_after_never, k_after_until, k_after_turns, k_after_most, k_after_within, k_after_and, k_after_or, k_turns_never, k_turns_until, k_turns_after, k_turns_most, k_turns_within, k_turns_and, k_turns_or, k_most_never, k_most_until, k_most_after, k_most_turns, k_most_within, k_most_and, k_most_or, k_within_never, k_within_until, k_within_after, k_within_turns, k_within_most, k_within_and, k_within_or, k_and_never, k_and_until, k_and_after, k_and_turns, k_and_most, k_and_within, k_and_or, k_or_never, k_or_until, k_or_after, k_or_turns, k_or_most, k_or_within, k_or_and, joints, h1, h2, or_self, gLstS, Sen.plains, e, Nat.reduceLeDiff]
  | n + 1, .join k ss, hs, hd => by
    rw [Sen.ok] at hs
    rw [Sen.dep] at hd
    rw [Sen.d, Sen.plains, dL_map, plainsL_map]
    have e1 : (ss.map fun s => (s.d, s.plains.map Pl.d)).map Prod.fst = ss.map Sen.d := by simp
    have e2 : (ss.map fun s => (s.d, s.plains.map Pl.d)).flatMap Prod.snd = (ss.flatMap Sen.plains).map Pl.d := by
      rw [List.flatMap_map, List.map_flatMap]
    have hlen : ((ss.flatMap Sen.plains).map Pl.d).length ≤ 16000000 := by
      rw [List.length_map, ← plainsL_map]
      have := hs.2.1.2
      omega
    have lc := aLc2_flat (src := aItems (aFz (aOp [.pl 0, .ex (aC (.int 1))] (l2 gIx)))) (i := 1) (j := 2) (src1 := aItems (aFz (aCall 1 [.pl 1] [] (d_plain_of n)))) (ρ := [some (.sh (.tup [.str (jn k), .tup (ss.map Sen.d)])), none, none]) (ss.map fun s => (s.d, s.plains.map Pl.d))
      (by rw [e1]; simp only [aDef, pre, outs, List.map_cons, List.map_nil, List.replicate, List.cons_append, List.nil_append, List.length_cons, List.length_nil, sSeq, sSet, sRet, sRetN, sIf, sDrop, sPar, sAsg, sNext, aB, aC, aVar, aMove, aFz, aTV, aNot, aAnd, aOr, aIfE, aAndV, aOrV, aOp, aSl, aP, evA, rsv, l1, l2, Res.bind, Res.out, List.getElem?_cons_zero, List.getElem?_cons_succ, List.set_cons_zero, List.set_cons_succ, Option.map_some, Option.map_none, fz, shs, if_true, if_false, ite_true, ite_false, Bool.false_eq_true, reduceIte, reduceCtorEq, Nat.reduceAdd, Nat.reduceSub, Nat.reduceLT, Nat.reduceLeDiff, Nat.reduceEqDiff, Bool.not_true, Bool.not_false, Nat.sub_self, Nat.zero_add, and_self, true_and, and_true, Nat.lt_add_one, decide_true, decide_false, decide_eq_true_eq , gSl_tS, gLen_tS, gLen_lS, gTup_str, gIn_tS, gNotIn_tS, gIn_lS, gNotIn_lS, gEq_int, gEq_str, gNe_int, gNe_str, cut_from, cut_to , gTup_str2, gIx_tup, atI_0, atI_1, atI_2, atI_3, gSl_tup, List.mem_cons, List.not_mem_nil, or_false, false_or, true_or, or_true, not_true_eq_false, not_false_eq_true , aCall, tak, giv, List.append_nil, aMeth, k_never_until, k_never_after, k_never_turns, k_never_most, k_never_within, k_never_and, k_never_or, k_until_never, k_until_after, k_until_turns, k_until_most, k_until_within, k_until_and, k_until_or, k_after_never, k_after_until, k_after_turns, k_after_most, k_after_within, k_after_and, k_after_or, k_turns_never, k_turns_until, k_turns_after, k_turns_most, k_turns_within, k_turns_and, k_turns_or, k_most_never, k_most_until, k_most_after, k_most_turns, k_most_within, k_most_and, k_most_or, k_within_never, k_within_until, k_within_after, k_within_turns, k_within_most, k_within_and, k_within_or, k_and_never, k_and_until, k_and_after, k_and_turns, k_and_most, k_and_within, k_and_or, k_or_never, k_or_until, k_or_after, k_or_turns, k_or_most, k_or_within, k_or_and, aItems, itemsD]) rfl rfl (by decide) (by rw [e2]; exact hlen) (fun p hp => by
      obtain ⟨s, hm, rfl⟩ := List.mem_map.mp hp
      have ih := t_plain_of n s (okL_mem hs.2.2 s hm) (by have := dep_mem hm; omega)
      simp only [aDef, pre, outs, List.map_cons, List.map_nil, List.replicate, List.cons_append, List.nil_append, List.length_cons, List.length_nil, sSeq, sSet, sRet, sRetN, sIf, sDrop, sPar, sAsg, sNext, aB, aC, aVar, aMove, aFz, aTV, aNot, aAnd, aOr, aIfE, aAndV, aOrV, aOp, aSl, aP, evA, rsv, l1, l2, Res.bind, Res.out, List.getElem?_cons_zero, List.getElem?_cons_succ, List.set_cons_zero, List.set_cons_succ, Option.map_some, Option.map_none, fz, shs, if_true, if_false, ite_true, ite_false, Bool.false_eq_true, reduceIte, reduceCtorEq, Nat.reduceAdd, Nat.reduceSub, Nat.reduceLT, Nat.reduceLeDiff, Nat.reduceEqDiff, Bool.not_true, Bool.not_false, Nat.sub_self, Nat.zero_add, and_self, true_and, and_true, Nat.lt_add_one, decide_true, decide_false, decide_eq_true_eq , gSl_tS, gLen_tS, gLen_lS, gTup_str, gIn_tS, gNotIn_tS, gIn_lS, gNotIn_lS, gEq_int, gEq_str, gNe_int, gNe_str, cut_from, cut_to , gTup_str2, gIx_tup, atI_0, atI_1, atI_2, atI_3, gSl_tup, List.mem_cons, List.not_mem_nil, or_false, false_or, true_or, or_true, not_true_eq_false, not_false_eq_true , aCall, tak, giv, List.append_nil, aMeth, k_never_until, k_never_after, k_never_turns, k_never_most, k_never_within, k_never_and, k_never_or, k_until_never, k_until_after, k_until_turns, k_until_most, k_until_within, k_until_and, k_until_or, k_after_never, k_after_until, k_after_turns, k_after_most, k_after_within, k_after_and, k_after_or, k_turns_never, k_turns_until, k_turns_after, k_turns_most, k_turns_within, k_turns_and, k_turns_or, k_most_never, k_most_until, k_most_after, k_most_turns, k_most_within, k_most_and, k_most_or, k_within_never, k_within_until, k_within_after, k_within_turns, k_within_most, k_within_and, k_within_or, k_and_never, k_and_until, k_and_after, k_and_turns, k_and_most, k_and_within, k_and_or, k_or_never, k_or_until, k_or_after, k_or_turns, k_or_most, k_or_within, k_or_and, aItems, ih, fzL_sh, itemsD])
    rw [e2] at lc
    unfold d_plain_of b_plain_of
    have hj := jn_in k
    simp only [aDef, pre, outs, List.map_cons, List.map_nil, List.replicate, List.cons_append, List.nil_append, List.length_cons, List.length_nil, sSeq, sSet, sRet, sRetN, sIf, sDrop, sPar, sAsg, sNext, aB, aC, aVar, aMove, aFz, aTV, aNot, aAnd, aOr, aIfE, aAndV, aOrV, aOp, aSl, aP, evA, rsv, l1, l2, Res.bind, Res.out, List.getElem?_cons_zero, List.getElem?_cons_succ, List.set_cons_zero, List.set_cons_succ, Option.map_some, Option.map_none, fz, shs, if_true, if_false, ite_true, ite_false, Bool.false_eq_true, reduceIte, reduceCtorEq, Nat.reduceAdd, Nat.reduceSub, Nat.reduceLT, Nat.reduceLeDiff, Nat.reduceEqDiff, Bool.not_true, Bool.not_false, Nat.sub_self, Nat.zero_add, and_self, true_and, and_true, Nat.lt_add_one, decide_true, decide_false, decide_eq_true_eq , gSl_tS, gLen_tS, gLen_lS, gTup_str, gIn_tS, gNotIn_tS, gIn_lS, gNotIn_lS, gEq_int, gEq_str, gNe_int, gNe_str, cut_from, cut_to , gTup_str2, gIx_tup, atI_0, atI_1, atI_2, atI_3, gSl_tup, List.mem_cons, List.not_mem_nil, or_false, false_or, true_or, or_true, not_true_eq_false, not_false_eq_true , aCall, tak, giv, List.append_nil, aMeth, k_never_until, k_never_after, k_never_turns, k_never_most, k_never_within, k_never_and, k_never_or, k_until_never, k_until_after, k_until_turns, k_until_most, k_until_within, k_until_and, k_until_or, k_after_never, k_after_until, k_after_turns, k_after_most, k_after_within, k_after_and, k_after_or, k_turns_never, k_turns_until, k_turns_after, k_turns_most, k_turns_within, k_turns_and, k_turns_or, k_most_never, k_most_until, k_most_after, k_most_turns, k_most_within, k_most_and, k_most_or, k_within_never, k_within_until, k_within_after, k_within_turns, k_within_most, k_within_and, k_within_or, k_and_never, k_and_until, k_and_after, k_and_turns, k_and_most, k_and_within, k_and_or, k_or_never, k_or_until, k_or_after, k_or_turns, k_or_most, k_or_within, k_or_and, joints, hj, lc]

/-- a comprehension with a test, whatever its name held before -/
theorem aLc_anyF {src : aI} {i : Nat} {tt : aT} {ge : aE} {ρ : Store} {ds : List D} (p : D → Bool) (f : D → D) (hs : src ρ = .ok ds ρ) (hl : ds.length ≤ 16000000) (hi : i < ρ.length)
    (h : ∀ d ∈ ds, ∃ ρ1, tt (ρ.set i (some (.sh d))) = .ok (p d) ρ1 ∧ (p d = false → ρ1.set i none = ρ.set i none) ∧ (p d = true → ∃ o ρ', ge ρ1 = .ok o ρ' ∧ fz o = f d ∧ ρ'.set i none = ρ.set i none)) : aLc src [i] (aN i) tt ge ρ = .ok (.lst (((ds.filter p).map f).map O.sh)) ((ρ.set i none).set i (ρ[i]?).join) := by
  have w : wipeS (ρ.set i none) [i] = ρ.set i none := by
    show (ρ.set i none).set i none = _
    rw [List.set_set]
  have z := lcL_filter (i := i) (tt := tt) (ge := ge) (ρ := ρ.set i none) p f (by rw [List.length_set]; exact hi) w (ds := ds) (fun d hd => by
    obtain ⟨ρ1, e1, e2, e3⟩ := h d hd
    exact ⟨ρ1, by rw [List.set_set]; exact e1, e2, e3⟩)
  unfold aLc
  rw [hs]
  simp only [Res.bind]
  have w2 : wipeS ρ [i] = ρ.set i none := rfl
  rw [if_pos hl, w2, z]
  rfl
/-! ### the names in a plain sentence -/
def Pl.nms : Pl → List Str
  | .never r => r
  | .until a r => a :: r
  | .after a b => [a, b]
  | .turns a b => [a, b]
  | .most _ a cs => a :: cs
  | .within _ a b => [a, b]
def Pl.key : Pl → Str
  | .never _ => "never" | .until _ _ => "until" | .after _ _ => "after" | .turns _ _ => "turns" | .most _ _ _ => "most" | .within _ _ _ => "within"
def Pl.parts : Pl → List D
  | .never r => [tS r]
  | .until a r => [.str a, tS r]
  | .after a b => [.str a, .str b]
  | .turns a b => [.str a, .str b]
  | .most n a cs => [.int n, .str a, tS cs]
  | .within n a b => [.int n, .str a, .str b]
theorem pl_d (p : Pl) : p.d = .tup (.str p.key :: p.parts) := by cases p <;> rfl
theorem nms_len {p : Pl} (h : p.ok) : p.nms.length ≤ 51 := by
  cases p <;> simp only [Pl.ok] at h <;> simp only [Pl.nms, List.length_cons, List.length_nil] <;> omega
theorem nms_ok {p : Pl} (h : p.ok) : okSs p.nms := by
  cases p <;> simp only [Pl.ok] at h <;> exact h.1
def flat1 : D → List D
  | .tup ds => ds
  | d => [d]
def flatS : D → List D
  | .tup ds => ds
  | .str z => [.str z]
  | _ => []
theorem flat_nms (p : Pl) : (p.parts.flatMap flat1).filter isS = p.nms.map D.str := by
  have h : ∀ xs : List Str, (xs.map D.str).filter isS = xs.map D.str := fun xs => List.filter_eq_self.mpr fun d hd => by
    obtain ⟨x, _, rfl⟩ := List.mem_map.mp hd
    rfl
  cases p <;> simp [Pl.parts, Pl.nms, flat1, tS, isS, h]
theorem flat_nms2 (p : Pl) : p.parts.flatMap flatS = p.nms.map D.str := by
  cases p <;> simp [Pl.parts, Pl.nms, flatS, tS]
theorem parts_kn {p : Pl} : ∀ d ∈ p.parts, Kn d := by
  intro d hd
  cases p <;> simp only [Pl.parts, List.mem_cons, List.mem_nil_iff, or_false] at hd <;> rcases hd with rfl | rfl | rfl <;> exact ⟨_, rfl⟩
end Lw
end
section
open PySem L2 Den
namespace Lw
theorem lstD_sh (ds : List D) : lstD (.lst (ds.map O.sh)) = some ds := shs_map ds
theorem gAdd_lst {xs ys : List D} (h : xs.length + ys.length ≤ 16000000) : gAdd (.lst (xs.map O.sh)) (.lst (ys.map O.sh)) = some (.lst ((xs ++ ys).map O.sh)) := by
  unfold gAdd
  simp only [tupD, lstD_sh]
  rw [if_pos h]
theorem gList_tup (ds : List D) : gList (.sh (.tup ds)) = some (.lst (ds.map O.sh)) := by
  unfold gList
  simp [lstD, dicD, tupD]
/-- found = found + g(d), along a row -/
theorem grow_loop {k : Nat} {g : aE} {st : List D → Option O → Store} (h0 : ∀ xs v, (st xs v)[1]? = some (some (.lst (xs.map O.sh)))) (h1 : ∀ xs ys v, (st xs v).set 1 (some (.lst (ys.map O.sh))) = st ys v)
    (hk : ∀ xs v d, aN k d (st xs v) = some (st xs (some (.sh d)))) :
    ∀ (ps : List (D × List D)) (xs : List D) (v : Option O), (∀ p ∈ ps, ∀ xs, g (st xs (some (.sh p.1))) = .ok (.lst (p.2.map O.sh)) (st xs (some (.sh p.1)))) → xs.length + (ps.flatMap Prod.snd).length ≤ 16000000 →
    ∃ y, forD (aN k) (sSet 1 (aOp [.pl 1, .ex g] (l2 gAdd))) (ps.map Prod.fst) (st xs v) = .nx (st (xs ++ ps.flatMap Prod.snd) y)
  | [], xs, v, _, _ => ⟨v, by simp [forD]⟩
  | p :: ps, xs, v, h, hl => by
    rw [List.flatMap_cons, List.length_append] at hl
    obtain ⟨y, e⟩ := grow_loop h0 h1 hk ps (xs ++ p.2) (some (.sh p.1)) (fun q hq => h q (by simp [hq])) (by rw [List.length_append]; omega)
    refine ⟨y, ?_⟩
    have li : 1 < (st xs (some (.sh p.1))).length := (List.getElem?_eq_some_iff.mp (h0 xs (some (.sh p.1)))).1
    have s := set_ok (i := 1) (op_pl_ex (h0 xs (some (.sh p.1))) (h p (by simp) xs) (h0 xs (some (.sh p.1))) (gAdd_lst (by omega))) li
    rw [h1] at s
    rw [List.map_cons, forD, hk]
    simp only [s]
    rw [e, List.flatMap_cons, List.append_assoc]
theorem flat_pairs (F : D → List D) (ds : List D) : (ds.map fun d => (d, F d)).map Prod.fst = ds ∧ (ds.map fun d => (d, F d)).flatMap Prod.snd = ds.flatMap F := by
  constructor
  · rw [List.map_map]
    exact List.map_id ds
  · rw [List.flatMap_map]
/-- a comprehension with a test, whatever its name held before; the source may change the store -/
theorem aLc_anyG {src : aI} {i : Nat} {tt : aT} {ge : aE} {ρ0 ρ : Store} {ds : List D} (p : D → Bool) (f : D → D) (hs : src ρ0 = .ok ds ρ) (hl : ds.length ≤ 16000000) (hi : i < ρ.length)
    (h : ∀ d ∈ ds, ∃ ρ1, tt (ρ.set i (some (.sh d))) = .ok (p d) ρ1 ∧ (p d = false → ρ1.set i none = ρ.set i none) ∧ (p d = true → ∃ o ρ', ge ρ1 = .ok o ρ' ∧ fz o = f d ∧ ρ'.set i none = ρ.set i none)) : aLc src [i] (aN i) tt ge ρ0 = .ok (.lst (((ds.filter p).map f).map O.sh)) ((ρ.set i none).set i (ρ[i]?).join) := by
  have w : wipeS (ρ.set i none) [i] = ρ.set i none := by
    show (ρ.set i none).set i none = _
    rw [List.set_set]
  have z := lcL_filter (i := i) (tt := tt) (ge := ge) (ρ := ρ.set i none) p f (by rw [List.length_set]; exact hi) w (ds := ds) (fun d hd => by
    obtain ⟨ρ1, e1, e2, e3⟩ := h d hd
    exact ⟨ρ1, by rw [List.set_set]; exact e1, e2, e3⟩)
  unfold aLc
  rw [hs]
  simp only [Res.bind]
  have w2 : wipeS ρ [i] = ρ.set i none := rfl
  rw [if_pos hl, w2, z]
  rfl
theorem parts_len (p : Pl) : p.parts.length ≤ 3 := by cases p <;> simp [Pl.parts]
theorem flat_len {p : Pl} (h : p.ok) : (p.parts.flatMap flat1).length ≤ 60 := by
  cases p <;> simp only [Pl.ok] at h <;> simp [Pl.parts, flat1, tS] <;> omega
theorem kn_flat {p : Pl} : ∀ d ∈ p.parts.flatMap flat1, Kn d := by
  intro d hd
  cases p <;> simp [Pl.parts, flat1, tS] at hd
  · obtain ⟨x, _, rfl⟩ := hd; exact ⟨_, rfl⟩
  · rcases hd with rfl | ⟨x, _, rfl⟩ <;> exact ⟨_, rfl⟩
  · rcases hd with rfl | rfl <;> exact ⟨_, rfl⟩
  · rcases hd with rfl | rfl <;> exact ⟨_, rfl⟩
  · rcases hd with rfl | rfl | ⟨x, _, rfl⟩ <;> exact ⟨_, rfl⟩
  · rcases hd with rfl | rfl | rfl <;> exact ⟨_, rfl⟩
theorem fl1 {ρ : Store} {k : Nat} {d : D} (hk : Kn d) (h : ρ[k]? = some (some (.sh d))) : aIfE (aB (aOp [.pl k] (l1 (gIsi "tuple")))) (aOp [.pl k] (l1 gList)) (aOp [.ex (aVar k)] gLstS) ρ = .ok (.lst ((flat1 d).map O.sh)) ρ := by
  have t := isi_T hk
  cases hd : isT d with
  | true =>
    rw [hd] at t
    cases d <;> first | cases hd | skip
    exact (ife_yes (b_ok (op1_ok h t))).trans (op1_ok h (gList_tup _))
  | false =>
    rw [hd] at t
    refine (ife_no (b_ok (op1_ok h t))).trans (op_e1 (var_ok h) ?_)
    cases d <;> first | rfl | cases hd
theorem fl2 {ρ : Store} {k : Nat} {d : D} (hk : Kn d) (h : ρ[k]? = some (some (.sh d))) : aIfE (aB (aOp [.pl k] (l1 (gIsi "tuple")))) (aOp [.pl k] (l1 gList)) (aIfE (aB (aOp [.pl k] (l1 (gIsi "str")))) (aOp [.ex (aVar k)] gLstS) (aOp [] gLstS)) ρ = .ok (.lst ((flatS d).map O.sh)) ρ := by
  have t := isi_T hk
  cases hd : isT d with
  | true =>
    rw [hd] at t
    cases d <;> first | cases hd | skip
    exact (ife_yes (b_ok (op1_ok h t))).trans (op1_ok h (gList_tup _))
  | false =>
    rw [hd] at t
    refine (ife_no (b_ok (op1_ok h t))).trans ?_
    have t2 := isi_S hk
    cases hs : isS d with
    | true =>
      rw [hs] at t2
      cases d <;> first | cases hs | skip
      exact (ife_yes (b_ok (op1_ok h t2))).trans (op_e1 (var_ok h) rfl)
    | false =>
      rw [hs] at t2
      refine (ife_no (b_ok (op1_ok h t2))).trans ?_
      have e : flatS d = [] := by cases d <;> first | rfl | (cases hd; done) | (cases hs; done)
      rw [e]
      rfl
theorem t_names_in {p : Pl} (hp : p.ok) : d_names_in [.sh p.d] = .ret (oS p.nms) [.sh p.d] := by
  obtain ⟨f1, f2⟩ := flat_pairs flat1 p.parts
  have fl := flat_len hp
  obtain ⟨y, e⟩ := grow_loop (k := 2) (st := fun xs v => [some (.sh p.d), some (.lst (xs.map O.sh)), v]) (g := aIfE (aB (aOp [.pl 2] (l1 (gIsi "tuple")))) (aOp [.pl 2] (l1 gList)) (aOp [.ex (aVar 2)] gLstS)) (fun _ _ => rfl) (fun _ _ _ => rfl) (fun _ _ _ => rfl) (p.parts.map fun d => (d, flat1 d)) [] none (fun q hq xs => by
    obtain ⟨d, hd, rfl⟩ := List.mem_map.mp hq
    exact fl1 (parts_kn d hd) rfl) (by rw [f2, List.length_nil]; omega)
  rw [f1, f2, List.nil_append] at e
  have sl : aItems (aFz (aSl (.pl 0) (some (aC (.int 1))) none gSl)) [some (.sh p.d), some (.lst ([].map O.sh)), none] = .ok p.parts [some (.sh p.d), some (.lst ([].map O.sh)), none] := by
    rw [pl_d]
    exact items_ok (fz_ok (sl_rest rfl)) rfl
  have lc := aLc_anyG (src := aItems (aVar 1)) (i := 2) (tt := aB (aOp [.pl 2] (l1 (gIsi "str")))) (ge := aVar 2) (ρ0 := [some (.sh p.d), some (.lst ((p.parts.flatMap flat1).map O.sh)), y]) (ρ := [some (.sh p.d), some (.sh (.lst (p.parts.flatMap flat1))), y]) isS id (ds := p.parts.flatMap flat1)
    (items_ok (var_fz rfl) (by show itemsD (.sh (fz (.lst _))) = _; rw [fz, fzL_sh]; rfl) |>.trans (by show Res.ok _ [_, some (O.sh (fz (.lst _))), _] = _; rw [fz, fzL_sh])) (by omega) (by simp) (fun d hd => by
      refine ⟨[some (.sh p.d), some (.sh (.lst (p.parts.flatMap flat1))), some (.sh d)], b_ok (op1_ok (i := 2) rfl (isi_S (kn_flat d hd))), fun _ => rfl, fun _ => ⟨.sh d, _, var_ok rfl, rfl, rfl⟩⟩)
  rw [List.map_id, flat_nms] at lc
  unfold d_names_in
  exact def_ret rfl ((seq_nx (set_ok (i := 1) (o := .lst ([].map O.sh)) (ρ' := [some (.sh p.d), none, none]) rfl (by simp))).trans ((seq_nx ((for_any sl).trans e)).trans (ret_ok lc))) rfl
end Lw
end
section
open PySem L2 Den
namespace Lw
theorem strsD_map : ∀ xs : List Str, strsD (xs.map D.str) = some xs
  | [] => rfl
  | x :: xs => by simp [strsD, strsD_map xs]
theorem gSrtSet_oS {xs : List Str} (h : xs.length ≤ 1000) : gSrtSet (oS xs) = some (oS (sortStr (uniq xs))) := by
  unfold gSrtSet seqO
  rw [lstD_oS]
  simp only [strsD_map]
  rw [if_pos h]
  rfl
theorem gSrtSet_tS {xs : List Str} (h : xs.length ≤ 1000) : gSrtSet (.sh (tS xs)) = some (oS (sortStr (uniq xs))) := by
  have e : seqO (.sh (tS xs)) = some (xs.map D.str) := rfl
  unfold gSrtSet
  rw [e]
  simp only [strsD_map]
  rw [if_pos h]
  rfl
theorem t_ascending {xs : List Str} (h : xs.length ≤ 1000) : d_ascending [oS xs] = .ret (.sh (tS (sortStr (uniq xs)))) [oS xs] := by
  unfold d_ascending
  exact def_ret (ρ := [some (oS xs)]) rfl (ret_ok (op1x_ok (op1_ok (i := 0) rfl (gSrtSet_oS h)) (gTuple_oS _))) rfl
def Sen.nms (s : Sen) : List Str := s.plains.flatMap Pl.nms
theorem plains_okL : ∀ {ps : List Sen}, (∀ s ∈ ps, ∀ p ∈ s.plains, p.ok) → ∀ p ∈ Sen.plainsL ps, p.ok := by
  intro ps h p hp
  rw [plainsL_map] at hp
  obtain ⟨s, hs, hp⟩ := List.mem_flatMap.mp hp
  exact h s hs p hp
mutual
theorem plains_ok : ∀ s : Sen, s.ok → ∀ p ∈ s.plains, p.ok
  | .one p, h => fun q hq => by
    rw [Sen.plains, List.mem_singleton] at hq
    rw [Sen.ok] at h
    rw [hq]
    exact h
  | .join k ss, h => by
    rw [Sen.ok] at h
    rw [Sen.plains]
    exact plainsL_ok ss h.2.2
theorem plainsL_ok : ∀ ss : List Sen, Sen.okL ss → ∀ p ∈ Sen.plainsL ss, p.ok
  | [], _ => fun p hp => by rw [Sen.plainsL] at hp; cases hp
  | s :: ss, h => fun p hp => by
    rw [Sen.okL] at h
    rw [Sen.plainsL] at hp
    rcases List.mem_append.mp hp with hp | hp
    · exact plains_ok s h.1 p hp
    · exact plainsL_ok ss h.2 p hp
end
theorem flat_le {ps : List Pl} (h : ∀ p ∈ ps, p.ok) : (ps.flatMap Pl.nms).length ≤ 51 * ps.length := by
  induction ps with
  | nil => simp
  | cons p ps ih =>
    have := nms_len (h p (by simp))
    have := ih fun q hq => h q (by simp [hq])
    rw [List.flatMap_cons, List.length_append, List.length_cons]
    omega
theorem nms_le {s : Sen} (h : s.ok) (hl : s.plains.length ≤ 10) : s.nms.length ≤ 1000 := by
  have := flat_le (plains_ok s h)
  unfold Sen.nms
  omega
theorem snms_ok {s : Sen} (h : s.ok) : okSs s.nms := by
  intro x hx
  obtain ⟨p, hp, hx⟩ := List.mem_flatMap.mp hx
  exact nms_ok (plains_ok s h p hp) x hx
theorem fz_oSl (xs : List Str) : fz (oS xs) = .lst (xs.map D.str) := by
  show fz (.lst _) = _
  rw [fz, fzL_sh]
theorem callv1 {F : aF} {g : aE} {V V' o : O} {ρ ρ1 : Store} (h1 : g ρ = .ok V ρ1) (h : F [V] = .ret o [V']) : aCall 1 [.ex g] [] F ρ = .ok o ρ1 := by
  simp [aCall, evA, h1, Res.bind, tak, giv, h]
theorem t_names_of {s : Sen} (h : s.ok) (hd : s.dep < 8) (hl : s.plains.length ≤ 10) : d_names_of [.sh s.d] = .ret (.sh (tS (sortStr (uniq s.nms)))) [.sh s.d] := by
  have hp := plains_ok s h
  have e0 := t_plain_of 8 s h hd
  have e1 : (s.plains.map fun p => (p.d, p.nms.map D.str)).map Prod.fst = s.plains.map Pl.d := by simp
  have e2 : (s.plains.map fun p => (p.d, p.nms.map D.str)).flatMap Prod.snd = s.nms.map D.str := by
    rw [List.flatMap_map, Sen.nms, List.map_flatMap]
  have hn := nms_le h hl
  have lc := aLc2_flat (src := aItems (aFz (aCall 1 [.pl 0] [] (d_plain_of 8)))) (i := 1) (j := 2) (src1 := aItems (aFz (aCall 1 [.pl 1] [] d_names_in))) (ρ := [some (.sh s.d), none, none]) (s.plains.map fun p => (p.d, p.nms.map D.str))
    (by
      rw [e1]
      exact items_ok (fz_ok (calls1 (i := 0) rfl e0)) (by rw [fz, fzL_sh]; rfl)) rfl rfl (by decide) (by rw [e2, List.length_map]; omega) (fun q hq => by
      obtain ⟨p, hm, rfl⟩ := List.mem_map.mp hq
      exact items_ok (fz_ok (calls1 (i := 1) rfl (t_names_in (hp p hm)))) (by rw [fz_oSl]; rfl))
  rw [e2] at lc
  unfold d_names_of
  have ta := t_ascending hn
  revert lc ta
  generalize aLc2 _ _ _ _ _ _ _ _ _ = G
  generalize d_ascending = F
  intro lc ta
  refine def_ret (ρ := [some (.sh s.d), none, none]) rfl (ret_ok ?_) rfl
  have lc' : G [some (.sh s.d), none, none] = .ok (oS s.nms) [some (.sh s.d), none, none] := lc
  exact callv1 lc' ta
theorem t_law_plain : ∀ (n : Nat) (s : Sen), s.ok → s.dep < n → d__law_plain n [.sh s.d] = .ret (.lst ((s.plains.map Pl.d).map O.sh)) [.sh s.d]
  | 0, s, _, h => by omega
  | n + 1, .one p, _, _ => by
    obtain ⟨k, rest, e, h1, h2⟩ := pl_shape p
    have es : (Sen.one p).d = .tup (.str k :: rest) := by rw [Sen.d, e]
    have ep : ((Sen.one p).plains.map Pl.d).map O.sh = [.sh (.tup (.str k :: rest))] := by rw [Sen.plains, List.map_cons, e]; rfl
    rw [es, ep]
    show b__law_plain (d__law_plain n) _ = _
    unfold b__law_plain
    have c : aB (aOp [.ex (aOp [.pl 0, .ex (aC (.int 0))] (l2 gIx)), .ex (aOp [.ex (aC (.str "and")), .ex (aC (.str "or"))] gLstS)] (l2 gNotIn)) [some (.sh (.tup (.str k :: rest))), none, none] = .ok true [some (.sh (.tup (.str k :: rest))), none, none] := by
      refine b_ok (op_xx (ix_ok (i := 0) (j := 0) rfl rfl) lit_oS2 ?_)
      rw [gNotIn_oS]
      simp [h1, h2]
    exact def_ret rfl (seq_ret c (ret_ok (op_e1 (var_ok rfl) rfl))) rfl
  | n + 1, .join k ss, hs, hd => by
    rw [Sen.ok] at hs
    rw [Sen.dep] at hd
    rw [Sen.d, Sen.plains, dL_map, plainsL_map]
    have e1 : (ss.map fun s => (s.d, s.plains.map Pl.d)).map Prod.fst = ss.map Sen.d := by simp
    have e2 : (ss.map fun s => (s.d, s.plains.map Pl.d)).flatMap Prod.snd = (ss.flatMap Sen.plains).map Pl.d := by
      rw [List.flatMap_map, List.map_flatMap]
    have hlen : (ss.flatMap Sen.plains).length ≤ 16000000 := by
      rw [← plainsL_map]
      have := hs.2.1.2
      omega
    have ih : ∀ s ∈ ss, d__law_plain n [.sh s.d] = .ret (.lst ((s.plains.map Pl.d).map O.sh)) [.sh s.d] := fun s hm => t_law_plain n s (okL_mem hs.2.2 s hm) (by have := dep_mem hm; omega)
    show b__law_plain (d__law_plain n) _ = _
    revert ih
    generalize d__law_plain n = F
    intro ih
    unfold b__law_plain
    have c : aB (aOp [.ex (aOp [.pl 0, .ex (aC (.int 0))] (l2 gIx)), .ex (aOp [.ex (aC (.str "and")), .ex (aC (.str "or"))] gLstS)] (l2 gNotIn)) [some (.sh (.tup [.str (jn k), .tup (ss.map Sen.d)])), none, none] = .ok false [some (.sh (.tup [.str (jn k), .tup (ss.map Sen.d)])), none, none] := by
      refine b_ok (op_xx (ix_ok (i := 0) (j := 0) rfl rfl) lit_oS2 ?_)
      rw [gNotIn_oS]
      rcases jn_in k with e | e <;> rw [e] <;> simp
    obtain ⟨y, e⟩ := grow_loop (k := 2) (st := fun xs v => [some (.sh (.tup [.str (jn k), .tup (ss.map Sen.d)])), some (.lst (xs.map O.sh)), v]) (g := aCall 1 [.pl 2] [] F) (fun _ _ => rfl) (fun _ _ _ => rfl) (fun _ _ _ => rfl) (ss.map fun s => (s.d, s.plains.map Pl.d)) [] none (fun q hq xs => by
      obtain ⟨s, hm, rfl⟩ := List.mem_map.mp hq
      exact calls1 (i := 2) rfl (ih s hm)) (by rw [e2, List.length_nil, List.length_map]; omega)
    rw [e1, e2, List.nil_append] at e
    have sl : aItems (aFz (aOp [.pl 0, .ex (aC (.int 1))] (l2 gIx))) [some (.sh (.tup [.str (jn k), .tup (ss.map Sen.d)])), some (.lst ([].map O.sh)), none] = .ok (ss.map Sen.d) [some (.sh (.tup [.str (jn k), .tup (ss.map Sen.d)])), some (.lst ([].map O.sh)), none] :=
      items_ok (fz_ok (ix_ok (i := 0) (j := 1) rfl rfl)) rfl
    exact def_ret rfl ((seq_skip c).trans ((seq_nx (set_ok (i := 1) (o := .lst ([].map O.sh)) (ρ' := [some (.sh (.tup [.str (jn k), .tup (ss.map Sen.d)])), none, none]) rfl (by simp))).trans ((seq_nx ((for_any sl).trans e)).trans (ret_ok rfl)))) rfl
theorem t_law_sentence_names {s : Sen} (h : s.ok) (hd : s.dep < 8) (hl : s.plains.length ≤ 10) : d__law_sentence_names [.sh s.d] = .ret (oS (sortStr (uniq s.nms))) [.sh s.d] := by
  have hp := plains_ok s h
  have e0 := t_law_plain 8 s h hd
  have hn := nms_le h hl
  have key : ∀ (ps : List Pl) (xs : List D) (v w : Option O), (∀ p ∈ ps, p.ok) → xs.length + (ps.flatMap Pl.nms).length ≤ 16000000 → ∃ v' w', forD (aN 2) (sFor (aItems (aFz (aSl (.pl 2) (some (aC (.int 1))) none gSl))) (aN 3) (sSet 1 (aOp [.pl 1, .ex (aIfE (aB (aOp [.pl 3] (l1 (gIsi "tuple")))) (aOp [.pl 3] (l1 gList)) (aIfE (aB (aOp [.pl 3] (l1 (gIsi "str")))) (aOp [.ex (aVar 3)] gLstS) (aOp [] gLstS)))] (l2 gAdd)))) (ps.map Pl.d) [some (.sh s.d), some (.lst (xs.map O.sh)), v, w] = .nx [some (.sh s.d), some (.lst ((xs ++ (ps.flatMap Pl.nms).map D.str).map O.sh)), v', w'] := by
    intro ps
    induction ps with
    | nil => exact fun xs v w _ _ => ⟨v, w, by simp [forD]⟩
    | cons p ps ih =>
      intro xs v w hps hxl
      rw [List.flatMap_cons, List.length_append] at hxl
      obtain ⟨f1, f2⟩ := flat_pairs flatS p.parts
      obtain ⟨w1, e⟩ := grow_loop (k := 3) (st := fun xs v => [some (.sh s.d), some (.lst (xs.map O.sh)), some (.sh p.d), v]) (g := aIfE (aB (aOp [.pl 3] (l1 (gIsi "tuple")))) (aOp [.pl 3] (l1 gList)) (aIfE (aB (aOp [.pl 3] (l1 (gIsi "str")))) (aOp [.ex (aVar 3)] gLstS) (aOp [] gLstS))) (fun _ _ => rfl) (fun _ _ _ => rfl) (fun _ _ _ => rfl) (p.parts.map fun d => (d, flatS d)) xs w (fun q hq xs => by
        obtain ⟨d, hd, rfl⟩ := List.mem_map.mp hq
        exact fl2 (parts_kn d hd) rfl) (by rw [f2, flat_nms2, List.length_map]; omega)
      rw [f1, f2, flat_nms2] at e
      have sl : aItems (aFz (aSl (.pl 2) (some (aC (.int 1))) none gSl)) [some (.sh s.d), some (.lst (xs.map O.sh)), some (.sh p.d), w] = .ok p.parts [some (.sh s.d), some (.lst (xs.map O.sh)), some (.sh p.d), w] := by
        rw [pl_d]
        exact items_ok (fz_ok (sl_rest rfl)) rfl
      obtain ⟨v', w', e'⟩ := ih (xs ++ p.nms.map D.str) (some (.sh p.d)) w1 (fun q hq => hps q (by simp [hq])) (by rw [List.length_append, List.length_map]; omega)
      refine ⟨v', w', ?_⟩
      rw [List.map_cons, forD, aN_in (by simp)]
      simp only [List.set_cons_succ, List.set_cons_zero]
      rw [for_any sl, e]
      simp only
      rw [e', List.flatMap_cons]
      simp only [List.map_append, List.append_assoc]
  obtain ⟨v', w', e⟩ := key s.plains [] none none hp (by rw [List.length_nil]; unfold Sen.nms at hn; omega)
  rw [List.nil_append] at e
  have src : aItems (aFz (aCall 1 [.pl 0] [] (d__law_plain 8))) [some (.sh s.d), some (.lst ([].map O.sh)), none, none] = .ok (s.plains.map Pl.d) [some (.sh s.d), some (.lst ([].map O.sh)), none, none] :=
    items_ok (fz_ok (calls1 (i := 0) rfl e0)) (by rw [fz, fzL_sh]; rfl)
  unfold d__law_sentence_names
  exact def_ret rfl ((seq_nx (set_ok (i := 1) (o := .lst ([].map O.sh)) (ρ' := [some (.sh s.d), none, none, none]) rfl (by simp))).trans ((seq_nx ((for_any src).trans e)).trans (ret_ok (op1_ok (i := 1) rfl (gSrtSet_oS hn))))) rfl
/-! ### their repr -/
theorem all_show : ∀ zs : List Str, PyData.showableAll (zs.map PyData.str) = true
  | [] => rfl
  | z :: zs => by rw [List.map_cons, PyData.showableAll, all_show zs]; rfl
theorem all_noD : ∀ zs : List Str, PyData.hasDictAll (zs.map PyData.str) = false
  | [] => rfl
  | z :: zs => by rw [List.map_cons, PyData.hasDictAll, all_noD zs]; rfl
theorem all_dep : ∀ zs : List Str, PyData.depthAll (zs.map PyData.str) = 0
  | [] => rfl
  | z :: zs => by rw [List.map_cons, PyData.depthAll, all_dep zs]; rfl
theorem all_len : ∀ zs : List Str, okSs zs → ((PyData.shownAll (zs.map PyData.str)).map (·.length)).sum ≤ 130 * zs.length ∧ (PyData.shownAll (zs.map PyData.str)).length = zs.length
  | [], _ => ⟨by simp [PyData.shownAll], rfl⟩
  | z :: zs, h => by
    obtain ⟨i1, i2⟩ := all_len zs fun x hx => h x (by simp [hx])
    have hz := h z (by simp)
    have := StrLaws.reprText_len z fun c hc => Nat.lt_of_lt_of_le (hz.2 c hc) (by decide)
    have := hz.1
    rw [List.map_cons, PyData.shownAll, List.map_cons, List.sum_cons, List.length_cons, List.length_cons, PyData.shown]
    omega
theorem repr_tS {zs : List Str} (h : okSs zs) (hl : zs.length ≤ 1000) : ∃ w : Str, gRepr (.sh (tS zs)) = some (.sh (.str w)) := by
  have e : toPy (fz (.sh (tS zs))) = some (.tuple (zs.map PyData.str)) := by
    show toPy (.tup _) = _
    rw [toPy, toPyL_strs]
    rfl
  obtain ⟨l1, l2⟩ := all_len zs h
  have l3 := tupleText_len_le (PyData.shownAll (zs.map PyData.str))
  refine ⟨PyData.shown (.tuple (zs.map PyData.str)), ?_⟩
  unfold gRepr
  rw [e]
  simp only
  rw [if_pos]
  refine ⟨rfl, ?_, ?_, ?_, ?_⟩
  · rw [PyData.showable, all_show]
  · rw [PyData.hasDict, all_noD]
  · rw [PyData.depth, all_dep]
    omega
  · rw [PyData.shown]
    omega
theorem uniq_mem {xs : List Str} : ∀ z ∈ uniq xs, z ∈ xs := by
  have key : ∀ (xs : List Str) (acc : List Str), ∀ z ∈ xs.foldl addK acc, z ∈ xs ∨ z ∈ acc := by
    intro xs
    induction xs with
    | nil => exact fun acc z hz => .inr hz
    | cons x xs ih =>
      intro acc z hz
      rw [List.foldl_cons] at hz
      rcases ih _ z hz with h | h
      · exact .inl (by simp [h])
      · unfold addK at h
        split at h
        · exact .inr h
        · rcases List.mem_cons.mp h with h | h
          · exact .inl (by simp [h])
          · exact .inr h
  intro z hz
  rcases key xs [] z hz with h | h
  · exact h
  · cases h
theorem names_repr {s : Sen} (h : s.ok) (hl : s.plains.length ≤ 10) : ∃ w : Str, gRepr (.sh (tS (sortStr (uniq s.nms)))) = some (.sh (.str w)) := by
  have ps := sortStr_perm (uniq s.nms)
  refine repr_tS (fun x hx => snms_ok h x (uniq_mem x (ps.mem_iff.mp hx))) ?_
  rw [ps.length_eq]
  exact Nat.le_trans (uniq_len _) (nms_le h hl)
end Lw
end
section
open PySem L2 Den
namespace Lw
mutual
/-- how deep tuples stand in one another -/
def dp : D → Nat
  | .tup ds => dpL ds + 1
  | _ => 0
def dpL : List D → Nat
  | [] => 0
  | d :: ds => max (dp d) (dpL ds)
end
theorem dpL_le {n : Nat} : ∀ {ds : List D}, dpL ds ≤ n ↔ ∀ d ∈ ds, dp d ≤ n
  | [] => by simp [dpL]
  | d :: ds => by
    have := dpL_le (n := n) (ds := ds)
    rw [dpL, Nat.max_le, this]
    simp
theorem dp_mem {ds : List D} {d : D} (h : d ∈ ds) : dp d ≤ dpL ds := dpL_le.mp (Nat.le_refl _) d h
theorem jdL_of : ∀ {ds : List D}, (∀ x ∈ ds, 2 * jd x ≤ dp x) → 2 * jdL ds ≤ dpL ds
  | [], _ => by simp [jdL]
  | d :: ds, h => by
    have h1 := h d (by simp)
    have h2 := jdL_of (ds := ds) fun x hx => h x (by simp [hx])
    rw [jdL, dpL]
    omega
theorem szL_mem {ds : List D} {d : D} (h : d ∈ ds) : szD d ≤ szL ds := by
  induction ds with
  | nil => cases h
  | cons e ds ih =>
    rw [szL]
    rcases List.mem_cons.mp h with rfl | h
    · omega
    · have := ih h
      omega
theorem jd_dpN : ∀ (N : Nat) (d : D), szD d ≤ N → 2 * jd d ≤ dp d
  | 0, d, h => by
    have : 1 ≤ szD d := by cases d <;> simp [szD]
    omega
  | N + 1, d, h => by
    cases d with
    | tup ds =>
      match ds, h with
      | [], _ => simp [jd, jdT]
      | [a], _ => simp [jd, jdT]
      | a :: b :: c :: r, _ =>
        have e : jdT (a :: b :: c :: r) = 0 := by cases b <;> rfl
        rw [jd, e]
        omega
      | [a, b], h =>
        cases b with
        | tup parts =>
          rw [szD, szL, szL, szD] at h
          have := jdL_of (ds := parts) fun x hx => jd_dpN N x (by have := szL_mem hx; omega)
          rw [jd, jdT, dp, dpL, dpL, dpL, dp]
          omega
        | _ => simp [jd, jdT]
    | _ => simp [jd]
theorem jd_dp (d : D) : 2 * jd d ≤ dp d := jd_dpN _ d (Nat.le_refl _)
/-- data that the judges can look at, so deep -/
def Gd (n : Nat) (d : D) : Prop := Fine d ∧ dp d ≤ n
theorem Gd.mono {n m : Nat} {d : D} (h : Gd n d) (hm : n ≤ m) : Gd m d := ⟨h.1, Nat.le_trans h.2 hm⟩
theorem Gd.tup {n : Nat} {ds : List D} (h : ∀ d ∈ ds, Gd n d) (hl : ds.length ≤ 100) : Gd (n + 1) (.tup ds) := by
  refine ⟨fine_tup.mpr ⟨hl, fun d hd => (h d hd).1⟩, ?_⟩
  rw [dp]
  have := dpL_le.mpr fun d hd => (h d hd).2
  omega
theorem Gd.lst {n : Nat} {ds : List D} (h : ∀ d ∈ ds, Fine d) (hl : ds.length ≤ 100) : Gd n (.lst ds) := by
  refine ⟨?_, by simp [dp]⟩
  rw [Fine, fineL]
  exact ⟨hl, h⟩
theorem Gd.un {n : Nat} {ds : List D} (h : Gd n (.tup ds)) : ∀ d ∈ ds, Gd n d := by
  obtain ⟨h1, h2⟩ := h
  rw [dp] at h2
  exact fun d hd => ⟨(fine_tup.mp h1).2 d hd, by have := dp_mem hd; omega⟩
theorem Gd.str {n : Nat} {x : Str} (h : x.length ≤ 12) : Gd n (.str x) := ⟨by rw [Fine]; omega, by simp [dp]⟩
theorem Gd.names {n : Nat} {xs : List Str} (h : okSs xs) (hl : xs.length ≤ 100) : Gd (n + 1) (tS xs) := Gd.tup (fun d hd => by
  obtain ⟨x, hx, rfl⟩ := List.mem_map.mp hd
  exact .str (h x hx).1) (by rw [List.length_map]; exact hl)
theorem Gd.jd {n : Nat} {d : D} (h : Gd n d) : 2 * jd d ≤ n := Nat.le_trans (jd_dp d) h.2
theorem key_len (p : Pl) : p.key.length ≤ 12 := by cases p <;> (simp only [Pl.key]; decide)
theorem gd_pl {p : Pl} (h : p.ok) : Gd 2 p.d := by
  rw [pl_d]
  have hk : ∀ n, Gd n (.str p.key) := fun n => .str (key_len p)
  refine Gd.tup (fun d hd => ?_) (by have := parts_len p; simp; omega)
  rcases List.mem_cons.mp hd with rfl | hd
  · exact hk _
  · have i : ∀ n : Int, Gd 1 (.int n) := fun n => ⟨by simp [Fine], by simp [dp]⟩
    cases p <;> simp only [Pl.ok] at h <;> simp only [Pl.parts, List.mem_cons, List.mem_nil_iff, or_false] at hd
    · rw [hd]; exact .names h.1 (by omega)
    · rcases hd with rfl | rfl
      · exact .str (h.1 _ (by simp)).1
      · exact .names (fun x hx => h.1 x (by simp [hx])) (by omega)
    · rcases hd with rfl | rfl <;> exact .str (h.1 _ (by simp)).1
    · rcases hd with rfl | rfl <;> exact .str (h.1 _ (by simp)).1
    · rcases hd with rfl | rfl | rfl
      · exact i _
      · exact .str (h.1 _ (by simp)).1
      · exact .names (fun x hx => h.1 x (by simp [hx])) (by omega)
    · rcases hd with rfl | rfl | rfl
      · exact i _
      · exact .str (h.1 _ (by simp)).1
      · exact .str (h.1 _ (by simp)).1
theorem jn_len (k : Bool) : (jn k).length ≤ 12 := by cases k <;> decide
theorem gd_sen : ∀ (n : Nat) (s : Sen), s.ok → s.dep ≤ n → Gd (2 * n + 2) s.d
  | n, .one p, h, _ => by
    rw [Sen.ok] at h
    rw [Sen.d]
    exact (gd_pl h).mono (by omega)
  | 0, .join k ss, h, hd => by
    rw [Sen.dep] at hd
    omega
  | n + 1, .join k ss, h, hd => by
    rw [Sen.ok] at h
    rw [Sen.dep] at hd
    rw [Sen.d, dL_map]
    have hs : Gd (2 * n + 3) (.tup (ss.map Sen.d)) := Gd.tup (fun d hd' => by
      obtain ⟨s, hm, rfl⟩ := List.mem_map.mp hd'
      exact gd_sen n s (okL_mem h.2.2 s hm) (by have := dep_mem hm; omega)) (by rw [List.length_map]; exact h.2.1.1)
    refine Gd.tup (fun d hd' => ?_) (by simp)
    simp only [List.mem_cons, List.mem_nil_iff, or_false] at hd'
    rcases hd' with rfl | rfl
    · exact .str (jn_len k)
    · exact hs
theorem sen_shape (s : Sen) : ∃ k rest, s.d = .tup (.str k :: rest) ∧ rest.length ≤ 3 := by
  cases s with
  | one p => exact ⟨p.key, p.parts, by rw [Sen.d, pl_d], parts_len p⟩
  | join k ss => exact ⟨jn k, [.tup (Sen.dL ss)], by rw [Sen.d], by simp⟩
end Lw
end
section
open PySem L2 Den
namespace Lw
/-! ### values that are typed, with what they are good for -/
def EvP (ρ : Store) (n : Nat) (g : aE) : Prop := ∃ d, g ρ = .ok (.sh d) ρ ∧ Gd n d
def EvPs (ρ : Store) (n : Nat) (ods : List Od) : Prop := ∃ ds : List D, evA ods ρ = .ok (ds.map fun d => Rv.o (.sh d)) ρ ∧ ds.length = ods.length ∧ ∀ d ∈ ds, Gd n d
theorem EvP.mono {ρ : Store} {n m : Nat} {g : aE} (h : EvP ρ n g) (hm : n ≤ m) : EvP ρ m g := by
  obtain ⟨d, e, hd⟩ := h
  exact ⟨d, e, hd.mono hm⟩
theorem EvPs.nil {ρ : Store} {n : Nat} : EvPs ρ n [] := ⟨[], rfl, rfl, fun d h => by cases h⟩
theorem EvPs.cons {ρ : Store} {n : Nat} {g : aE} {r : List Od} (h : EvP ρ n g) (h2 : EvPs ρ n r) : EvPs ρ n (.ex g :: r) := by
  obtain ⟨d, e, hd⟩ := h
  obtain ⟨ds, e2, hl, hds⟩ := h2
  refine ⟨d :: ds, ?_, by rw [List.length_cons, List.length_cons, hl], fun x hx => ?_⟩
  · simp [evA, e, e2, Res.bind]
  · rcases List.mem_cons.mp hx with rfl | hx
    · exact hd
    · exact hds x hx
theorem rsv_sh {ρ : Store} : ∀ ds : List D, rsv ρ (ds.map fun d => Rv.o (.sh d)) = some (ds.map O.sh)
  | [] => rfl
  | d :: ds => by simp [rsv, rsv_sh ds]
theorem ev_tup {ρ : Store} {n : Nat} {ods : List Od} (h : EvPs ρ n ods) (hl : ods.length ≤ 100) : EvP ρ (n + 1) (aOp ods Den.gTup) := by
  obtain ⟨ds, e, hd, hds⟩ := h
  refine ⟨.tup ds, ?_, Gd.tup hds (by omega)⟩
  unfold aOp
  rw [e]
  simp only [Res.bind, rsv_sh]
  rw [gTup_sh ds (by omega)]
theorem gLst_sh (ds : List D) (h : ds.length ≤ 16000000) : gLstS (ds.map O.sh) = some (.lst (ds.map O.sh)) := by
  unfold gLstS
  rw [shs_map]
  simp only
  rw [if_pos h]
theorem lits_ok {ρ : Store} {n : Nat} {ods : List Od} (h : EvPs ρ n ods) (hl : ods.length ≤ 100) : ∃ ds : List D, aOp ods gLstS ρ = .ok (.lst (ds.map O.sh)) ρ ∧ ds.length = ods.length ∧ ∀ d ∈ ds, Gd n d := by
  obtain ⟨ds, e, hd, hds⟩ := h
  refine ⟨ds, ?_, hd, hds⟩
  unfold aOp
  rw [e]
  simp only [Res.bind, rsv_sh]
  rw [gLst_sh ds (by omega)]
theorem ev_fz {ρ : Store} {n : Nat} {g : aE} (h : EvP ρ n g) : EvP ρ n (aFz g) := by
  obtain ⟨d, e, hd⟩ := h
  exact ⟨d, fz_ok e, hd⟩
theorem ev_lst {ρ : Store} {n : Nat} {ods : List Od} (h : EvPs ρ n ods) (hl : ods.length ≤ 100) : EvP ρ n (aFz (aOp ods gLstS)) := by
  obtain ⟨ds, e, hd, hds⟩ := lits_ok h hl
  refine ⟨.lst ds, ?_, Gd.lst (fun d hd => (hds d hd).1) (by omega)⟩
  rw [fz_ok e, fz, fzL_sh]
theorem ev_mul {ρ : Store} {n : Nat} {k : Int} {g : aE} (h : EvP ρ n g) (hk : 2 ≤ k ∧ k ≤ 100) : EvP ρ (n + 1) (aOp [.ex (aOp [.ex g] Den.gTup), .ex (aC (.int k))] (l2 gMulT)) := by
  obtain ⟨d, e, hd⟩ := h
  refine ⟨.tup (List.replicate k.toNat [d]).flatten, op_xx (op_e1 e (gTup_sh [d] (by simp))) rfl ?_, Gd.tup (fun x hx => ?_) ?_⟩
  · show (if _ then _ else _) = _
    rw [if_pos ⟨by simp, hk.1, by omega, by simp⟩]
  · obtain ⟨l, hl, hx⟩ := List.mem_flatten.mp hx
    rw [List.eq_of_mem_replicate hl, List.mem_singleton] at hx
    rw [hx]
    exact hd
  · rw [List.length_flatten, List.map_replicate, List.sum_replicate_nat]
    simp
    omega
theorem ev_str {ρ : Store} {n : Nat} {x : Str} (h : x.length ≤ 12) : EvP ρ n (aC (.str x)) := ⟨_, rfl, .str h⟩
theorem ev_int {ρ : Store} {n : Nat} {k : Int} : EvP ρ n (aC (.int k)) := ⟨_, rfl, by simp [Fine], by simp [dp]⟩
theorem ev_non {ρ : Store} {n : Nat} : EvP ρ n (aC .non) := ⟨_, rfl, by simp [Fine], by simp [dp]⟩
theorem ev_bl {ρ : Store} {n : Nat} {b : Bool} : EvP ρ n (aC (.bl b)) := ⟨_, rfl, by simp [Fine], by simp [dp]⟩
theorem ev_var {ρ : Store} {n i : Nat} {d : D} (h : ρ[i]? = some (some (.sh d))) (hd : Gd n d) : EvP ρ n (aVar i) := ⟨d, var_ok h, hd⟩
/-- typed values behind those of a list -/
theorem more_lits {k : Nat} {ρ : Store} {n : Nat} {ods : List Od} {xs : List D} (h3 : ρ[k]? = some (some (.lst (xs.map O.sh)))) (h : EvPs ρ n ods) (hx : ∀ d ∈ xs, Gd n d) (hl : ods.length ≤ 100) (hxl : xs.length ≤ 1000) :
    ∃ ys : List D, sSet k (aOp [.pl k, .ex (aOp ods gLstS)] (l2 gAdd)) ρ = .nx (ρ.set k (some (.lst (ys.map O.sh)))) ∧ (∀ d ∈ ys, Gd n d) ∧ ys.length = xs.length + ods.length := by
  obtain ⟨ds, e, hd, hds⟩ := lits_ok h hl
  refine ⟨xs ++ ds, set_ok (op_pl_ex h3 e h3 (gAdd_lst (by omega))) (List.getElem?_eq_some_iff.mp h3).1, fun d hd => ?_, by rw [List.length_append, hd]⟩
  rcases List.mem_append.mp hd with hd | hd
  · exact hx d hd
  · exact hds d hd
theorem call03' {F : aF} {pen pen' o : O} {os : List O} {x1 x2 : Option O} {rest : Store} (hd : ∃ kvs, pen = .dic kvs) (hF : F [pen, .lst os] = .ret o [pen', .lst os]) :
    aCall 2 [.pl 0, .pl 3] [] F (some pen :: x1 :: x2 :: some (.lst os) :: rest) = .ok o (some pen' :: x1 :: x2 :: some (.lst os) :: rest) := by
  obtain ⟨kvs, rfl⟩ := hd
  simp [aCall, evA, Res.bind, tak, giv, hF]
theorem pick_any {B n : Nat} {pen : O} {xs : List D} (hp : PenOk B pen) (hB : B < 1099511627775) (hn : xs ≠ []) (hl : xs.length ≤ 1000) (hx : ∀ d ∈ xs, Gd n d) :
    ∃ (d : D) (pen' : O), d__law_pick [pen, .lst (xs.map O.sh)] = .ret (.sh d) [pen', .lst (xs.map O.sh)] ∧ Gd n d ∧ PenOk (B + 1) pen' := by
  have h0 : 0 < xs.length := List.length_pos_iff.mpr hn
  refine t_pick (S := .lst (xs.map O.sh)) (n := xs.length) (Pd := Gd n) hp hB ?_ ⟨h0, by omega⟩ (fun k hk => ⟨xs[k], ?_, hx _ (List.getElem_mem hk)⟩)
  · show some _ = _
    rw [List.length_map]
  · unfold gIx
    simp only [lstD_sh, Den.atI_nat]
    rw [List.getElem?_map, List.getElem?_eq_getElem hk]
    rfl
/-- typed values in five lines, and one of them drawn -/
theorem five_lits {st : O → Option O → Store} {o1 o2 o3 o4 o5 : List Od} {n B : Nat} {pen : O} {x1 x2 : Option O} {r : Store} (hst : ∀ p v, st p v = some p :: x1 :: x2 :: v :: r) (hp : PenOk B pen) (hB : B + 1 < 1099511627775)
    (h1 : ∀ v, EvPs (st pen v) n o1) (h2 : ∀ v, EvPs (st pen v) n o2) (h3 : ∀ v, EvPs (st pen v) n o3) (h4 : ∀ v, EvPs (st pen v) n o4) (h5 : ∀ v, EvPs (st pen v) n o5)
    (l1 : 0 < o1.length ∧ o1.length ≤ 100) (l2' : o2.length ≤ 100) (l3 : o3.length ≤ 100) (l4 : o4.length ≤ 100) (l5 : o5.length ≤ 100) :
    ∃ (d : D) (pen' : O) (v : Option O), sSeq (sSet 3 (aOp o1 gLstS)) (sSeq (sSet 3 (aOp [.pl 3, .ex (aOp o2 gLstS)] (l2 gAdd))) (sSeq (sSet 3 (aOp [.pl 3, .ex (aOp o3 gLstS)] (l2 gAdd))) (sSeq (sSet 3 (aOp [.pl 3, .ex (aOp o4 gLstS)] (l2 gAdd))) (sSeq (sSet 3 (aOp [.pl 3, .ex (aOp o5 gLstS)] (l2 gAdd))) (sRet (aCall 2 [.pl 0, .pl 3] [] d__law_pick)))))) (st pen none) = .ret (.sh d) (st pen' v) ∧ Gd n d ∧ PenOk (B + 1) pen' := by
  have s3 : ∀ p v w, (st p v).set 3 w = st p w := fun p v w => by rw [hst, hst]; rfl
  have g3 : ∀ p v, (st p v)[3]? = some v := fun p v => by rw [hst]; rfl
  obtain ⟨d1, e1, m1, k1⟩ := lits_ok (h1 none) l1.2
  have t1 := set_ok (i := 3) e1 (List.getElem?_eq_some_iff.mp (g3 pen none)).1
  rw [s3] at t1
  obtain ⟨d2, t2, k2, m2⟩ := more_lits (g3 pen _) (h2 (some (.lst (d1.map O.sh)))) k1 l2' (by omega)
  rw [s3] at t2
  obtain ⟨d3, t3, k3, m3⟩ := more_lits (g3 pen _) (h3 (some (.lst (d2.map O.sh)))) k2 l3 (by omega)
  rw [s3] at t3
  obtain ⟨d4, t4, k4, m4⟩ := more_lits (g3 pen _) (h4 (some (.lst (d3.map O.sh)))) k3 l4 (by omega)
  rw [s3] at t4
  obtain ⟨d5, t5, k5, m5⟩ := more_lits (g3 pen _) (h5 (some (.lst (d4.map O.sh)))) k4 l5 (by omega)
  rw [s3] at t5
  obtain ⟨d, pen', e, kd, hp'⟩ := pick_any hp (by omega) (by intro z; rw [z] at m5; simp at m5; omega) (by omega) k5
  have c := call03' (x1 := x1) (x2 := x2) (rest := r) hp.dic e
  rw [← hst, ← hst] at c
  exact ⟨d, pen', some (.lst (d5.map O.sh)), (seq_nx t1).trans ((seq_nx t2).trans ((seq_nx t3).trans ((seq_nx t4).trans ((seq_nx t5).trans (ret_ok c))))), kd, hp'⟩
end Lw
end
section
open PySem L2 Den
namespace Lw
noncomputable abbrev oB1 : List Od := [.ex (aFz (aOp [.ex (aFz (aOp [.pl 1, .ex (aC (.int 0))] (l2 gIx)))] Den.gTup)), .ex (aFz (aOp [.pl 1, .ex (aOp [.ex (aVar 1)] Den.gTup)] (l2 gAdd))), .ex (aFz (aOp [.pl 1] (l1 gList))), .ex (aFz (aOp [.ex (aC (.str "not")), .ex (aVar 1)] Den.gTup)), .ex (aFz (aOp [.ex (aC (.str "and")), .ex (aFz (aOp [.ex (aVar 1)] Den.gTup))] Den.gTup)), .ex (aFz (aOp [.ex (aC (.str "or")), .ex (aFz (aOp [.ex (aVar 1), .ex (aVar 1)] gLstS))] Den.gTup)), .ex (aFz (aOp [.ex (aC (.str "and")), .ex (aFz (aOp [.ex (aVar 1), .ex (aVar 1)] Den.gTup))] Den.gTup)), .ex (aFz (aOp [.ex (aC (.str "or")), .ex (aFz (aOp [.ex (aOp [.ex (aVar 1)] Den.gTup), .ex (aC (.int 7))] (l2 gMulT)))] Den.gTup))]
noncomputable abbrev oB2 : List Od := [.ex (aFz (aOp [.ex (aC (.str "never")), .ex (aFz (aOp [] Den.gTup))] Den.gTup)), .ex (aFz (aOp [.ex (aC (.str "never")), .ex (aFz (aOp [.ex (aOp [.ex (aVar 5)] Den.gTup), .ex (aC (.int 5))] (l2 gMulT)))] Den.gTup)), .ex (aFz (aOp [.ex (aC (.str "never")), .ex (aFz (aOp [.ex (aOp [.ex (aVar 5)] Den.gTup), .ex (aC (.int 6))] (l2 gMulT)))] Den.gTup)), .ex (aFz (aOp [.ex (aC (.str "never")), .ex (aFz (aOp [.ex (aVar 5)] gLstS))] Den.gTup)), .ex (aFz (aOp [.ex (aC (.str "never")), .ex (aVar 5)] Den.gTup)), .ex (aFz (aOp [.ex (aC (.str "never")), .ex (aFz (aOp [.ex (aVar 5), .ex (aC .non)] Den.gTup))] Den.gTup)), .ex (aFz (aOp [.ex (aC (.str "until")), .ex (aVar 5), .ex (aFz (aOp [.ex (aVar 5)] Den.gTup))] Den.gTup)), .ex (aFz (aOp [.ex (aC (.str "until")), .ex (aVar 5), .ex (aFz (aOp [.ex (aVar 6)] Den.gTup))] Den.gTup)), .ex (aFz (aOp [.ex (aC (.str "until")), .ex (aC (.str "zz")), .ex (aFz (aOp [] Den.gTup))] Den.gTup)), .ex (aFz (aOp [.ex (aC (.str "until")), .ex (aC (.str "zz")), .ex (aFz (aOp [.ex (aOp [.ex (aVar 5)] Den.gTup), .ex (aC (.int 5))] (l2 gMulT)))] Den.gTup)), .ex (aFz (aOp [.ex (aC (.str "until")), .ex (aC (.str "zz")), .ex (aFz (aOp [.ex (aOp [.ex (aVar 5)] Den.gTup), .ex (aC (.int 6))] (l2 gMulT)))] Den.gTup)), .ex (aFz (aOp [.ex (aC (.str "until")), .ex (aC (.str "zz")), .ex (aFz (aOp [.ex (aVar 5)] gLstS))] Den.gTup))]
noncomputable abbrev oB3 : List Od := [.ex (aFz (aOp [.ex (aC (.str "most")), .ex (aC (.int 0)), .ex (aVar 5), .ex (aFz (aOp [] Den.gTup))] Den.gTup)), .ex (aFz (aOp [.ex (aC (.str "most")), .ex (aC (.int 6)), .ex (aVar 5), .ex (aFz (aOp [] Den.gTup))] Den.gTup)), .ex (aFz (aOp [.ex (aC (.str "most")), .ex (aC (.int 7)), .ex (aVar 5), .ex (aFz (aOp [] Den.gTup))] Den.gTup)), .ex (aFz (aOp [.ex (aC (.str "most")), .ex (aC (.bl true)), .ex (aVar 5), .ex (aFz (aOp [] Den.gTup))] Den.gTup)), .ex (aFz (aOp [.ex (aC (.str "most")), .ex (aC (.int 2)), .ex (aVar 5)] Den.gTup)), .ex (aFz (aOp [.ex (aC (.str "most")), .ex (aC (.int 2)), .ex (aVar 5), .ex (aFz (aOp [.ex (aVar 6)] Den.gTup))] Den.gTup)), .ex (aFz (aOp [.ex (aC (.str "most")), .ex (aC (.int 2)), .ex (aVar 5), .ex (aFz (aOp [.ex (aVar 6)] gLstS))] Den.gTup)), .ex (aFz (aOp [.ex (aC (.str "most")), .ex (aC (.int 1)), .ex (aC (.str "zz")), .ex (aFz (aOp [.ex (aVar 6), .ex (aVar 5)] Den.gTup))] Den.gTup))]
noncomputable abbrev oB4 : List Od := [.ex (aFz (aOp [.ex (aC (.str "most")), .ex (aC (.int 1)), .ex (aC (.str "zz")), .ex (aFz (aOp [.ex (aOp [.pl 2] (l1 gSrtSet))] (l1 gTuple)))] Den.gTup)), .ex (aFz (aOp [.ex (aC (.str "within")), .ex (aC (.int 2)), .ex (aVar 5), .ex (aVar 6)] Den.gTup)), .ex (aFz (aOp [.ex (aC (.str "within")), .ex (aC (.int 2)), .ex (aVar 5), .ex (aVar 5)] Den.gTup)), .ex (aFz (aOp [.ex (aC (.str "within")), .ex (aC (.int 7)), .ex (aVar 5), .ex (aVar 6)] Den.gTup)), .ex (aFz (aOp [.ex (aC (.str "within")), .ex (aVar 5), .ex (aVar 6)] Den.gTup)), .ex (aFz (aOp [.ex (aC (.str "within")), .ex (aC (.int 2)), .ex (aVar 5), .ex (aC .non)] Den.gTup))]
noncomputable abbrev oB5 : List Od := [.ex (aFz (aOp [.ex (aC (.str "after")), .ex (aVar 5), .ex (aVar 6)] Den.gTup)), .ex (aFz (aOp [.ex (aC (.str "after")), .ex (aVar 5), .ex (aVar 5)] Den.gTup)), .ex (aFz (aOp [.ex (aC (.str "turns")), .ex (aVar 5)] Den.gTup)), .ex (aFz (aOp [.ex (aC (.str "turns")), .ex (aVar 5), .ex (aC (.int 5))] Den.gTup)), .ex (aFz (aOp [.ex (aC (.str "turns")), .ex (aVar 5), .ex (aVar 6), .ex (aVar 5)] Den.gTup)), .ex (aFz (aOp [.ex (aC (.str "then")), .ex (aFz (aOp [.ex (aVar 5)] Den.gTup))] Den.gTup)), .ex (aFz (aOp [.ex (aC .non), .ex (aFz (aOp [.ex (aVar 5)] Den.gTup))] Den.gTup)), .ex (aFz (aOp [] Den.gTup)), .ex (aC .non), .ex (aC (.int 5)), .ex (aFz (aOp [.pl 1, .ex (aC (.int 0))] (l2 gIx)))]
section
variable {st : Option O → Store} {m : Nat} {pen : O} {s : D} {ds : List D} {cs : List Str} {a b : Str}
/-- what all these lines name -/
structure Nmd (m : Nat) (ρ : Store) : Prop where
  v1 : ∀ n, m ≤ n → EvP ρ n (aVar 1)
  v5 : ∀ n, EvP ρ n (aVar 5)
  v6 : ∀ n, EvP ρ n (aVar 6)
  h10 : ∀ n, EvP ρ n (aOp [.pl 1, .ex (aC (.int 0))] (l2 gIx))
  h1s : ∀ n, m + 1 ≤ n → EvP ρ n (aOp [.pl 1, .ex (aOp [.ex (aVar 1)] Den.gTup)] (l2 gAdd))
  h1l : ∀ n, EvP ρ n (aFz (aOp [.pl 1] (l1 gList)))
  h2s : ∀ n, 1 ≤ n → EvP ρ n (aFz (aOp [.ex (aOp [.pl 2] (l1 gSrtSet))] (l1 gTuple)))
theorem nmd_of {x3 x4 : Option O} {k : Str} {rest : List D} (hs : Gd m (.tup (.str k :: rest))) (hl : rest.length ≤ 3) (hk : k.length ≤ 12) (hc : okSs cs) (hcl : cs.length ≤ 10) (ha : nm1 a) (hb : nm1 b) : Nmd m [some pen, some (.sh (.tup (.str k :: rest))), some (.sh (tS cs)), x3, x4, some (.sh (.str a)), some (.sh (.str b))] where
  v1 n hn := ev_var (i := 1) rfl (hs.mono hn)
  v5 n := ev_var (i := 5) rfl (.str ha.1)
  v6 n := ev_var (i := 6) rfl (.str hb.1)
  h10 n := ⟨.str k, ix_ok (i := 1) (j := 0) rfl rfl, .str hk⟩
  h1s n hn := by
    refine ⟨.tup ((.str k :: rest) ++ [.tup (.str k :: rest)]), op_pl_ex (i := 1) rfl (op_e1 (var_ok (i := 1) rfl) (gTup_sh [_] (by simp))) rfl ?_, ?_⟩
    · show (if _ then _ else _) = _
      rw [if_pos (by simp; omega)]
    · refine Gd.mono (n := m + 1) (Gd.tup (fun d hd => ?_) (by simp; omega)) hn
      rcases List.mem_append.mp hd with hd | hd
      · exact hs.un d hd
      · rw [List.mem_singleton.mp hd]
        exact hs
  h1l n := by
    refine ⟨.lst (.str k :: rest), ?_, Gd.lst (fun d hd => (hs.un d hd).1) (by simp; omega)⟩
    rw [fz_ok (op1_ok (i := 1) rfl (gList_tup _)), fz, fzL_sh]
  h2s n hn := by
    refine ⟨tS (sortStr (uniq cs)), fz_ok (op1x_ok (op1_ok (i := 2) rfl (gSrtSet_tS (by omega))) (gTuple_oS _)), ?_⟩
    have ps := sortStr_perm (uniq cs)
    exact Gd.mono (n := 0 + 1) (Gd.names (fun x hx => hc x (uniq_mem x (ps.mem_iff.mp hx))) (by rw [ps.length_eq]; have := uniq_len cs; omega)) hn
theorem oB1_ok {ρ : Store} (h : Nmd m ρ) : EvPs ρ (m + 2) oB1 := by
  unfold oB1
  repeat' first
    | exact EvPs.nil
    | refine EvPs.cons ?_ ?_
    | exact h.v1 _ (by omega)
    | exact h.v5 _
    | exact h.v6 _
    | exact h.h10 _
    | exact h.h1s _ (by omega)
    | exact h.h1l _
    | exact h.h2s _ (by omega)
    | refine ev_lst ?_ (by simp)
    | refine ev_fz ?_
    | refine ev_mul ?_ (by omega)
    | refine ev_tup ?_ (by simp)
    | exact ev_str (by decide)
    | exact ev_int
    | exact ev_non
    | exact ev_bl
theorem oB2_ok {ρ : Store} (h : Nmd m ρ) : EvPs ρ (m + 2) oB2 := by
  unfold oB2
  repeat' first
    | exact EvPs.nil
    | refine EvPs.cons ?_ ?_
    | exact h.v1 _ (by omega)
    | exact h.v5 _
    | exact h.v6 _
    | exact h.h10 _
    | exact h.h1s _ (by omega)
    | exact h.h1l _
    | exact h.h2s _ (by omega)
    | refine ev_lst ?_ (by simp)
    | refine ev_fz ?_
    | refine ev_mul ?_ (by omega)
    | refine ev_tup ?_ (by simp)
    | exact ev_str (by decide)
    | exact ev_int
    | exact ev_non
    | exact ev_bl
theorem oB3_ok {ρ : Store} (h : Nmd m ρ) : EvPs ρ (m + 2) oB3 := by
  unfold oB3
  repeat' first
    | exact EvPs.nil
    | refine EvPs.cons ?_ ?_
    | exact h.v1 _ (by omega)
    | exact h.v5 _
    | exact h.v6 _
    | exact h.h10 _
    | exact h.h1s _ (by omega)
    | exact h.h1l _
    | exact h.h2s _ (by omega)
    | refine ev_lst ?_ (by simp)
    | refine ev_fz ?_
    | refine ev_mul ?_ (by omega)
    | refine ev_tup ?_ (by simp)
    | exact ev_str (by decide)
    | exact ev_int
    | exact ev_non
    | exact ev_bl
theorem oB4_ok {ρ : Store} (h : Nmd m ρ) : EvPs ρ (m + 2) oB4 := by
  unfold oB4
  repeat' first
    | exact EvPs.nil
    | refine EvPs.cons ?_ ?_
    | exact h.v1 _ (by omega)
    | exact h.v5 _
    | exact h.v6 _
    | exact h.h10 _
    | exact h.h1s _ (by omega)
    | exact h.h1l _
    | exact h.h2s _ (by omega)
    | refine ev_lst ?_ (by simp)
    | refine ev_fz ?_
    | refine ev_mul ?_ (by omega)
    | refine ev_tup ?_ (by simp)
    | exact ev_str (by decide)
    | exact ev_int
    | exact ev_non
    | exact ev_bl
theorem oB5_ok {ρ : Store} (h : Nmd m ρ) : EvPs ρ (m + 2) oB5 := by
  unfold oB5
  repeat' first
    | exact EvPs.nil
    | refine EvPs.cons ?_ ?_
    | exact h.v1 _ (by omega)
    | exact h.v5 _
    | exact h.v6 _
    | exact h.h10 _
    | exact h.h1s _ (by omega)
    | exact h.h1l _
    | exact h.h2s _ (by omega)
    | refine ev_lst ?_ (by simp)
    | refine ev_fz ?_
    | refine ev_mul ?_ (by omega)
    | refine ev_tup ?_ (by simp)
    | exact ev_str (by decide)
    | exact ev_int
    | exact ev_non
    | exact ev_bl
end
end Lw
end
section
open PySem L2 Den
namespace Lw
theorem callb {F : aF} {g : aE} {pen pen' o : O} {a C : D} {x1 : Option O} {rest : Store} (hd : ∃ kvs, pen = .dic kvs) (hg : g (some pen :: x1 :: some (.sh C) :: rest) = .ok (.sh a) (some pen :: x1 :: some (.sh C) :: rest)) (hF : F [pen, .sh a, .sh C] = .ret o [pen', .sh a, .sh C]) :
    aCall 3 [.pl 0, .ex g, .pl 2] [] F (some pen :: x1 :: some (.sh C) :: rest) = .ok o (some pen' :: x1 :: some (.sh C) :: rest) := by
  obtain ⟨kvs, rfl⟩ := hd
  simp [aCall, evA, Res.bind, tak, giv, hg, hF]
section
variable {B m : Nat} {pen : O} {cs : List Str} (h1 : 1 ≤ cs.length) (h6 : cs.length ≤ 6) (ho : okSs cs)
include h1 h6 ho
theorem bent_base {k : Str} {rest : List D} (hp : PenOk B pen) (hB : B + 10 < 1099511627775) (hs : Gd m (.tup (.str k :: rest))) (hl : rest.length ≤ 3) (hk : k.length ≤ 12) :
    ∃ (d : D) (pen' : O) (v : Option O) (a b : Str), sSeq (sPar 5 6 (aCall 2 [.pl 0, .pl 2] [] d__law_pick) (aCall 2 [.pl 0, .pl 2] [] d__law_pick)) (sSeq (sSet 3 (aOp oB1 gLstS)) (sSeq (sSet 3 (aOp [.pl 3, .ex (aOp oB2 gLstS)] (l2 gAdd))) (sSeq (sSet 3 (aOp [.pl 3, .ex (aOp oB3 gLstS)] (l2 gAdd))) (sSeq (sSet 3 (aOp [.pl 3, .ex (aOp oB4 gLstS)] (l2 gAdd))) (sSeq (sSet 3 (aOp [.pl 3, .ex (aOp oB5 gLstS)] (l2 gAdd))) (sRet (aCall 2 [.pl 0, .pl 3] [] d__law_pick)))))))
      [some pen, some (.sh (.tup (.str k :: rest))), some (.sh (tS cs)), none, none, none, none] = .ret (.sh d) [some pen', some (.sh (.tup (.str k :: rest))), some (.sh (tS cs)), v, none, some (.sh (.str a)), some (.sh (.str b))] ∧ Gd (m + 2) d ∧ PenOk (B + 3) pen' := by
  have hn : cs ≠ [] := by intro z; rw [z] at h1; simp at h1
  obtain ⟨a, pen1, e1, ha, hp1⟩ := pick_tS hp (by omega) hn (by omega)
  obtain ⟨b, pen2, e2, hb, hp2⟩ := pick_tS hp1 (by omega) hn (by omega)
  have c1 := call02 (M := some (.sh (.tup (.str k :: rest)))) (rest := [none, none, none, none]) hp.dic e1
  have c2 := call02 (M := some (.sh (.tup (.str k :: rest)))) (rest := [none, none, none, none]) hp1.dic e2
  have p := par_ok (i := 5) (j := 6) c1 c2 (by simp) (by simp)
  have nm : ∀ v, Nmd m [some pen2, some (.sh (.tup (.str k :: rest))), some (.sh (tS cs)), v, none, some (.sh (.str a)), some (.sh (.str b))] := fun v => nmd_of hs hl hk ho (by omega) (ho a ha) (ho b hb)
  obtain ⟨d, pen', v, e, gd, hp'⟩ := five_lits (o1 := oB1) (o2 := oB2) (o3 := oB3) (o4 := oB4) (o5 := oB5) (n := m + 2) (x1 := some (.sh (.tup (.str k :: rest)))) (x2 := some (.sh (tS cs))) (r := [none, some (.sh (.str a)), some (.sh (.str b))]) (st := fun p v => [some p, some (.sh (.tup (.str k :: rest))), some (.sh (tS cs)), v, none, some (.sh (.str a)), some (.sh (.str b))]) (fun _ _ => rfl) hp2 (by omega)
    (fun v => oB1_ok (nm v)) (fun v => oB2_ok (nm v)) (fun v => oB3_ok (nm v)) (fun v => oB4_ok (nm v)) (fun v => oB5_ok (nm v)) (by simp) (by simp) (by simp) (by simp) (by simp)
  exact ⟨d, pen', v, a, b, (seq_nx p).trans e, gd, hp'.mono (by omega)⟩
theorem t_bent : ∀ (n : Nat) (s : Sen) (k B : Nat) (pen : O), s.ok → s.dep < n → s.dep ≤ k → PenOk B pen → B + 10 * n + 10 < 1099511627775 →
    ∃ (d : D) (pen' : O), d__law_bent n [pen, .sh s.d, .sh (tS cs)] = .ret (.sh d) [pen', .sh s.d, .sh (tS cs)] ∧ Gd (2 * k + 4) d ∧ PenOk (B + 10 * n) pen'
  | 0, s, k, B, pen, _, h, _, _, _ => by omega
  | n + 1, .one p, k, B, pen, hok, hd, hk, hp, hB => by
    have gs := gd_sen k (.one p) hok hk
    rw [Sen.d, pl_d] at gs
    obtain ⟨d, pen', v, a, b, e, gd, hp'⟩ := bent_base h1 h6 ho hp (by omega) gs (parts_len p) (key_len p)
    refine ⟨d, pen', ?_, gd, hp'.mono (by omega)⟩
    have e1 : (Sen.one p).d = .tup (.str p.key :: p.parts) := by rw [Sen.d, pl_d]
    rw [e1]
    show b__law_bent (d__law_bent n) _ = _
    unfold b__law_bent
    have hj : ¬ (p.key = "and" ∨ p.key = "or") := by
      obtain ⟨k', rest, ek, n1, n2⟩ := pl_shape p
      rw [pl_d] at ek
      injection ek with ek
      injection ek with ek _
      injection ek with ek
      rw [ek]
      rintro (h | h)
      · exact n1 h
      · exact n2 h
    have c : aB (aOp [.ex (aOp [.pl 1, .ex (aC (.int 0))] (l2 gIx)), .ex (aOp [.ex (aC (.str "and")), .ex (aC (.str "or"))] gLstS)] (l2 gIn)) [some pen, some (.sh (.tup (.str p.key :: p.parts))), some (.sh (tS cs)), none, none, none, none] = .ok false [some pen, some (.sh (.tup (.str p.key :: p.parts))), some (.sh (tS cs)), none, none, none, none] := by
      refine b_ok (op_xx (ix_ok (i := 1) (j := 0) rfl rfl) lit_oS2 ?_)
      rw [gIn_oS]
      simp only [List.mem_cons, List.mem_nil_iff, or_false]
      rw [decide_eq_false hj]
    exact def_ret rfl ((seq_skip (and_no c)).trans e) rfl
  | n + 1, .join kd ss, k, B, pen, hok, hd, hk, hp, hB => by
    have gs := gd_sen k (.join kd ss) hok hk
    have e1 : (Sen.join kd ss).d = .tup [.str (jn kd), .tup (ss.map Sen.d)] := by rw [Sen.d, dL_map]
    rw [e1] at gs ⊢
    rw [Sen.ok] at hok
    rw [Sen.dep] at hd hk
    have c : aB (aOp [.ex (aOp [.pl 1, .ex (aC (.int 0))] (l2 gIx)), .ex (aOp [.ex (aC (.str "and")), .ex (aC (.str "or"))] gLstS)] (l2 gIn)) [some pen, some (.sh (.tup [.str (jn kd), .tup (ss.map Sen.d)])), some (.sh (tS cs)), none, none, none, none] = .ok true [some pen, some (.sh (.tup [.str (jn kd), .tup (ss.map Sen.d)])), some (.sh (tS cs)), none, none, none, none] := by
      refine b_ok (op_xx (ix_ok (i := 1) (j := 0) rfl rfl) lit_oS2 ?_)
      rw [gIn_oS]
      simp only [List.mem_cons, List.mem_nil_iff, or_false]
      rw [decide_eq_true (jn_in kd)]
    obtain ⟨r, pen1, e2, r0, r3, hp1⟩ := t_draw (many := 3) hp (by omega) (by omega)
    have c2 := callp (F := d__law_draw) (g := aC (.int 3)) (rest := [some (.sh (.tup [.str (jn kd), .tup (ss.map Sen.d)])), some (.sh (tS cs)), none, none, none, none]) hp.dic rfl e2
    obtain ⟨bb, hbb⟩ : ∃ b : Bool, gGt (.sh (.int r)) (.sh (.int 0)) = some (.sh (.bl b)) := ⟨_, rfl⟩
    have c3 := and_on c (b_ok (op_xx c2 rfl hbb))
    have ih : ∀ s ∈ ss, ∀ (B : Nat) (pen : O), PenOk B pen → B + 10 * n + 10 < 1099511627775 → ∃ (d : D) (pen' : O), d__law_bent n [pen, .sh s.d, .sh (tS cs)] = .ret (.sh d) [pen', .sh s.d, .sh (tS cs)] ∧ Gd (2 * (k - 1) + 4) d ∧ PenOk (B + 10 * n) pen' :=
      fun s hm B pen hp hB => t_bent n s (k - 1) B pen (okL_mem hok.2.2 s hm) (by have := dep_mem hm; omega) (by have := dep_mem hm; omega) hp hB
    show ∃ d pen', b__law_bent (d__law_bent n) _ = _ ∧ _
    revert ih
    generalize d__law_bent n = F
    intro ih
    cases bb with
    | false =>
      obtain ⟨d, pen', v, a, b, e, gd, hp'⟩ := bent_base h1 h6 ho hp1 (by omega) gs (by simp) (jn_len kd)
      exact ⟨d, pen', def_ret rfl ((seq_skip c3).trans e) rfl, gd, hp'.mono (by omega)⟩
    | true =>
      have l0 : 0 < ss.length := List.length_pos_iff.mpr hok.1
      have l1 := hok.2.1.1
      obtain ⟨r, pen2, e3, r0, r3, hp2⟩ := t_draw (many := (ss.length : Int)) hp1 (by omega) (by omega)
      obtain ⟨i, rfl⟩ := Int.eq_ofNat_of_zero_le r0
      have il : i < ss.length := by omega
      have s1 : ∀ (p : O) (x : Option O), aOp [.pl 1, .ex (aC (.int 1))] (l2 gIx) [some p, some (.sh (.tup [.str (jn kd), .tup (ss.map Sen.d)])), some (.sh (tS cs)), none, x, none, none] = .ok (.sh (.tup (ss.map Sen.d))) [some p, some (.sh (.tup [.str (jn kd), .tup (ss.map Sen.d)])), some (.sh (tS cs)), none, x, none, none] := fun p x => ix_ok (i := 1) (j := 1) rfl rfl
      have hlen : gLen (.sh (.tup (ss.map Sen.d))) = some (.sh (.int (ss.length : Int))) := by
        show some (O.sh (D.int (((ss.map Sen.d).length : Nat) : Int))) = _
        rw [List.length_map]
      have t4 := set_ok (i := 4) (callp (F := d__law_draw) (rest := [some (.sh (.tup [.str (jn kd), .tup (ss.map Sen.d)])), some (.sh (tS cs)), none, none, none, none]) hp1.dic (op1x_ok (s1 pen1 none) hlen) e3) (by simp)
      obtain ⟨d, pen', e4, gd, hp'⟩ := ih ss[i] (List.getElem_mem il) (B + 1 + 1) pen2 hp2 (by omega)
      have c4 := callb (x1 := some (.sh (.tup [.str (jn kd), .tup (ss.map Sen.d)]))) (rest := [none, some (.sh (.int (i : Int))), none, none]) hp2.dic (op_ex_pl (i := 4) (S := .sh (.int (i : Int))) (w := .sh ss[i].d) (s1 pen2 _) rfl (ix_tup (by rw [List.getElem?_map, List.getElem?_eq_getElem il]; rfl))) e4
      have sx : aSl (.ex (aOp [.pl 1, .ex (aC (.int 1))] (l2 gIx))) none (some (aVar 4)) gSl [some pen2, some (.sh (.tup [.str (jn kd), .tup (ss.map Sen.d)])), some (.sh (tS cs)), none, some (.sh (.int (i : Int))), none, none] = .ok (.sh (.tup ((ss.map Sen.d).take i))) [some pen2, some (.sh (.tup [.str (jn kd), .tup (ss.map Sen.d)])), some (.sh (tS cs)), none, some (.sh (.int (i : Int))), none, none] := by
        refine sl_to (j := (i : Int)) (rs := [.o (.sh (.tup (ss.map Sen.d)))]) ?_ (var_ok rfl) rfl ?_
        · simp [evA, s1, Res.bind]
        · rw [gSl_tup, cut_to]
      have sy : aSl (.ex (aOp [.pl 1, .ex (aC (.int 1))] (l2 gIx))) (some (aOp [.pl 4, .ex (aC (.int 1))] (l2 gAdd))) none gSl [some pen', some (.sh (.tup [.str (jn kd), .tup (ss.map Sen.d)])), some (.sh (tS cs)), none, some (.sh (.int (i : Int))), none, none] = .ok (.sh (.tup ((ss.map Sen.d).drop (i + 1)))) [some pen', some (.sh (.tup [.str (jn kd), .tup (ss.map Sen.d)])), some (.sh (tS cs)), none, some (.sh (.int (i : Int))), none, none] := by
        refine sl_from (j := ((i + 1 : Nat) : Int)) (rs := [.o (.sh (.tup (ss.map Sen.d)))]) ?_ (op_pl_ex (i := 4) rfl rfl rfl rfl) rfl ?_
        · simp [evA, s1, Res.bind]
        · rw [gSl_tup, cut_from]
      have gcat : ∀ xs ys : List D, xs.length + ys.length ≤ 16000000 → gAdd (.sh (.tup xs)) (.sh (.tup ys)) = some (.sh (.tup (xs ++ ys))) := fun xs ys h => by
        show (if _ then _ else _) = _
        rw [if_pos h]
      have lm : (ss.map Sen.d).length = ss.length := List.length_map _
      have x1 := op_xx sx (op_e1 (fz_ok c4) (gTup_sh [d] (by simp))) (gcat _ _ (by rw [List.length_take]; simp; omega))
      have x2 := op_xx x1 sy (gcat _ _ (by rw [List.length_append, List.length_take, List.length_drop]; simp; omega))
      have lt : ((ss.map Sen.d).take i ++ [d] ++ (ss.map Sen.d).drop (i + 1)).length ≤ 100 := by
        rw [List.length_append, List.length_append, List.length_take, List.length_drop, lm]
        simp
        omega
      have k0 := fz_ok (ix_ok (i := 1) (j := 0) (ρ := [some pen2, some (.sh (.tup [.str (jn kd), .tup (ss.map Sen.d)])), some (.sh (tS cs)), none, some (.sh (.int (i : Int))), none, none]) rfl rfl)
      have x3 := op_e2 k0 (fz_ok x2) (gTup_sh [.str (jn kd), .tup ((ss.map Sen.d).take i ++ [d] ++ (ss.map Sen.d).drop (i + 1))] (by simp))
      refine ⟨.tup [.str (jn kd), .tup ((ss.map Sen.d).take i ++ [d] ++ (ss.map Sen.d).drop (i + 1))], pen', def_ret rfl (seq_ret c3 ((seq_nx t4).trans (ret_ok x3))) rfl, ?_, hp'.mono (by omega)⟩
      have k1 : 1 ≤ k := by omega
      have gu := gs.un (.tup (ss.map Sen.d)) (by simp)
      have gss : ∀ s ∈ ss, Gd (2 * (k - 1) + 2) s.d := fun s hm => gd_sen (k - 1) s (okL_mem hok.2.2 s hm) (by have := dep_mem hm; omega)
      have gp : Gd (2 * (k - 1) + 4 + 1) (.tup ((ss.map Sen.d).take i ++ [d] ++ (ss.map Sen.d).drop (i + 1))) := Gd.tup (fun x hx => by
        have old : ∀ x ∈ ss.map Sen.d, Gd (2 * (k - 1) + 4) x := fun x hx => by
          obtain ⟨s, hm, rfl⟩ := List.mem_map.mp hx
          exact (gss s hm).mono (by omega)
        rcases List.mem_append.mp hx with hx | hx
        · rcases List.mem_append.mp hx with hx | hx
          · exact old x (List.mem_of_mem_take hx)
          · rw [List.mem_singleton.mp hx]
            exact gd
        · exact old x (List.mem_of_mem_drop hx)) lt
      refine Gd.mono (n := 2 * (k - 1) + 4 + 1 + 1) (Gd.tup (fun x hx => ?_) (by simp)) (by omega)
      simp only [List.mem_cons, List.mem_nil_iff, or_false] at hx
      rcases hx with rfl | rfl
      · exact .str (jn_len kd)
      · exact gp
end
end Lw
end
section
open PySem L2 Den
namespace Lw
theorem callq1 {F : aF} {g : aE} {x0 : Option O} {pen pen2 pen' a a' o : O} {rest rest2 : Store} (hd : ∃ kvs, pen2 = .dic kvs) (hg : g (x0 :: some pen :: rest) = .ok a (x0 :: some pen2 :: rest2)) (hF : F [pen2, a] = .ret o [pen', a']) :
    aCall 2 [.pl 1, .ex g] [] F (x0 :: some pen :: rest) = .ok o (x0 :: some pen' :: rest2) := by
  obtain ⟨kvs, rfl⟩ := hd
  simp [aCall, evA, Res.bind, tak, giv, hg, hF]
theorem call4 {F : aF} {g3 g4 : aE} {x0 x2 x3 x4 : Option O} {pen pen2 pen3 pen' o : O} {C m d : D} {rest : Store} (hd : ∃ kvs, pen3 = .dic kvs)
    (h3 : g3 (x0 :: some pen :: x2 :: x3 :: x4 :: some (.sh C) :: rest) = .ok (.sh m) (x0 :: some pen2 :: x2 :: x3 :: x4 :: some (.sh C) :: rest)) (h4 : g4 (x0 :: some pen2 :: x2 :: x3 :: x4 :: some (.sh C) :: rest) = .ok (.sh d) (x0 :: some pen3 :: x2 :: x3 :: x4 :: some (.sh C) :: rest))
    (hF : F [pen3, .sh C, .sh m, .sh d] = .ret o [pen', .sh C, .sh m, .sh d]) :
    aCall 4 [.pl 1, .pl 5, .ex g3, .ex g4] [] F (x0 :: some pen :: x2 :: x3 :: x4 :: some (.sh C) :: rest) = .ok o (x0 :: some pen' :: x2 :: x3 :: x4 :: some (.sh C) :: rest) := by
  obtain ⟨kvs, rfl⟩ := hd
  simp [aCall, evA, Res.bind, tak, giv, h3, h4, hF]
theorem call165 {F : aF} {x0 x2 x3 x4 x7 x8 : Option O} {pen pen' o : O} {C S : D} (hd : ∃ kvs, pen = .dic kvs) (hF : F [pen, .sh S, .sh C] = .ret o [pen', .sh S, .sh C]) :
    aCall 3 [.pl 1, .pl 6, .pl 5] [] F [x0, some pen, x2, x3, x4, some (.sh C), some (.sh S), x7, x8] = .ok o [x0, some pen', x2, x3, x4, some (.sh C), some (.sh S), x7, x8] := by
  obtain ⟨kvs, rfl⟩ := hd
  simp [aCall, evA, Res.bind, tak, giv, hF]
theorem one_draw2 {B m : Nat} {x0 : Option O} {pen : O} {rest : Store} (hp : PenOk B pen) (hB : B + 2 < 1099511627775) (hm : 0 < m ∧ m ≤ 1000) :
    ∃ (n : Nat) (pen' : O), aOp [.ex (aC (.int 1)), .ex (aCall 2 [.pl 1, .ex (aC (.int (m : Int)))] [] d__law_draw)] (l2 gAdd) (x0 :: some pen :: rest) = .ok (.sh (.int (n : Int))) (x0 :: some pen' :: rest) ∧ 0 < n ∧ n ≤ m ∧ PenOk (B + 1) pen' := by
  obtain ⟨r, pen2, e2, r0, r1, hp2⟩ := t_draw (many := (m : Int)) hp (by omega) (by omega)
  obtain ⟨k, rfl⟩ := Int.eq_ofNat_of_zero_le r0
  refine ⟨1 + k, pen2, ?_, by omega, by omega, hp2⟩
  generalize d__law_draw = G at e2 ⊢
  refine op_xx rfl (callq1 (F := G) hp.dic rfl e2) ?_
  show some _ = some _
  congr 3
theorem jg {n : Nat} {d : D} (h : Gd n d) (hn : n ≤ 14) : d__law_judged [.sh d] = .ret (.sh (.bl true)) [.sh d] := t_judged h.1 (by have := h.jd; omega)
theorem jg_ev {n : Nat} {g : aE} {ρ : Store} (h : EvP ρ n g) (hn : n ≤ 14) : aNot (aB (aCall 1 [.ex g] [] d__law_judged)) ρ = .ok false ρ := by
  obtain ⟨d, e, gd⟩ := h
  exact not_ok (b_ok (callx1 e (jg gd hn)))
section
variable {B : Nat} {pen : O} {cs : List Str} {x0 x2 x7 x8 : Option O} (h1 : 1 ≤ cs.length) (h6 : cs.length ≤ 6) (ho : okSs cs)
include h1 h6 ho
theorem turn_ok {s : Sen} (so : s.ok) (sd : s.dep ≤ 4) (hp : PenOk B pen) (hB : B + 1000 < 1099511627775) : ∃ (pen' : O) (y8 : Option O), ((sSeq (sSet 8 (aCall 3 [.pl 1, .pl 6, .pl 5] [] (d__law_bent 8)))
    (sIf (aOr (aNot (aB (aCall 1 [.pl 8] [] (d__law_judged)))) (aOr (aNot (aB (aCall 1 [.ex (aOp [.ex (aC (.str "and")), .ex (aFz (aOp [.ex (aVar 8), .ex (aVar 6)] Den.gTup))] Den.gTup)] [] (d__law_judged)))) (aNot (aB (aCall 1 [.ex (aOp [.ex (aC (.str "or")), .ex (aFz (aOp [.ex (aVar 6), .ex (aVar 8), .ex (aVar 8)] Den.gTup))] Den.gTup)] [] (d__law_judged)))))) (sRet (aC (.bl false))) sNext))) [x0, some pen, x2, none, none, some (.sh (tS cs)), some (.sh s.d), x7, x8] = .nx [x0, some pen', x2, none, none, some (.sh (tS cs)), some (.sh s.d), x7, y8] ∧ PenOk (B + 80) pen' := by
  obtain ⟨d, pen', e, gd, hp'⟩ := t_bent h1 h6 ho 8 s 4 B pen so (by omega) sd hp (by omega)
  have gs := gd_sen 4 s so sd
  refine ⟨pen', some (.sh d), ?_, hp'.mono (by omega)⟩
  generalize d__law_bent 8 = F at e ⊢
  have t := set_ok (i := 8) (call165 (F := F) (x0 := x0) (x2 := x2) (x3 := none) (x4 := none) (x7 := x7) (x8 := x8) hp.dic e) (by simp)
  refine (seq_nx t).trans ?_
  generalize tS cs = C
  generalize s.d = S at gs ⊢
  show sIf _ _ _ [x0, some pen', x2, none, none, some (.sh C), some (.sh S), x7, some (.sh d)] = _
  have v8 : ∀ n, 12 ≤ n → EvP [x0, some pen', x2, none, none, some (.sh C), some (.sh S), x7, some (.sh d)] n (aVar 8) := fun n hn => ev_var (i := 8) rfl (gd.mono hn)
  have v6 : ∀ n, 12 ≤ n → EvP [x0, some pen', x2, none, none, some (.sh C), some (.sh S), x7, some (.sh d)] n (aVar 6) := fun n hn => ev_var (i := 6) rfl (gs.mono (by omega))
  have j1 := not_ok (b_ok (calls1 (i := 8) (ρ := [x0, some pen', x2, none, none, some (.sh C), some (.sh S), x7, some (.sh d)]) rfl (jg gd (by omega))))
  have j2 : EvP [x0, some pen', x2, none, none, some (.sh C), some (.sh S), x7, some (.sh d)] (12 + 1 + 1) (aOp [.ex (aC (.str "and")), .ex (aFz (aOp [.ex (aVar 8), .ex (aVar 6)] Den.gTup))] Den.gTup) :=
    ev_tup (.cons (ev_str (by decide)) (.cons (ev_fz (ev_tup (.cons (v8 _ (by omega)) (.cons (v6 _ (by omega)) .nil)) (by simp))) .nil)) (by simp)
  have j3 : EvP [x0, some pen', x2, none, none, some (.sh C), some (.sh S), x7, some (.sh d)] (12 + 1 + 1) (aOp [.ex (aC (.str "or")), .ex (aFz (aOp [.ex (aVar 6), .ex (aVar 8), .ex (aVar 8)] Den.gTup))] Den.gTup) :=
    ev_tup (.cons (ev_str (by decide)) (.cons (ev_fz (ev_tup (.cons (v6 _ (by omega)) (.cons (v8 _ (by omega)) (.cons (v8 _ (by omega)) .nil))) (by simp))) .nil)) (by simp)
  exact if_no (or_ok2 j1 (or_ok2 (jg_ev j2 (by omega)) (jg_ev j3 (by omega))))
theorem turns_ok {s : Sen} (so : s.ok) (sd : s.dep ≤ 4) : ∀ (ds : List D) (B : Nat) (pen : O) (x7 x8 : Option O), PenOk B pen → B + 80 * ds.length + 1000 < 1099511627775 → ∃ (pen' : O) (y7 y8 : Option O), forD (aN 7) ((sSeq (sSet 8 (aCall 3 [.pl 1, .pl 6, .pl 5] [] (d__law_bent 8)))
    (sIf (aOr (aNot (aB (aCall 1 [.pl 8] [] (d__law_judged)))) (aOr (aNot (aB (aCall 1 [.ex (aOp [.ex (aC (.str "and")), .ex (aFz (aOp [.ex (aVar 8), .ex (aVar 6)] Den.gTup))] Den.gTup)] [] (d__law_judged)))) (aNot (aB (aCall 1 [.ex (aOp [.ex (aC (.str "or")), .ex (aFz (aOp [.ex (aVar 6), .ex (aVar 8), .ex (aVar 8)] Den.gTup))] Den.gTup)] [] (d__law_judged)))))) (sRet (aC (.bl false))) sNext))) ds [x0, some pen, x2, none, none, some (.sh (tS cs)), some (.sh s.d), x7, x8] = .nx [x0, some pen', x2, none, none, some (.sh (tS cs)), some (.sh s.d), y7, y8] ∧ PenOk (B + 80 * ds.length) pen' := by
  have tk := fun B pen x7 x8 hp hB => turn_ok (B := B) (pen := pen) (x0 := x0) (x2 := x2) (x7 := x7) (x8 := x8) h1 h6 ho so sd hp hB
  revert tk
  generalize ((sSeq (sSet 8 (aCall 3 [.pl 1, .pl 6, .pl 5] [] (d__law_bent 8)))
    (sIf (aOr (aNot (aB (aCall 1 [.pl 8] [] (d__law_judged)))) (aOr (aNot (aB (aCall 1 [.ex (aOp [.ex (aC (.str "and")), .ex (aFz (aOp [.ex (aVar 8), .ex (aVar 6)] Den.gTup))] Den.gTup)] [] (d__law_judged)))) (aNot (aB (aCall 1 [.ex (aOp [.ex (aC (.str "or")), .ex (aFz (aOp [.ex (aVar 6), .ex (aVar 8), .ex (aVar 8)] Den.gTup))] Den.gTup)] [] (d__law_judged)))))) (sRet (aC (.bl false))) sNext))) = body
  intro tk ds
  induction ds with
  | nil => exact fun B pen x7 x8 hp _ => ⟨pen, x7, x8, rfl, hp⟩
  | cons d ds ih =>
    intro B pen x7 x8 hp hB
    rw [List.length_cons] at hB
    obtain ⟨pen1, y8, e, hp1⟩ := tk B pen (some (.sh d)) x8 hp (by omega)
    obtain ⟨pen', y7, z8, e2, hp'⟩ := ih (B + 80) pen1 (some (.sh d)) y8 hp1 (by omega)
    refine ⟨pen', y7, z8, ?_, by rw [List.length_cons]; exact hp'.mono (by omega)⟩
    rw [forD, aN_in (by simp)]
    simp only [List.set_cons_succ, List.set_cons_zero]
    rw [e]
    exact e2
end
end Lw
end
section
open PySem L2 Den
namespace Lw
theorem lap_ok {B : Nat} {pen : O} {x0 x2 x5 x6 x7 x8 : Option O} (hp : PenOk B pen) (hB : B + 10000 < 1099511627775) :
    ∃ (pen' : O) (y5 y6 y7 y8 : Option O), ((sSeq (sSet 5 (aCall 2 [.pl 1, .ex (aOp [.ex (aC (.int 1)), .ex (aCall 2 [.pl 1, .ex (aC (.int 5))] [] (d__law_draw))] (l2 gAdd))] [] (d__law_calls)))
    (sSeq (sSet 6 (aCall 4 [.pl 1, .pl 5, .ex (aOp [.ex (aC (.int 1)), .ex (aCall 2 [.pl 1, .ex (aC (.int 10))] [] (d__law_draw))] (l2 gAdd)), .ex (aOp [.ex (aC (.int 1)), .ex (aCall 2 [.pl 1, .ex (aC (.int 3))] [] (d__law_draw))] (l2 gAdd))] [] (d__law_some_sentence 8)))
    (sSeq (sIf (aNot (aB (aCall 1 [.pl 6] [] (d__law_judged)))) (sRet (aC (.bl false))) sNext)
    (sSeq (sIf (aAnd (aB (aOp [.ex (aCall 1 [.pl 6] [] (d__law_many 8)), .ex (aC (.int 8))] (l2 gLe))) (aB (aOp [.ex (aOp [.ex (aCall 1 [.pl 6] [] (d_names_of))] (l1 gRepr)), .ex (aOp [.ex (aOp [.ex (aCall 1 [.pl 6] [] (d__law_sentence_names))] (l1 gTuple))] (l1 gRepr))] (l2 gNe)))) (sRet (aC (.bl false))) sNext)
    (sFor (aRng1 (aC (.int 6))) (aN 7) (sSeq (sSet 8 (aCall 3 [.pl 1, .pl 6, .pl 5] [] (d__law_bent 8)))
    (sIf (aOr (aNot (aB (aCall 1 [.pl 8] [] (d__law_judged)))) (aOr (aNot (aB (aCall 1 [.ex (aOp [.ex (aC (.str "and")), .ex (aFz (aOp [.ex (aVar 8), .ex (aVar 6)] Den.gTup))] Den.gTup)] [] (d__law_judged)))) (aNot (aB (aCall 1 [.ex (aOp [.ex (aC (.str "or")), .ex (aFz (aOp [.ex (aVar 6), .ex (aVar 8), .ex (aVar 8)] Den.gTup))] Den.gTup)] [] (d__law_judged)))))) (sRet (aC (.bl false))) sNext)))))))) [x0, some pen, x2, none, none, x5, x6, x7, x8] = .nx [x0, some pen', x2, none, none, y5, y6, y7, y8] ∧ PenOk (B + 1000) pen' := by
  obtain ⟨n, pen1, e1, n0, n5, hp1⟩ := one_draw2 (m := 5) (x0 := x0) (rest := [x2, none, none, x5, x6, x7, x8]) hp (by omega) (by omega)
  obtain ⟨cs, pen2, e2, hcl, hnd, hok, hp2⟩ := t_calls (n := n) hp1 (by omega) ⟨n0, by omega⟩
  obtain ⟨m, pen3, e3, m0, m10, hp3⟩ := one_draw2 (m := 10) (x0 := x0) (rest := [x2, none, none, some (.sh (tS cs)), x6, x7, x8]) hp2 (by omega) (by omega)
  obtain ⟨d, pen4, e4, d0, d3, hp4⟩ := one_draw2 (m := 3) (x0 := x0) (rest := [x2, none, none, some (.sh (tS cs)), x6, x7, x8]) hp3 (by omega) (by omega)
  have hbb : m * (21 + 2 * d) ≤ 10 * 27 := Nat.mul_le_mul (by omega) (by omega)
  obtain ⟨s, pen5, e5, so, sd, sl, hp5⟩ := t_some_sentence (cs := cs) (by omega) (by omega) hnd hok 8 d m (B + 1 + 110 + 1 + 1) pen4 (by omega) (by omega) (by omega) (by omega) hp4 (by omega)
  have hlen : (rngD 0 (6 : Int).toNat).length = 6 := by simp [rngD]
  obtain ⟨pen6, y7, y8, e6, hp6⟩ := turns_ok (x0 := x0) (x2 := x2) (by omega) (by omega) hok so (by omega) (rngD 0 (6 : Int).toNat) (B + 1 + 110 + 1 + 1 + m * (21 + 2 * d)) pen5 x7 x8 hp5 (by omega)
  rw [hlen] at hp6
  refine ⟨pen6, some (.sh (tS cs)), some (.sh s.d), y7, y8, ?_, hp6.mono (by omega)⟩
  have gs := gd_sen 4 s so (by omega)
  have t5 := set_ok (i := 5) (callq1 (F := d__law_calls) hp1.dic e1 e2) (by simp)
  have t6 := set_ok (i := 6) (call4 (F := d__law_some_sentence 8) (rest := [x6, x7, x8]) hp4.dic e3 e4 e5) (by simp)
  obtain ⟨w, hw⟩ := names_repr so (by omega)
  have nm := t_names_of so (by omega) (by omega)
  have ln := t_law_sentence_names so (by omega) (by omega)
  have lm := t_law_many 8 s.d gs.1 (by have := gs.jd; omega)
  have jd := jg gs (by omega)
  have e6' := (sFor_rng1 (g := aC (.int 6)) (tg := aN 7) (ρ := [x0, some pen5, x2, none, none, some (.sh (tS cs)), some (.sh s.d), x7, x8]) rfl (by omega)).trans e6
  refine (seq_nx t5).trans ((seq_nx t6).trans ?_)
  clear e1 e2 e3 e4 e5 e6 t5 t6
  revert nm ln lm jd hw e6'
  generalize d__law_judged = FJ
  generalize d__law_many 8 = FM
  generalize d_names_of = FN
  generalize d__law_sentence_names = FL
  generalize sortStr (uniq s.nms) = zs
  generalize many s.d = mm
  generalize s.d = S
  intro hw nm ln lm jd e6'
  have c1 := not_ok (b_ok (calls1 (i := 6) (ρ := [x0, some pen5, x2, none, none, some (.sh (tS cs)), some (.sh S), x7, x8]) rfl jd))
  have c2 : aAnd (aB (aOp [.ex (aCall 1 [.pl 6] [] FM), .ex (aC (.int 8))] (l2 gLe))) (aB (aOp [.ex (aOp [.ex (aCall 1 [.pl 6] [] FN)] (l1 gRepr)), .ex (aOp [.ex (aOp [.ex (aCall 1 [.pl 6] [] FL)] (l1 gTuple))] (l1 gRepr))] (l2 gNe))) [x0, some pen5, x2, none, none, some (.sh (tS cs)), some (.sh S), x7, x8] = .ok false [x0, some pen5, x2, none, none, some (.sh (tS cs)), some (.sh S), x7, x8] := by
    obtain ⟨b, hb⟩ : ∃ b : Bool, gLe (.sh (.int (mm : Nat))) (.sh (.int 8)) = some (.sh (.bl b)) := ⟨_, rfl⟩
    have p := b_ok (op_xx (calls1 (i := 6) (ρ := [x0, some pen5, x2, none, none, some (.sh (tS cs)), some (.sh S), x7, x8]) rfl lm) rfl hb)
    cases b with
    | false => exact and_no p
    | true =>
      refine and_on p (b_ok (op_xx (op1x_ok (calls1 (i := 6) rfl nm) hw) (op1x_ok (op1x_ok (calls1 (i := 6) rfl ln) (gTuple_oS _)) hw) ?_))
      rw [gNe_str]
      simp
  exact (seq_skip c1).trans ((seq_skip c2).trans e6')
theorem laps {body : aS} {x0 : Option O} (hb : ∀ (B : Nat) (pen : O) (x2 x5 x6 x7 x8 : Option O), PenOk B pen → B + 10000 < 1099511627775 → ∃ (pen' : O) (y5 y6 y7 y8 : Option O), body [x0, some pen, x2, none, none, x5, x6, x7, x8] = .nx [x0, some pen', x2, none, none, y5, y6, y7, y8] ∧ PenOk (B + 1000) pen') :
    ∀ (ds : List D) (B : Nat) (pen : O) (x2 x5 x6 x7 x8 : Option O), PenOk B pen → B + 10000 * (ds.length + 1) < 1099511627775 → ∃ (pen' : O) (y2 y5 y6 y7 y8 : Option O), forD (aN 2) body ds [x0, some pen, x2, none, none, x5, x6, x7, x8] = .nx [x0, some pen', y2, none, none, y5, y6, y7, y8] ∧ PenOk (B + 1000 * ds.length) pen'
  | [], B, pen, x2, x5, x6, x7, x8, hp, _ => ⟨pen, x2, x5, x6, x7, x8, rfl, hp⟩
  | d :: ds, B, pen, x2, x5, x6, x7, x8, hp, hB => by
    rw [List.length_cons] at hB
    obtain ⟨pen1, b5, b6, b7, b8, e, hp1⟩ := hb B pen (some (.sh d)) x5 x6 x7 x8 hp (by omega)
    obtain ⟨pen', c2, c5, c6, c7, c8, e2, hp'⟩ := laps hb ds (B + 1000) pen1 (some (.sh d)) b5 b6 b7 b8 hp1 (by omega)
    refine ⟨pen', c2, c5, c6, c7, c8, ?_, by rw [List.length_cons]; exact hp'.mono (by omega)⟩
    rw [forD, aN_in (by simp)]
    simp only [List.set_cons_succ, List.set_cons_zero]
    rw [e]
    exact e2
/-! ### the deep one and the wide one -/
theorem join_many (k : Str) (hk : k = "and" ∨ k = "or") (a b : D) : many (.tup [.str k, .tup [a, b]]) = many a + many b := by
  rw [many, manyT, if_pos hk, manyJ, if_pos (by simp), manyL, manyL, manyL]
  rfl
theorem join_fine {k : Str} (hk : k.length ≤ 12) {a b : D} (ha : Fine a) (hb : Fine b) : Fine (.tup [.str k, .tup [a, b]]) := by
  refine fine_tup.mpr ⟨by simp, fun d hd => ?_⟩
  simp only [List.mem_cons, List.mem_nil_iff, or_false] at hd
  rcases hd with rfl | rfl
  · rw [Fine]; omega
  · refine fine_tup.mpr ⟨by simp, fun d hd => ?_⟩
    simp only [List.mem_cons, List.mem_nil_iff, or_false] at hd
    rcases hd with rfl | rfl
    · exact ha
    · exact hb
theorem never_ev {ρ : Store} {x : Str} (hx : x.length ≤ 12) : EvP ρ (0 + 1 + 1) (aOp [.ex (aC (.str "never")), .ex (aFz (aOp [.ex (aC (.str x))] Den.gTup))] Den.gTup) :=
  ev_tup (.cons (ev_str (by decide)) (.cons (ev_fz (ev_tup (.cons (ev_str hx) .nil) (by simp))) .nil)) (by simp)
theorem deep_loop {x0 x1 x4 x5 x6 x7 x8 : Option O} : ∀ (ds : List D) (D0 : D) (x2 : Option O), Fine D0 → ∃ (D1 : D) (y2 : Option O), forD (aN 2) ((sSet 3 (aOp [.ex (aC (.str "and")), .ex (aFz (aOp [.ex (aVar 3), .ex (aFz (aOp [.ex (aC (.str "never")), .ex (aFz (aOp [.ex (aC (.str "b"))] Den.gTup))] Den.gTup))] Den.gTup))] Den.gTup))) ds [x0, x1, x2, some (.sh D0), x4, x5, x6, x7, x8] = .nx [x0, x1, y2, some (.sh D1), x4, x5, x6, x7, x8] ∧ Fine D1 ∧ many D0 + ds.length ≤ many D1
  | [], D0, x2, h => ⟨D0, x2, rfl, h, Nat.le_refl _⟩
  | d :: ds, D0, x2, h => by
    obtain ⟨nb, en, gn⟩ := never_ev (ρ := [x0, x1, some (.sh d), some (.sh D0), x4, x5, x6, x7, x8]) (x := "b") (by decide)
    have fj := join_fine (k := "and") (by decide) h gn.1
    obtain ⟨D1, y2, e, h1, h2⟩ := deep_loop ds _ (some (.sh d)) fj
    refine ⟨D1, y2, ?_, h1, ?_⟩
    · rw [forD, aN_in (by simp)]
      simp only [List.set_cons_succ, List.set_cons_zero]
      have v := var_ok (i := 3) (ρ := [x0, x1, some (.sh d), some (.sh D0), x4, x5, x6, x7, x8]) rfl
      have t := set_ok (i := 3) (op_n2 (d1 := .str "and") (fz_ok (op_e2 v (fz_ok en) (gTup_sh [D0, nb] (by simp)))) (gTup_sh [.str "and", .tup [D0, nb]] (by simp))) (by simp)
      rw [show sSet 3 _ [x0, x1, some (.sh d), some (.sh D0), x4, x5, x6, x7, x8] = _ from t]
      exact e
    · rw [join_many _ (.inl rfl)] at h2
      have := many_pos nb
      rw [List.length_cons]
      omega
theorem wide_loop {x0 x3 x5 x6 x7 x8 : Option O} : ∀ (ds : List D) (D0 : D) (x2 : Option O) (B : Nat) (pen : O), Fine D0 → PenOk B pen → B + ds.length < 1099511627775 → ∃ (D1 : D) (y2 : Option O) (pen' : O), forD (aN 2) ((sSet 4 (aOp [.ex (aFz (aCall 2 [.pl 1, .ex (aOp [.ex (aC (.str "and")), .ex (aC (.str "or"))] gLstS)] [] (d__law_pick))), .ex (aFz (aOp [.ex (aVar 4), .ex (aVar 4)] Den.gTup))] Den.gTup))) ds [x0, some pen, x2, x3, some (.sh D0), x5, x6, x7, x8] = .nx [x0, some pen', y2, x3, some (.sh D1), x5, x6, x7, x8] ∧ Fine D1 ∧ many D0 + ds.length ≤ many D1 ∧ PenOk (B + ds.length) pen'
  | [], D0, x2, B, pen, h, hp, _ => ⟨D0, x2, pen, rfl, h, Nat.le_refl _, hp⟩
  | d :: ds, D0, x2, B, pen, h, hp, hB => by
    rw [List.length_cons] at hB
    obtain ⟨k, pen1, e1, hk, hp1⟩ := pick_oS (xs := ["and", "or"]) hp (by omega) (by simp) (by simp)
    have hk2 : k = "and" ∨ k = "or" := by simpa using hk
    have kl : k.length ≤ 12 := by rcases hk2 with rfl | rfl <;> decide
    have fj := join_fine kl h h
    obtain ⟨D1, y2, pen', e, h1, h2, hp'⟩ := wide_loop ds _ (some (.sh d)) (B + 1) pen1 fj hp1 (by omega)
    refine ⟨D1, y2, pen', ?_, h1, ?_, by rw [List.length_cons]; exact hp'.mono (by omega)⟩
    · rw [forD, aN_in (by simp)]
      simp only [List.set_cons_succ, List.set_cons_zero]
      have c := callq1 (F := d__law_pick) (x0 := x0) (rest := [some (.sh d), x3, some (.sh D0), x5, x6, x7, x8]) hp.dic lit_oS2 e1
      have v := var_ok (i := 4) (ρ := [x0, some pen1, some (.sh d), x3, some (.sh D0), x5, x6, x7, x8]) rfl
      have t := set_ok (i := 4) (op_e2 (fz_ok c) (fz_ok (op_e2 v v (gTup_sh [D0, D0] (by simp)))) (gTup_sh [.str k, .tup [D0, D0]] (by simp))) (by simp)
      rw [show sSet 4 _ [x0, some pen, some (.sh d), x3, some (.sh D0), x5, x6, x7, x8] = _ from t]
      exact e
    · rw [join_many _ hk2] at h2
      have := many_pos D0
      rw [List.length_cons]
      omega
theorem isB_no {i : Nat} {d : D} {ρ : Store} (h : ρ[i]? = some (some (.sh d))) (hf : Fine d) (hm : 8 < many d) : aB (aOp [.ex (aCall 1 [.pl i] [] d_is_sentence)] (l1 (gIsB false))) ρ = .ok true ρ := by
  have e := t_is_sentence hf
  rw [decide_eq_false (by omega)] at e
  generalize d_is_sentence = F at e ⊢
  exact b_ok (op1x_ok (calls1 h e) rfl)
theorem last_ok {x0 x2 x5 x6 x7 x8 : Option O} {B : Nat} {pen : O} {D3 D4 : D} (hp : PenOk B pen) (hB : B + 1 < 1099511627775) (f3 : Fine D3) (f4 : Fine D4) (m3 : 8 < many D3) (m4 : 8 < many D4) :
    ∃ ρ, ((sRet (aAndV (aB (aOp [.ex (aCall 1 [.pl 4] [] (d_is_sentence))] (l1 (gIsB false)))) (aAndV (aB (aOp [.ex (aCall 1 [.pl 3] [] (d_is_sentence))] (l1 (gIsB false)))) (aCall 1 [.ex (aCall 2 [.pl 1, .ex (aOp [.ex (aC .non), .ex (aC (.int 5)), .ex (aC (.str "never")), .ex (aFz aNewD), .ex (aFz (aOp [.ex (aC (.str "never")), .ex (aFz (aOp [.ex (aC (.str "a"))] Den.gTup))] gLstS)), .ex (aC (.bl true)), .ex (aFz (aOp [.ex (aC (.str "and"))] Den.gTup)), .ex (aFz (aOp [.ex (aFz (aOp [] Den.gTup))] Den.gTup))] gLstS)] [] (d__law_pick))] [] (d__law_judged)))))) [x0, some pen, x2, some (.sh D3), some (.sh D4), x5, x6, x7, x8] = .ret (.sh (.bl true)) ρ ∧ ρ[0]? = some x0 ∧ ρ.length = 9 := by
  have nd : ∀ n (ρ : Store), EvP ρ n (aFz aNewD) := fun n ρ => ⟨.dic [], rfl, by simp [Fine], by simp [dp]⟩
  have ls : EvPs [x0, some pen, x2, some (.sh D3), some (.sh D4), x5, x6, x7, x8] 4 [.ex (aC .non), .ex (aC (.int 5)), .ex (aC (.str "never")), .ex (aFz aNewD), .ex (aFz (aOp [.ex (aC (.str "never")), .ex (aFz (aOp [.ex (aC (.str "a"))] Den.gTup))] gLstS)), .ex (aC (.bl true)), .ex (aFz (aOp [.ex (aC (.str "and"))] Den.gTup)), .ex (aFz (aOp [.ex (aFz (aOp [] Den.gTup))] Den.gTup))] := by
    repeat' first
      | exact EvPs.nil
      | refine EvPs.cons ?_ ?_
      | exact nd _ _
      | refine ev_lst ?_ (by simp)
      | refine ev_fz ?_
      | refine ev_tup ?_ (by simp)
      | exact ev_str (by decide)
      | exact ev_int
      | exact ev_non
      | exact ev_bl
  obtain ⟨ys, e, yl, gy⟩ := lits_ok ls (by simp)
  obtain ⟨d, pen', e2, gd, hp'⟩ := pick_any hp (by omega) (by intro z; rw [z] at yl; simp at yl) (by rw [yl]; simp) gy
  have c := callq1 (F := d__law_pick) (x0 := x0) (rest := [x2, some (.sh D3), some (.sh D4), x5, x6, x7, x8]) hp.dic e e2
  have j := callv1 c (jg gd (by omega))
  have i4 := isB_no (i := 4) (ρ := [x0, some pen, x2, some (.sh D3), some (.sh D4), x5, x6, x7, x8]) rfl f4 m4
  have i3 := isB_no (i := 3) (ρ := [x0, some pen, x2, some (.sh D3), some (.sh D4), x5, x6, x7, x8]) rfl f3 m3
  refine ⟨[x0, some pen', x2, some (.sh D3), some (.sh D4), x5, x6, x7, x8], ?_, rfl, rfl⟩
  exact ret_ok (andv_on i4 (andv_on i3 j))
theorem law_true : ∀ ns : List Int, ns.length ≤ 63 → ∃ os', d_law [.sh (.wls (ns.map D.int))] = .ret (.sh (.bl true)) os' ∧ os'.length = 1 := by
  intro ns hn
  obtain ⟨pen, e0, hp⟩ := t_pen hn
  generalize D.wls (ns.map D.int) = W at e0 ⊢
  have h5 : (rngD 0 (5 : Int).toNat).length = 5 := by simp [rngD]
  have h3000 : (rngD 0 (3000 : Int).toNat).length = 3000 := by rw [rngD, List.length_map, List.length_range]; rfl
  have h50 : (rngD 0 (50 : Int).toNat).length = 50 := by simp [rngD]
  obtain ⟨pen1, y2, y5, y6, y7, y8, e1, hp1⟩ := laps (x0 := some (.sh W)) (fun B pen x2 x5 x6 x7 x8 h hB => lap_ok (x0 := some (.sh W)) (x2 := x2) (x5 := x5) (x6 := x6) (x7 := x7) (x8 := x8) h hB) (rngD 0 (5 : Int).toNat) 0 pen none none none none none hp (by rw [h5]; omega)
  rw [h5] at hp1
  have s1 := set_ok (i := 1) (call1_sh (F := d__law_pen) (rest := [none, none, none, none, none, none, none, none]) e0) (by simp)
  have e1' := (sFor_rng1 (g := aC (.int 5)) (tg := aN 2) (ρ := [some (.sh W), some pen, none, none, none, none, none, none, none]) rfl (by omega)).trans e1
  obtain ⟨n3, en3, gn3⟩ := never_ev (ρ := [some (.sh W), some pen1, y2, none, none, y5, y6, y7, y8]) (x := "a") (by decide)
  have s3 := set_ok (i := 3) en3 (by simp)
  obtain ⟨D3, z2, e3, f3, m3⟩ := deep_loop (x0 := some (.sh W)) (x1 := some pen1) (x4 := none) (x5 := y5) (x6 := y6) (x7 := y7) (x8 := y8) (rngD 0 (3000 : Int).toNat) n3 y2 gn3.1
  have e3' := (sFor_rng1 (g := aC (.int 3000)) (tg := aN 2) (ρ := [some (.sh W), some pen1, y2, some (.sh n3), none, y5, y6, y7, y8]) rfl (by omega)).trans e3
  rw [h3000] at m3
  obtain ⟨n4, en4, gn4⟩ := never_ev (ρ := [some (.sh W), some pen1, z2, some (.sh D3), none, y5, y6, y7, y8]) (x := "a") (by decide)
  have s4 := set_ok (i := 4) en4 (by simp)
  obtain ⟨D4, w2, pen2, e4, f4, m4, hp2⟩ := wide_loop (x0 := some (.sh W)) (x3 := some (.sh D3)) (x5 := y5) (x6 := y6) (x7 := y7) (x8 := y8) (rngD 0 (50 : Int).toNat) n4 z2 _ pen1 gn4.1 hp1 (by rw [h50]; omega)
  have e4' := (sFor_rng1 (g := aC (.int 50)) (tg := aN 2) (ρ := [some (.sh W), some pen1, z2, some (.sh D3), some (.sh n4), y5, y6, y7, y8]) rfl (by omega)).trans e4
  rw [h50] at m4 hp2
  obtain ⟨ρ, e5, r0, rl⟩ := last_ok (x0 := some (.sh W)) (x2 := w2) (x5 := y5) (x6 := y6) (x7 := y7) (x8 := y8) hp2 (by omega) f3 f4 (by omega) (by omega)
  refine ⟨[.sh W], ?_, rfl⟩
  match ρ, r0, rl, e5 with
  | x :: r, r0, _, e5 =>
    have : x = some (.sh W) := by simpa using r0
    subst this
    unfold d_law
    exact def_ret rfl ((seq_nx s1).trans ((seq_nx e1').trans ((seq_nx s3).trans ((seq_nx e3').trans ((seq_nx s4).trans ((seq_nx e4').trans e5)))))) rfl
end Lw
end
section
open PySem PySem.W PyProof.Rows in
set_option maxRecDepth 100000 in
set_option maxHeartbeats 0 in
theorem PySem.Challenge.cw_keepersnotes_k03_sentences_judged_holds : PySem.Challenge.rw_keepersnotes_k03_sentences_judged.Holds := by
  w_on; o_law; k_head; (case hw => w_witness2)
  k_fill
  refine Den.walk_denG (l := PySem.Challenge.rw_keepersnotes_k03_sentences_judged) (k := 13) (den := Lw.d_law) (cls := fun _ => 0) rfl rfl ⟨rfl, by decide, by decide⟩ (fun w h Y => PySem.W.kIn_of Y) ?F Lw.law_true
  case F =>
    intro w mg fa h KX G hmg
    refine' Lw.all_mk KX G hmg ?a_is_whole ?u_is_whole ?l_is_whole ?c_is_whole ?k_is_whole ?a_ascending ?l_ascending ?c_ascending ?k_ascending ?a_is_name ?l_is_name ?c_is_name ?k_is_name ?a_is_word ?l_is_word ?c_is_word ?k_is_word ?a_is_short ?l_is_short ?c_is_short ?k_is_short ?a_are_resets ?l_are_resets ?c_are_resets ?k_are_resets ?a_are_two ?l_are_two ?c_are_two ?k_are_two ?a_is_plain ?l_is_plain ?c_is_plain ?k_is_plain ?a_plain_among ?l_plain_among ?c_plain_among ?k_plain_among ?a_is_sentence ?l_is_sentence ?c_is_sentence ?k_is_sentence ?a_plain_of ?l_plain_of ?c_plain_of ?k_plain_of ?a_names_in ?l_names_in ?c_names_in ?k_names_in ?a_names_of ?l_names_of ?c_names_of ?k_names_of ?a__law_pen ?l__law_pen ?c__law_pen ?k__law_pen ?a__law_draw ?l__law_draw ?c__law_draw ?k__law_draw ?a__law_pick ?l__law_pick ?c__law_pick ?k__law_pick ?a__law_shuffled ?l__law_shuffled ?c__law_shuffled ?k__law_shuffled ?a__law_some ?l__law_some ?c__law_some ?k__law_some ?a__law_name ?l__law_name ?c__law_name ?k__law_name ?a__law_names ?l__law_names ?c__law_names ?k__law_names ?a__law_same ?l__law_same ?c__law_same ?k__law_same ?a__law_is_whole ?l__law_is_whole ?c__law_is_whole ?k__law_is_whole ?a__law_is_name ?l__law_is_name ?c__law_is_name ?k__law_is_name ?a__law_calls ?l__law_calls ?c__law_calls ?k__law_calls ?a__law_some_plain ?l__law_some_plain ?c__law_some_plain ?k__law_some_plain ?a__law_some_sentence ?l__law_some_sentence ?c__law_some_sentence ?k__law_some_sentence ?a__law_plain ?l__law_plain ?c__law_plain ?k__law_plain ?a__law_sentence_names ?l__law_sentence_names ?c__law_sentence_names ?k__law_sentence_names ?a__law_is_row ?l__law_is_row ?c__law_is_row ?k__law_is_row ?a__law_is_plain ?l__law_is_plain ?c__law_is_plain ?k__law_is_plain ?a__law_many ?l__law_many ?c__law_many ?k__law_many ?a__law_bent ?l__law_bent ?c__law_bent ?k__law_bent ?a__law_judged ?l__law_judged ?c__law_judged ?k__law_judged ?a_law ?l_law ?c_law ?k_law ?n_isinstance ?n_int ?n_bool ?n_sorted ?n_set ?n_tuple ?n_str ?n_len ?n_all ?n_zip ?n_list ?n_range ?n_min ?n_sum ?n_repr ?q_MOST_CALLS ?q_MOST_RESETS ?q_MOST_MANY ?q_JOINTS ?w_JOINTS ?q_MOST_PARTS ?q_MOST_PLAIN
    (case a_is_whole => k_is)
    (case l_is_whole => k_is)
    (case c_is_whole => k_is)
    (case k_is_whole => k_is)
    (case a_ascending => k_is)
    (case l_ascending => k_is)
    (case c_ascending => k_is)
    (case k_ascending => k_is)
    (case a_is_name => k_is)
    (case l_is_name => k_is)
    (case c_is_name => k_is)
    (case k_is_name => k_is)
    (case a_is_word => k_is)
    (case l_is_word => k_is)
    (case c_is_word => k_is)
    (case k_is_word => k_is)
    (case a_is_short => k_is)
    (case l_is_short => k_is)
    (case c_is_short => k_is)
    (case k_is_short => k_is)
    (case a_are_resets => k_is)
    (case l_are_resets => k_is)
    (case c_are_resets => k_is)
    (case k_are_resets => k_is)
    (case a_are_two => k_is)
    (case l_are_two => k_is)
    (case c_are_two => k_is)
    (case k_are_two => k_is)
    (case a_is_plain => k_is)
    (case l_is_plain => k_is)
    (case c_is_plain => k_is)
    (case k_is_plain => k_is)
    (case a_plain_among => k_is)
    (case l_plain_among => k_is)
    (case c_plain_among => k_is)
    (case k_plain_among => k_is)
    (case a_is_sentence => k_is)
    (case l_is_sentence => k_is)
    (case c_is_sentence => k_is)
    (case k_is_sentence => k_is)
    (case a_plain_of => k_is)
    (case l_plain_of => k_is)
    (case c_plain_of => k_is)
    (case k_plain_of => k_is)
    (case a_names_in => k_is)
    (case l_names_in => k_is)
    (case c_names_in => k_is)
    (case k_names_in => k_is)
    (case a_names_of => k_is)
    (case l_names_of => k_is)
    (case c_names_of => k_is)
    (case k_names_of => k_is)
    (case a__law_pen => k_is)
    (case l__law_pen => k_is)
    (case c__law_pen => k_is)
    (case k__law_pen => k_is)
    (case a__law_draw => k_is)
    (case l__law_draw => k_is)
    (case c__law_draw => k_is)
    (case k__law_draw => k_is)
    (case a__law_pick => k_is)
    (case l__law_pick => k_is)
    (case c__law_pick => k_is)
    (case k__law_pick => k_is)
    (case a__law_shuffled => k_is)
    (case l__law_shuffled => k_is)
    (case c__law_shuffled => k_is)
    (case k__law_shuffled => k_is)
    (case a__law_some => k_is)
    (case l__law_some => k_is)
    (case c__law_some => k_is)
    (case k__law_some => k_is)
    (case a__law_name => k_is)
    (case l__law_name => k_is)
    (case c__law_name => k_is)
    (case k__law_name => k_is)
    (case a__law_names => k_is)
    (case l__law_names => k_is)
    (case c__law_names => k_is)
    (case k__law_names => k_is)
    (case a__law_same => k_is)
    (case l__law_same => k_is)
    (case c__law_same => k_is)
    (case k__law_same => k_is)
    (case a__law_is_whole => k_is)
    (case l__law_is_whole => k_is)
    (case c__law_is_whole => k_is)
    (case k__law_is_whole => k_is)
    (case a__law_is_name => k_is)
    (case l__law_is_name => k_is)
    (case c__law_is_name => k_is)
    (case k__law_is_name => k_is)
    (case a__law_calls => k_is)
    (case l__law_calls => k_is)
    (case c__law_calls => k_is)
    (case k__law_calls => k_is)
    (case a__law_some_plain => k_is)
    (case l__law_some_plain => k_is)
    (case c__law_some_plain => k_is)
    (case k__law_some_plain => k_is)
    (case a__law_some_sentence => k_is)
    (case l__law_some_sentence => k_is)
    (case c__law_some_sentence => k_is)
    (case k__law_some_sentence => k_is)
    (case a__law_plain => k_is)
    (case l__law_plain => k_is)
    (case c__law_plain => k_is)
    (case k__law_plain => k_is)
    (case a__law_sentence_names => k_is)
    (case l__law_sentence_names => k_is)
    (case c__law_sentence_names => k_is)
    (case k__law_sentence_names => k_is)
    (case a__law_is_row => k_is)
    (case l__law_is_row => k_is)
    (case c__law_is_row => k_is)
    (case k__law_is_row => k_is)
    (case a__law_is_plain => k_is)
    (case l__law_is_plain => k_is)
    (case c__law_is_plain => k_is)
    (case k__law_is_plain => k_is)
    (case a__law_many => k_is)
    (case l__law_many => k_is)
    (case c__law_many => k_is)
    (case k__law_many => k_is)
    (case a__law_bent => k_is)
    (case l__law_bent => k_is)
    (case c__law_bent => k_is)
    (case k__law_bent => k_is)
    (case a__law_judged => k_is)
    (case l__law_judged => k_is)
    (case c__law_judged => k_is)
    (case k__law_judged => k_is)
    (case a_law => k_is)
    (case l_law => k_is)
    (case c_law => k_is)
    (case k_law => k_is)
    (case n_isinstance => k_is)
    (case n_int => k_is)
    (case n_bool => k_is)
    (case n_sorted => k_is)
    (case n_set => k_is)
    (case n_tuple => k_is)
    (case n_str => k_is)
    (case n_len => k_is)
    (case n_all => k_is)
    (case n_zip => k_is)
    (case n_list => k_is)
    (case n_range => k_is)
    (case n_min => k_is)
    (case n_sum => k_is)
    (case n_repr => k_is)
    (case q_MOST_CALLS => k_is)
    (case q_MOST_RESETS => k_is)
    (case q_MOST_MANY => k_is)
    (case q_JOINTS => k_is)
    (case w_JOINTS => k_is)
    (case q_MOST_PARTS => k_is)
    (case q_MOST_PLAIN => k_is)
    (case u_is_whole => k_is)
end
